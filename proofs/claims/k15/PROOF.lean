import PyProof.Rows.All
import Wide.All
import OpenK.AllK
import Wide.FinOn
import HandS.ForMost
import HandS.ForExc
import HandS.TupAny
import HandS.DeepEq
import HandS.IsInst
import HandS.Walk
import KE.GoesEnum
import HandS.ExcIs
import HandS.ListItems
import HandS.Conv
import HandS.WordsDict
import HandS.ExcOwn
import HandS.More
import HandS.SetFor
import HandS.Deep
import HandS.Text
import HandS.RaiseMore
import HandS.Wide
import KE.IntTextLaws
import HandS.TupMul
import PySem.Challenge.RW_lendback_k15_whole_written_programs_are
set_option Elab.async false
set_option linter.all false
set_option maxRecDepth 100000
set_option maxHeartbeats 1000000
namespace DL
open PySem L2
/-- data: what a program's value is, whatever the addresses of its tuples -/
inductive D where
  | non | bl (b : Bool) | int (i : Int) | str (x : Str) | ref (a : Addr) | ty (n : String) | tup (l : List D) | rol (l : List D)
/-- objects that never change keep standing -/
def fixedO : HO → Prop
  | .tup _ => True
  | .frz _ _ => True
  | _ => False
def Imm (H H' : Hp) : Prop := ∀ a o, H a = some o → fixedO o → H' a = some o
theorem Imm.refl (H : Hp) : Imm H H := fun _ _ h _ => h
theorem Imm.trans {H H1 H2 : Hp} (a : Imm H H1) (b : Imm H1 H2) : Imm H H2 := fun x o h f => b x o (a x o h f) f
theorem Imm.new {H : Hp} {p : Addr} {o : HO} (h : H p = none) : Imm H (upd H p o) := fun a u e _ => by
  rw [upd_ne (ne_of_none e h)]
  exact e
theorem Imm.set {H : Hp} {p : Addr} {o u : HO} (h : H p = some u) (nf : ¬ fixedO u) : Imm H (upd H p o) := fun a w e f => by
  by_cases hap : a = p
  · subst hap
    rw [h] at e
    cases e
    exact absurd f nf
  · rw [upd_ne hap]
    exact e
theorem imm_rdT {H H' : Hp} {a : Addr} {xs : List V} (i : Imm H H') (h : Rd H a (.tup xs)) : Rd H' a (.tup xs) := by
  rcases h with h | ⟨o, h⟩
  · exact .inl (i a _ h trivial)
  · exact .inr ⟨o, i a _ h trivial⟩
theorem imm_sqT {K : PySem.W.Frag} {H H' : Hp} {a : Addr} {xs : List V} (i : Imm H H') (h : SqT K H a xs) : SqT K H' a xs := by
  rcases h with h | h
  · exact .inl (imm_rdT i h)
  · exact .inr h
/-- a list that never changes -/
def SqF (K : PySem.W.Frag) (H : Hp) (a : Addr) (xs : List V) : Prop :=
  (∃ o, H a = some (.frz o (.lst xs))) ∨
    ∃ (o : Obj) (its : Array Value) (n : Nat), K.lookup a = some o ∧ o.cls = .type "list" ∧ o.dict = none ∧ o.data = .seq its n ∧ its.size ≤ sizeLine ∧ Vals xs its.toList
theorem SqF.sq {K : PySem.W.Frag} {H : Hp} {a : Addr} {xs : List V} (h : SqF K H a xs) : SqL K H a xs := by
  rcases h with ⟨o, h⟩ | h
  · exact .inl (.inr ⟨o, h⟩)
  · exact .inr h
theorem imm_sqF {K : PySem.W.Frag} {H H' : Hp} {a : Addr} {xs : List V} (i : Imm H H') (h : SqF K H a xs) : SqF K H' a xs := by
  rcases h with ⟨o, h⟩ | h
  · exact .inl ⟨o, i a _ h trivial⟩
  · exact .inr h
mutual
inductive Tp (K : PySem.W.Frag) (H : Hp) : V → D → Prop
  | non : Tp K H .non .non
  | bl (b : Bool) : Tp K H (.bl b) (.bl b)
  | int (i : Int) : Tp K H (.int i) (.int i)
  | str (x : Str) : Tp K H (.str x) (.str x)
  | ref (a : Addr) : Tp K H (.ref a) (.ref a)
  | ty (n : String) : Tp K H (.ty n) (.ty n)
  | tup {a : Addr} {xs : List V} {ds : List D} : SqT K H a xs → Tps K H xs ds → Tp K H (.ref a) (.tup ds)
  | rol {a : Addr} {xs : List V} {ds : List D} : SqF K H a xs → Tps K H xs ds → Tp K H (.ref a) (.rol ds)
inductive Tps (K : PySem.W.Frag) (H : Hp) : List V → List D → Prop
  | nil : Tps K H [] []
  | cons {v : V} {vs : List V} {d : D} {ds : List D} : Tp K H v d → Tps K H vs ds → Tps K H (v :: vs) (d :: ds)
end
mutual
theorem Tp.mono {K : PySem.W.Frag} {H H' : Hp} (i : Imm H H') : ∀ (d : D) (v : V), Tp K H v d → Tp K H' v d
  | .non, _, h => by cases h; exact .non
  | .bl b, _, h => by cases h; exact .bl b
  | .int n, _, h => by cases h; exact .int n
  | .str x, _, h => by cases h; exact .str x
  | .ref a, _, h => by cases h; exact .ref a
  | .ty n, _, h => by cases h; exact .ty n
  | .tup ds, _, h => by
    cases h with
    | tup hs ha => exact .tup (imm_sqT i hs) (Tps.mono i ds _ ha)
  | .rol ds, _, h => by
    cases h with
    | rol hs ha => exact .rol (imm_sqF i hs) (Tps.mono i ds _ ha)
theorem Tps.mono {K : PySem.W.Frag} {H H' : Hp} (i : Imm H H') : ∀ (ds : List D) (vs : List V), Tps K H vs ds → Tps K H' vs ds
  | [], _, h => by cases h; exact .nil
  | d :: ds, _, h => by
    cases h with
    | cons h1 h2 => exact .cons (Tp.mono i d _ h1) (Tps.mono i ds _ h2)
end
section
variable {K : PySem.W.Frag} {H : Hp}
theorem Tps.length : ∀ {vs : List V} {ds : List D}, Tps K H vs ds → vs.length = ds.length
  | _, _, .nil => rfl
  | _, _, .cons _ t => by rw [List.length_cons, List.length_cons, Tps.length t]
theorem Tps.get : ∀ {vs : List V} {ds : List D} {i : Nat} {d : D}, Tps K H vs ds → ds[i]? = some d → ∃ v, vs[i]? = some v ∧ Tp K H v d
  | _, _, _, _, .nil, h => by simp at h
  | _, _, 0, _, .cons r _, h => by simp at h; subst h; exact ⟨_, rfl, r⟩
  | _, _, i + 1, _, .cons _ t, h => by
    obtain ⟨v, e, r⟩ := Tps.get (i := i) t (by simpa using h)
    exact ⟨v, by simpa using e, r⟩
theorem Tps.get' : ∀ {vs : List V} {ds : List D} {i : Nat} {v : V}, Tps K H vs ds → vs[i]? = some v → ∃ d, ds[i]? = some d ∧ Tp K H v d
  | _, _, _, _, .nil, h => by simp at h
  | _, _, 0, _, .cons r _, h => by simp at h; subst h; exact ⟨_, rfl, r⟩
  | _, _, i + 1, _, .cons _ t, h => by
    obtain ⟨v, e, r⟩ := Tps.get' (i := i) t (by simpa using h)
    exact ⟨v, by simpa using e, r⟩
theorem Tps.append : ∀ {vs us : List V} {ds es : List D}, Tps K H vs ds → Tps K H us es → Tps K H (vs ++ us) (ds ++ es)
  | _, _, _, _, .nil, s => s
  | _, _, _, _, .cons r t, s => .cons r (Tps.append t s)
theorem Tps.take : ∀ {vs : List V} {ds : List D} (n : Nat), Tps K H vs ds → Tps K H (vs.take n) (ds.take n)
  | _, _, 0, _ => .nil
  | _, _, _ + 1, .nil => .nil
  | _, _, n + 1, .cons r t => .cons r (Tps.take n t)
theorem Tps.drop : ∀ {vs : List V} {ds : List D} (n : Nat), Tps K H vs ds → Tps K H (vs.drop n) (ds.drop n)
  | _, _, 0, r => r
  | _, _, _ + 1, .nil => .nil
  | _, _, n + 1, .cons _ t => Tps.drop n t
theorem Tps.set {v : V} {d : D} (r : Tp K H v d) : ∀ {vs : List V} {ds : List D} (n : Nat), Tps K H vs ds → Tps K H (vs.set n v) (ds.set n d)
  | _, _, _, .nil => .nil
  | _, _, 0, .cons _ t => .cons r t
  | _, _, n + 1, .cons q t => .cons q (Tps.set r n t)
theorem Tps.dropLast : ∀ {vs : List V} {ds : List D}, Tps K H vs ds → Tps K H vs.dropLast ds.dropLast
  | _, _, .nil => .nil
  | _, _, .cons _ .nil => .nil
  | _, _, .cons r (.cons q t) => .cons r (Tps.dropLast (.cons q t))
theorem Tps.eraseIdx : ∀ {vs : List V} {ds : List D} (n : Nat), Tps K H vs ds → Tps K H (vs.eraseIdx n) (ds.eraseIdx n)
  | _, _, _, .nil => .nil
  | _, _, 0, .cons _ t => t
  | _, _, n + 1, .cons r t => .cons r (Tps.eraseIdx n t)
theorem Tps.cut {vs : List V} {ds : List D} (lo hi : Option Int) (r : Tps K H vs ds) : Tps K H (cutV vs lo hi) ((ds.drop (HT.sIx ds.length 0 lo)).take (HT.sIx ds.length ds.length hi - HT.sIx ds.length 0 lo)) := by
  unfold cutV
  rw [r.length]
  exact (r.drop _).take _
theorem Tps.reverse {vs : List V} {ds : List D} (r : Tps K H vs ds) : Tps K H vs.reverse ds.reverse := by
  induction r using Tps.rec (motive_1 := fun _ _ _ => True) with
  | nil => exact .nil
  | cons r _ _ ih => rw [List.reverse_cons, List.reverse_cons]; exact ih.append (.cons r .nil)
  | _ => trivial
theorem Tps.ints : ∀ (ns : List Int), Tps K H (ns.map V.int) (ns.map D.int)
  | [] => .nil
  | n :: r => .cons (.int n) (Tps.ints r)
theorem tps_ints : ∀ {vs : List V} {ns : List Int}, Tps K H vs (ns.map D.int) → vs = ns.map V.int
  | _, [], .nil => rfl
  | _, n :: r, .cons h t => by cases h; rw [tps_ints t]; rfl
theorem tps_strs : ∀ {vs : List V} {ns : List Str}, Tps K H vs (ns.map D.str) → vs = ns.map V.str
  | _, [], .nil => rfl
  | _, n :: r, .cons h t => by cases h; rw [tps_strs t]; rfl
theorem Tps.strs : ∀ (ns : List Str), Tps K H (ns.map V.str) (ns.map D.str)
  | [] => .nil
  | n :: r => .cons (.str n) (Tps.strs r)
end
/-! ### what stands at an address that may change -/
inductive MO where
  | lst (ds : List D)
  | dK (kvs : List (Key × D))
  | ins (C dx : Addr) (fs : List (Str × D))
  | own (x : Addr)
  | fix (o : HO)
  | xd (fs : List (Str × D))
abbrev Mp := Addr → Option MO
def updM (M : Mp) (a : Addr) (o : MO) : Mp := fun b => if b = a then some o else M b
theorem updM_same {M : Mp} {a : Addr} {o : MO} : updM M a o a = some o := by unfold updM; rw [if_pos rfl]
theorem updM_ne {M : Mp} {a b : Addr} {o : MO} (h : b ≠ a) : updM M a o b = M b := by unfold updM; rw [if_neg h]
theorem updM_updM {M : Mp} {a : Addr} {o u : MO} : updM (updM M a o) a u = updM M a u := by
  funext b; unfold updM; split <;> rfl
inductive KVs (K : PySem.W.Frag) (H : Hp) {κ : Type} : List (κ × V) → List (κ × D) → Prop
  | nil : KVs K H [] []
  | cons {k : κ} {v : V} {d : D} {vs : List (κ × V)} {ds : List (κ × D)} : Tp K H v d → KVs K H vs ds → KVs K H ((k, v) :: vs) ((k, d) :: ds)
theorem KVs.mono {K : PySem.W.Frag} {H H' : Hp} {κ : Type} (i : Imm H H') : ∀ {vs : List (κ × V)} {ds : List (κ × D)}, KVs K H vs ds → KVs K H' vs ds
  | _, _, .nil => .nil
  | _, _, .cons r t => .cons (Tp.mono i _ _ r) (KVs.mono i t)
theorem KVs.length {K : PySem.W.Frag} {H : Hp} {κ : Type} : ∀ {vs : List (κ × V)} {ds : List (κ × D)}, KVs K H vs ds → vs.length = ds.length
  | _, _, .nil => rfl
  | _, _, .cons _ t => by rw [List.length_cons, List.length_cons, KVs.length t]
def RelO (K : PySem.W.Frag) (H : Hp) : MO → HO → Prop
  | .lst ds, o => ∃ xs, o = .lst xs ∧ Tps K H xs ds
  | .dK kvs, o => ∃ xs, o = .dK xs ∧ KVs K H xs kvs
  | .ins C dx fs, o => ∃ gs, o = .ins C dx gs ∧ KVs K H gs fs
  | .own x, o => o = .own x
  | .fix u, o => o = u ∧ fixedO u
  | .xd fs, o => ∃ gs, o = .xd gs ∧ KVs K H gs fs
theorem RelO.mono {K : PySem.W.Frag} {H H' : Hp} (i : Imm H H') : ∀ {m : MO} {o : HO}, RelO K H m o → RelO K H' m o
  | .lst _, _, ⟨xs, e, h⟩ => ⟨xs, e, Tps.mono i _ _ h⟩
  | .dK _, _, ⟨xs, e, h⟩ => ⟨xs, e, KVs.mono i h⟩
  | .ins _ _ _, _, ⟨gs, e, h⟩ => ⟨gs, e, KVs.mono i h⟩
  | .own _, _, e => e
  | .fix _, _, e => e
  | .xd _, _, ⟨gs, e, h⟩ => ⟨gs, e, KVs.mono i h⟩
def RelM (K : PySem.W.Frag) (M : Mp) (H : Hp) : Prop := ∀ a m, M a = some m → ∃ o, H a = some o ∧ RelO K H m o
section
variable {K : PySem.W.Frag} {H H' : Hp} {M M' : Mp} {p : Addr} {m : MO} {o : HO}
theorem RelM.fresh (r : RelM K M H) (h : H p = none) : M p = none := by
  cases e : M p with
  | none => rfl
  | some m =>
    obtain ⟨o, q, _⟩ := r p m e
    rw [h] at q
    cases q
/-- a new object that M does not tell -/
theorem RelM.skip (r : RelM K M H) (h : H p = none) : RelM K M (upd H p o) := fun a m e => by
  obtain ⟨u, q, z⟩ := r a m e
  exact ⟨u, by rw [upd_ne (ne_of_none q h)]; exact q, z.mono (Imm.new h)⟩
theorem RelM.new (r : RelM K M H) (h : H p = none) (z : RelO K (upd H p o) m o) : RelM K (updM M p m) (upd H p o) := fun a n e => by
  by_cases hap : a = p
  · subst hap
    rw [updM_same] at e
    cases e
    exact ⟨o, upd_same, z⟩
  · rw [updM_ne hap] at e
    exact r.skip h a n e
theorem RelM.set (r : RelM K M H) {u : HO} (h : H p = some u) (nf : ¬ fixedO u) (z : RelO K (upd H p o) m o) : RelM K (updM M p m) (upd H p o) := fun a n e => by
  by_cases hap : a = p
  · subst hap
    rw [updM_same] at e
    cases e
    exact ⟨o, upd_same, z⟩
  · rw [updM_ne hap] at e
    obtain ⟨w, q, y⟩ := r a n e
    exact ⟨w, by rw [upd_ne hap]; exact q, y.mono (Imm.set h nf)⟩
/-- less is told -/
def Mle (M M' : Mp) : Prop := ∀ a m, M a = some m → M' a = some m
theorem Mle.refl (M : Mp) : Mle M M := fun _ _ h => h
theorem Mle.trans {M M1 M2 : Mp} (a : Mle M M1) (b : Mle M1 M2) : Mle M M2 := fun x o h => b x o (a x o h)
theorem Mle.new (h : M p = none) : Mle M (updM M p m) := fun a n e => by
  rw [updM_ne (by rintro rfl; rw [h] at e; cases e)]
  exact e
theorem Mle.new2 (l : Mle M M') (h : M p = none) : Mle M (updM M' p m) := fun a n e => by
  rw [updM_ne (by rintro rfl; rw [h] at e; cases e)]
  exact l a n e
theorem RelM.le (r : RelM K M' H) (l : Mle M M') : RelM K M H := fun a n e => r a n (l a n e)
theorem mne {a b : Addr} {m : MO} (h : M a = some m) (h' : M b = none) : a ≠ b := by
  rintro rfl
  rw [h] at h'
  cases h'
end
theorem Mle.fresh {M M' : Mp} {p : Addr} (l : Mle M M') (h : M' p = none) : M p = none := by
  cases e : M p with
  | none => rfl
  | some m =>
    have := l p m e
    rw [h] at this
    cases this
theorem Mle.newR {M M' : Mp} {p : Addr} {m : MO} (l : Mle M M') (h : M' p = none) : Mle M (updM M' p m) := l.new2 (l.fresh h)
/-- all but what stands at a is kept -/
def Keep (a : Addr) (M M' : Mp) : Prop := ∀ b m, b ≠ a → M b = some m → M' b = some m
theorem Keep.refl {a : Addr} {M : Mp} : Keep a M M := fun _ _ _ h => h
theorem Keep.trans {a : Addr} {M M1 M2 : Mp} (h : Keep a M M1) (k : Keep a M1 M2) : Keep a M M2 := fun b m hb e => k b m hb (h b m hb e)
theorem Keep.upd {a : Addr} {M : Mp} {m : MO} : Keep a M (updM M a m) := fun b n hb e => by rw [updM_ne hb]; exact e
theorem Keep.set {a : Addr} {M M' : Mp} {m : MO} (k : Keep a M M') : Keep a M (updM M' a m) := k.trans Keep.upd
theorem Keep.newR {a p : Addr} {M M' : Mp} {m : MO} (k : Keep a M M') (h : M' p = none) : Keep a M (updM M' p m) := fun b n hb e => by
  have e' := k b n hb e
  rw [updM_ne (by rintro rfl; rw [h] at e'; cases e')]
  exact e'
theorem Mle.keep {a : Addr} {M M' : Mp} (l : Mle M M') : Keep a M M' := fun b m _ e => l b m e
theorem Keep.to {a : Addr} {M M1 M2 : Mp} (h : Keep a M M1) (l : Mle M1 M2) : Keep a M M2 := h.trans l.keep
/-- a write to another place that M does not tell -/
theorem Keep.setN {a p : Addr} {M M' : Mp} {m : MO} (k : Keep a M M') (h : M p = none) : Keep a M (updM M' p m) := fun b n hb e => by
  rw [updM_ne (by rintro rfl; rw [h] at e; cases e)]
  exact k b n hb e
theorem Keep.fresh {a p : Addr} {M M' : Mp} (k : Keep a M M') (ha : ∃ m, M' a = some m) (h : M' p = none) : M p = none := by
  cases e : M p with
  | none => rfl
  | some m =>
    have hne : p ≠ a := by
      rintro rfl
      obtain ⟨m', q⟩ := ha
      rw [h] at q
      cases q
    have := k p m hne e
    rw [h] at this
    cases this
theorem Keep.other {a p : Addr} {M M1 M2 : Mp} (k : Keep a M M1) (k' : Keep p M1 M2) (h : M p = none) : Keep a M M2 := fun b m hb e => k' b m (by rintro rfl; rw [h] at e; cases e) (k b m hb e)
theorem Mle.other {p : Addr} {M M1 M2 : Mp} (k : Mle M M1) (k' : Keep p M1 M2) (h : M p = none) : Mle M M2 := fun b m e => k' b m (by rintro rfl; rw [h] at e; cases e) (k b m e)
/-- a new object; an object changed -/
def NewM (M : Mp) (o : MO) (Q : Addr → Mp → Prop) : Prop := ∀ p M', M p = none → M' p = some o → Mle M M' → Q p M'
def SetM (M : Mp) (a : Addr) (o : MO) (Q : Mp → Prop) : Prop := ∀ M', M' a = some o → Keep a M M' → Q M'
theorem NewM.at {M : Mp} {o : MO} {Q : Addr → Mp → Prop} (h : NewM M o Q) {p : Addr} (hp : M p = none) : Q p (updM M p o) := h p _ hp updM_same (Mle.new hp)
theorem SetM.at {M : Mp} {a : Addr} {o : MO} {Q : Mp → Prop} (h : SetM M a o Q) : Q (updM M a o) := h _ updM_same Keep.upd
theorem Keep.at {a p : Addr} {M M' : Mp} {m : MO} (k : Keep a M M') (h : p ≠ a) (e : M p = some m) : M' p = some m := k p m h e
theorem Mle.at {p : Addr} {M M' : Mp} {m : MO} (k : Mle M M') (e : M p = some m) : M' p = some m := k p m e
/-! ### slots -/
abbrev Sd := List (Option D)
structure Slots (K : PySem.W.Frag) (H : Hp) (σv : L2.St) (σ : Sd) : Prop where
  len : σv.length = σ.length
  at_ : ∀ (i : Nat) (d : D), σ[i]? = some (some d) → ∃ v, σv[i]? = some (some v) ∧ Tp K H v d
section
variable {K : PySem.W.Frag} {H H' : Hp} {σv : L2.St} {σ : Sd}
theorem Slots.mono (i : Imm H H') (s : Slots K H σv σ) : Slots K H' σv σ := ⟨s.len, fun j d h => let ⟨v, e, r⟩ := s.at_ j d h; ⟨v, e, Tp.mono i _ _ r⟩⟩
theorem Slots.set (s : Slots K H σv σ) {v : V} {d : D} (r : Tp K H v d) (i : Nat) : Slots K H (σv.set i (some v)) (σ.set i (some d)) := by
  refine ⟨by rw [List.length_set, List.length_set, s.len], fun j e h => ?_⟩
  by_cases hj : j = i
  · subst hj
    by_cases hl : j < σ.length
    · rw [List.getElem?_set_self hl] at h
      cases h
      exact ⟨v, by rw [List.getElem?_set_self (by rw [s.len]; exact hl)], r⟩
    · rw [List.getElem?_eq_none (by rw [List.length_set]; omega)] at h
      cases h
  · rw [List.getElem?_set_ne (Ne.symm hj)] at h
    obtain ⟨v', e', r'⟩ := s.at_ j e h
    exact ⟨v', by rw [List.getElem?_set_ne (Ne.symm hj)]; exact e', r'⟩
def startD (N : List Str) (ds : List D) : Sd := ds.map some ++ List.replicate (N.length - ds.length) none
theorem Slots.start {N : List Str} {vs : List V} {ds : List D} (r : Tps K H vs ds) : Slots K H (L2.start N vs) (startD N ds) := by
  refine ⟨by unfold L2.start startD; rw [List.length_append, List.length_append, List.length_map, List.length_map, List.length_replicate, List.length_replicate, r.length], fun i d h => ?_⟩
  unfold startD at h
  by_cases hi : i < ds.length
  · rw [List.getElem?_append_left (by rw [List.length_map]; exact hi), List.getElem?_map] at h
    cases e : ds[i]? with
    | none => rw [e] at h; cases h
    | some d' =>
      rw [e] at h
      cases h
      obtain ⟨v, q, z⟩ := r.get e
      refine ⟨v, ?_, z⟩
      unfold L2.start
      rw [List.getElem?_append_left (by rw [List.length_map, r.length]; exact hi), List.getElem?_map, q]
      rfl
  · rw [List.getElem?_append_right (by rw [List.length_map]; omega), List.getElem?_replicate] at h
    split at h <;> cases h
end
end DL
set_option maxHeartbeats 1000000
namespace DL
open PySem L2 PySem.Spec PyProof.Rows
/-! ### readings by meaning -/
def tE (X : Cx) (e : Expr) : TE := fun σ H Q => ∀ pins s, Inv X pins σ H s → wpAny (model X.prog X.w) X.A (eval e X.env) (EP X pins σ Q) X.xe s
def tT (X : Cx) (e : Expr) : TT := fun σ H Q => ∀ pins s, Inv X pins σ H s → wpAny (model X.prog X.w) X.A (isTrue e X.env (eval e X.env)) (TP X pins σ Q) X.xe s
def tW (X : Cx) (e : Expr) : TT := fun σ H Q => ∀ whole pins s, Inv X pins σ H s → wpAny (model X.prog X.w) X.A (isTrue e X.env whole) (TP X pins σ Q) X.xe s
def tA (X : Cx) (es : List Expr) : TA := fun σ H Q => ∀ pos pins s, Inv X pins σ H s → wpAny (model X.prog X.w) X.A (spliced (backTo pos (starEach es X.env))) (AP X pins σ Q) X.xe s
def tS (X : Cx) (st : Stmt) : TS := fun D σ H => ∀ pins s, Inv X pins σ H s → wpAny (model X.prog X.w) X.A (exec st X.env) (SP X pins D) X.xe s
def tSs (X : Cx) (st : List Stmt) : TS := fun D σ H => ∀ pins s, Inv X pins σ H s → wpAny (model X.prog X.w) X.A (execs st X.env) (SP X pins D) X.xe s
def tG (X : Cx) (tg : Expr) : TG := fun v σ H Q => ∀ pins s u, Inv X pins σ H s → RelV v u → wpAny (model X.prog X.w) X.A (assign tg X.env u) (fun _ s' => ∃ σ' H', Inv X pins σ' H' s' ∧ Q σ' H') X.xe s
def tGs (X : Cx) (ts : List Expr) : TGs := fun vs σ H Q => ∀ pins s us, Inv X pins σ H s → Vals vs us → wpAny (model X.prog X.w) X.A (assignInOrder ((assignEach ts X.env).map (·.2)) us) (fun _ s' => ∃ σ' H', Inv X pins σ' H' s' ∧ Q σ' H') X.xe s
def tI (X : Cx) (tg iter : Expr) : TI := fun σ H R => ∀ pins s, Inv X pins σ H s → wpAny (model X.prog X.w) X.A (eval iter X.env) (fun v s1 => wpAny (model X.prog X.w) X.A (pyIter v) (PIE X pins σ tg R) X.xe s1) X.xe s
def tO (X : Cx) (e : Option Expr) (t : TO) : Prop := PO X e t
section
variable {X : Cx} {e : Expr} {es : List Expr} {st : Stmt} {sts : List Stmt} {tg iter : Expr}
theorem pe_sem : PE X e (tE X e) := ⟨fun pins s σ H Q I h => h pins s I⟩
theorem pt_sem : PT X e (tT X e) := ⟨fun pins s σ H Q I h => h pins s I⟩
theorem pw_sem : PW X e (tW X e) := ⟨fun wh pins s σ H Q I h => h wh pins s I⟩
theorem pa_sem : PA X es (tA X es) := ⟨fun pos pins s σ H Q I h => h pos pins s I⟩
theorem ps_sem : PS X st (tS X st) := ⟨fun pins s σ H D I h => h pins s I⟩
theorem pss_sem : PSs X sts (tSs X sts) := ⟨fun pins s σ H D I h => h pins s I⟩
theorem pg_sem : PG X tg (tG X tg) := ⟨fun pins s σ H v u Q I r h => h pins s u I r⟩
theorem pgs_sem : PGs X es (tGs X es) := ⟨fun pins s σ H vs us Q I r h => h pins s us I r⟩
theorem pi_sem : PI X tg iter (tI X tg iter) := ⟨fun pins s σ H R I h => h pins s I⟩
variable {σ σ' : L2.St} {H H' : Hp}
theorem tE.mono {Q Q' : VK} (h : tE X e σ H Q) (k : ∀ v H', Q v H' → Q' v H') : tE X e σ H Q' := fun pins s I => thn (h pins s I) fun u s' ⟨v, H', I', r, q⟩ => ⟨v, H', I', r, k v H' q⟩
theorem tT.mono {Q Q' : Bool → Hp → Prop} (h : tT X e σ H Q) (k : ∀ v H', Q v H' → Q' v H') : tT X e σ H Q' := fun pins s I => thn (h pins s I) fun u s' ⟨H', I', q⟩ => ⟨H', I', k u H' q⟩
theorem tW.mono {Q Q' : Bool → Hp → Prop} (h : tW X e σ H Q) (k : ∀ v H', Q v H' → Q' v H') : tW X e σ H Q' := fun wh pins s I => thn (h wh pins s I) fun u s' ⟨H', I', q⟩ => ⟨H', I', k u H' q⟩
theorem tA.mono {Q Q' : List V → Hp → Prop} (h : tA X es σ H Q) (k : ∀ v H', Q v H' → Q' v H') : tA X es σ H Q' := fun pos pins s I => thn (h pos pins s I) fun u s' ⟨v, H', I', r, q⟩ => ⟨v, H', I', r, k v H' q⟩
theorem tG.mono {v : V} {Q Q' : L2.St → Hp → Prop} (h : tG X tg v σ H Q) (k : ∀ v H', Q v H' → Q' v H') : tG X tg v σ H Q' := fun pins s u I r => thn (h pins s u I r) fun _ s' ⟨σ', H', I', q⟩ => ⟨σ', H', I', k σ' H' q⟩
theorem tGs.mono {vs : List V} {Q Q' : L2.St → Hp → Prop} (h : tGs X es vs σ H Q) (k : ∀ v H', Q v H' → Q' v H') : tGs X es vs σ H Q' := fun pins s u I r => thn (h pins s u I r) fun _ s' ⟨σ', H', I', q⟩ => ⟨σ', H', I', k σ' H' q⟩
theorem tI.mono {R R' : It → Hp → Prop} (h : tI X tg iter σ H R) (k : ∀ v H', R v H' → R' v H') : tI X tg iter σ H R' := fun pins s I => thn (h pins s I) fun v s1 h1 => thn h1 fun itv s2 ⟨it, fp, tn, J, H2, e, I2, T, st, f, q⟩ => ⟨it, fp, tn, J, H2, e, I2, T, st, f, k J H2 q⟩
structure EndsLe (D D' : Ends) : Prop where
  nx : ∀ σ H, D.nx σ H → D'.nx σ H
  rt : ∀ v H, D.rt v H → D'.rt v H
  bk : ∀ σ H, D.bk σ H → D'.bk σ H
  ct : ∀ σ H, D.ct σ H → D'.ct σ H
theorem SP.le {D D' : Ends} {pins : List (Addr × Obj)} {f : Flow} {s' : Shared} (h : SP X pins D f s') (k : EndsLe D D') : SP X pins D' f s' := by
  cases f with
  | next => obtain ⟨σ', H', I, q⟩ := h; exact ⟨σ', H', I, k.nx _ _ q⟩
  | brk => obtain ⟨σ', H', I, q⟩ := h; exact ⟨σ', H', I, k.bk _ _ q⟩
  | cont => obtain ⟨σ', H', I, q⟩ := h; exact ⟨σ', H', I, k.ct _ _ q⟩
  | ret u => obtain ⟨v, σ', H', I, r, q⟩ := h; exact ⟨v, σ', H', I, r, k.rt _ _ q⟩
theorem tS.mono {D D' : Ends} (h : tS X st D σ H) (k : EndsLe D D') : tS X st D' σ H := fun pins s I => thn (h pins s I) fun f s' q => SP.le q k
theorem tSs.mono {D D' : Ends} (h : tSs X sts D σ H) (k : EndsLe D D') : tSs X sts D' σ H := fun pins s I => thn (h pins s I) fun f s' q => SP.le q k
end
/-! ### the judgements over data -/
abbrev QD := D → Mp → Prop
/-- what follows, from the heap H on -/
def DQ (K : PySem.W.Frag) (H : Hp) (Q : QD) : VK := fun v H' => Imm H H' ∧ ∃ d M, RelM K M H' ∧ Tp K H' v d ∧ Q d M
def DB (K : PySem.W.Frag) (H : Hp) (Q : Bool → Mp → Prop) : Bool → Hp → Prop := fun b H' => Imm H H' ∧ ∃ M, RelM K M H' ∧ Q b M
def DA (K : PySem.W.Frag) (H : Hp) (Q : List D → Mp → Prop) : List V → Hp → Prop := fun vs H' => Imm H H' ∧ ∃ ds M, RelM K M H' ∧ Tps K H' vs ds ∧ Q ds M
def DN (K : PySem.W.Frag) (H : Hp) (Q : Sd → Mp → Prop) : L2.St → Hp → Prop := fun σv H' => Imm H H' ∧ ∃ σ M, Slots K H' σv σ ∧ RelM K M H' ∧ Q σ M
structure DE where
  nx : Sd → Mp → Prop
  rt : QD
  bk : Sd → Mp → Prop := fun _ _ => False
  ct : Sd → Mp → Prop := fun _ _ => False
def DE.ends (K : PySem.W.Frag) (H : Hp) (E : DE) : Ends := { nx := DN K H E.nx, rt := DQ K H E.rt, bk := DN K H E.bk, ct := DN K H E.ct }
section
variable {K : PySem.W.Frag} {H H0 H1 : Hp}
theorem DQ.from {Q : QD} (i : Imm H0 H) {v : V} {H' : Hp} (h : DQ K H Q v H') : DQ K H0 Q v H' := ⟨i.trans h.1, h.2⟩
theorem DB.from {Q : Bool → Mp → Prop} (i : Imm H0 H) {v : Bool} {H' : Hp} (h : DB K H Q v H') : DB K H0 Q v H' := ⟨i.trans h.1, h.2⟩
theorem DA.from {Q : List D → Mp → Prop} (i : Imm H0 H) {v : List V} {H' : Hp} (h : DA K H Q v H') : DA K H0 Q v H' := ⟨i.trans h.1, h.2⟩
theorem DN.from {Q : Sd → Mp → Prop} (i : Imm H0 H) {v : L2.St} {H' : Hp} (h : DN K H Q v H') : DN K H0 Q v H' := ⟨i.trans h.1, h.2⟩
theorem DE.from {E : DE} (i : Imm H0 H) : EndsLe (E.ends K H) (E.ends K H0) := ⟨fun _ _ h => DN.from i h, fun _ _ h => DQ.from i h, fun _ _ h => DN.from i h, fun _ _ h => DN.from i h⟩
end
structure ES (X : Cx) (e : Expr) (σ : Sd) (M : Mp) (Q : QD) : Prop where
  run : ∀ σv H, Slots X.K H σv σ → RelM X.K M H → tE X e σv H (DQ X.K H Q)
structure TT3 (X : Cx) (e : Expr) (σ : Sd) (M : Mp) (Q : Bool → Mp → Prop) : Prop where
  run : ∀ σv H, Slots X.K H σv σ → RelM X.K M H → tT X e σv H (DB X.K H Q)
structure TW3 (X : Cx) (e : Expr) (σ : Sd) (M : Mp) (Q : Bool → Mp → Prop) : Prop where
  run : ∀ σv H, Slots X.K H σv σ → RelM X.K M H → tW X e σv H (DB X.K H Q)
structure AS (X : Cx) (es : List Expr) (σ : Sd) (M : Mp) (Q : List D → Mp → Prop) : Prop where
  run : ∀ σv H, Slots X.K H σv σ → RelM X.K M H → tA X es σv H (DA X.K H Q)
structure SS (X : Cx) (st : Stmt) (σ : Sd) (M : Mp) (E : DE) : Prop where
  run : ∀ σv H, Slots X.K H σv σ → RelM X.K M H → tS X st (E.ends X.K H) σv H
structure SSs (X : Cx) (sts : List Stmt) (σ : Sd) (M : Mp) (E : DE) : Prop where
  run : ∀ σv H, Slots X.K H σv σ → RelM X.K M H → tSs X sts (E.ends X.K H) σv H
structure GS (X : Cx) (tg : Expr) (d : D) (σ : Sd) (M : Mp) (Q : Sd → Mp → Prop) : Prop where
  run : ∀ σv H v, Slots X.K H σv σ → RelM X.K M H → Tp X.K H v d → tG X tg v σv H (DN X.K H Q)
structure GSs (X : Cx) (ts : List Expr) (ds : List D) (σ : Sd) (M : Mp) (Q : Sd → Mp → Prop) : Prop where
  run : ∀ σv H vs, Slots X.K H σv σ → RelM X.K M H → Tps X.K H vs ds → tGs X ts vs σv H (DN X.K H Q)
/-- what is walked: the items are known ahead; they stay while G holds of what may change -/
structure WalkD (K : PySem.W.Frag) (H0 : Hp) (J : It) (its : List D) (G : Mp → Prop) : Prop where
  goes : ∀ i H M, Imm H0 H → RelM K M H → G M → i < its.length → J.go i H
  stops : ∀ H M, Imm H0 H → RelM K M H → G M → J.stop its.length H
  yields : ∀ i H M x H' d, Imm H0 H → RelM K M H → G M → its[i]? = some d → J.yld i H x H' → Imm H H' ∧ RelM K M H' ∧ Tp K H' x d
structure IS (X : Cx) (tg iter : Expr) (σ : Sd) (M : Mp) (R : List D → (Mp → Prop) → Mp → Prop) : Prop where
  run : ∀ σv H, Slots X.K H σv σ → RelM X.K M H → tI X tg iter σv H fun J H1 => Imm H H1 ∧ ∃ its G M1, RelM X.K M1 H1 ∧ WalkD X.K H1 J its G ∧ R its G M1
section
variable {X : Cx} {e a b : Expr} {es : List Expr} {st : Stmt} {sts : List Stmt} {σ : Sd} {M : Mp} {Q : QD} {E : DE} {pos : Pos}
theorem ES.of {t : TE} (h : PE X e t) (q : ∀ σv H, Slots X.K H σv σ → RelM X.K M H → t σv H (DQ X.K H Q)) : ES X e σ M Q := ⟨fun σv H S R pins s I => h.run pins s σv H _ I (q σv H S R)⟩
theorem TT3.of {t : TT} {Q : Bool → Mp → Prop} (h : PT X e t) (q : ∀ σv H, Slots X.K H σv σ → RelM X.K M H → t σv H (DB X.K H Q)) : TT3 X e σ M Q := ⟨fun σv H S R pins s I => h.run pins s σv H _ I (q σv H S R)⟩
theorem TW3.of {t : TT} {Q : Bool → Mp → Prop} (h : PW X e t) (q : ∀ σv H, Slots X.K H σv σ → RelM X.K M H → t σv H (DB X.K H Q)) : TW3 X e σ M Q := ⟨fun σv H S R wh pins s I => h.run wh pins s σv H _ I (q σv H S R)⟩
theorem AS.of {t : TA} {Q : List D → Mp → Prop} (h : PA X es t) (q : ∀ σv H, Slots X.K H σv σ → RelM X.K M H → t σv H (DA X.K H Q)) : AS X es σ M Q := ⟨fun σv H S R pos pins s I => h.run pos pins s σv H _ I (q σv H S R)⟩
theorem SS.of {t : TS} (h : PS X st t) (q : ∀ σv H, Slots X.K H σv σ → RelM X.K M H → t (E.ends X.K H) σv H) : SS X st σ M E := ⟨fun σv H S R pins s I => h.run pins s σv H _ I (q σv H S R)⟩
theorem SSs.of {t : TS} (h : PSs X sts t) (q : ∀ σv H, Slots X.K H σv σ → RelM X.K M H → t (E.ends X.K H) σv H) : SSs X sts σ M E := ⟨fun σv H S R pins s I => h.run pins s σv H _ I (q σv H S R)⟩
/-- run an expression, from the heap H0 on -/
theorem ES.go {H0 H : Hp} {σv : L2.St} {Q' : VK} (h : ES X e σ M Q) (S : Slots X.K H σv σ) (R : RelM X.K M H)
    (k : ∀ v H1 d M1, Imm H H1 → RelM X.K M1 H1 → Tp X.K H1 v d → Q d M1 → Q' v H1) : tE X e σv H Q' :=
  (h.run σv H S R).mono fun v H1 ⟨i, d, M1, R1, t, q⟩ => k v H1 d M1 i R1 t q
theorem TT3.go {H : Hp} {σv : L2.St} {Q : Bool → Mp → Prop} {Q' : Bool → Hp → Prop} (h : TT3 X e σ M Q) (S : Slots X.K H σv σ) (R : RelM X.K M H)
    (k : ∀ v H1 M1, Imm H H1 → RelM X.K M1 H1 → Q v M1 → Q' v H1) : tT X e σv H Q' :=
  (h.run σv H S R).mono fun v H1 ⟨i, M1, R1, q⟩ => k v H1 M1 i R1 q
theorem TW3.go {H : Hp} {σv : L2.St} {Q : Bool → Mp → Prop} {Q' : Bool → Hp → Prop} (h : TW3 X e σ M Q) (S : Slots X.K H σv σ) (R : RelM X.K M H)
    (k : ∀ v H1 M1, Imm H H1 → RelM X.K M1 H1 → Q v M1 → Q' v H1) : tW X e σv H Q' :=
  (h.run σv H S R).mono fun v H1 ⟨i, M1, R1, q⟩ => k v H1 M1 i R1 q
theorem AS.go {H : Hp} {σv : L2.St} {Q : List D → Mp → Prop} {Q' : List V → Hp → Prop} (h : AS X es σ M Q) (S : Slots X.K H σv σ) (R : RelM X.K M H)
    (k : ∀ v H1 d M1, Imm H H1 → RelM X.K M1 H1 → Tps X.K H1 v d → Q d M1 → Q' v H1) : tA X es σv H Q' :=
  (h.run σv H S R).mono fun v H1 ⟨i, d, M1, R1, t, q⟩ => k v H1 d M1 i R1 t q
theorem ES.imp {Q' : QD} (h : ES X e σ M Q) (k : ∀ d M, Q d M → Q' d M) : ES X e σ M Q' := ⟨fun σv H S R => h.go (H0 := H) S R fun v H1 d M1 i R1 t q => ⟨i, d, M1, R1, t, k _ _ q⟩⟩
/-! ### names, constants -/
theorem e_var (i : Nat) {x : Str} {d : D} (h : σ[i]? = some (some d)) (q : Q d M) (hN : X.N[i]? = some x := by rfl) (hv : Vis X.env.scope x := by first | exact Or.inl rfl | exact Or.inr (Or.inl rfl) | exact Or.inr (Or.inr rfl))
    (hd : (x == ("__debug__" : Str)) = false := by decide) (hcd : (x == ("__classdict__" : Str)) = false := by decide) : ES X (.Name x pos) σ M Q :=
  ES.of (pe_var hN hv hd hcd) fun σv H S R => let ⟨v, e, r⟩ := S.at_ i d h; ⟨v, e, Imm.refl H, d, M, R, r, q⟩
theorem e_int {i j} (q : Q (.int i) M) : ES X (.Constant (.int i) j pos) σ M Q := ES.of pe_int fun σv H S R => ⟨Imm.refl H, _, M, R, .int i, q⟩
theorem e_bl {i j} (q : Q (.bl i) M) : ES X (.Constant (.bool i) j pos) σ M Q := ES.of pe_bl fun σv H S R => ⟨Imm.refl H, _, M, R, .bl i, q⟩
theorem e_non {j} (q : Q .non M) : ES X (.Constant .none j pos) σ M Q := ES.of pe_non fun σv H S R => ⟨Imm.refl H, _, M, R, .non, q⟩
theorem e_str {i j} (q : Q (.str i) M) : ES X (.Constant (.str i) j pos) σ M Q := ES.of pe_str fun σv H S R => ⟨Imm.refl H, _, M, R, .str i, q⟩
/-- a module's constant; a built-in's name -/
theorem e_glob {x : Str} {v : V} {u : Value} {d : D} (hm : X.mg x = some u) (r : RelV v u) (hd : ∀ H, Tp X.K H v d) (q : Q d M) (hg : Gl X x := by rfl) (hdb : (x == ("__debug__" : Str)) = false := by decide) : ES X (.Name x pos) σ M Q :=
  ES.of (pe_glob hg hm r hdb) fun σv H S R => ⟨Imm.refl H, d, M, R, hd H, q⟩
theorem e_bltn {x : Str} {v : V} {u : Value} {d : D} (hm : X.mg x = none) (hv : bootBuiltins x = some u) (r : RelV v u) (hd : ∀ H, Tp X.K H v d) (q : Q d M) (hg : Gl X x := by rfl) (hn : x ≠ "__name__" := by decide) (hdb : (x == ("__debug__" : Str)) = false := by decide) : ES X (.Name x pos) σ M Q :=
  ES.of (pe_bltn hg hm hv r hn hdb) fun σv H S R => ⟨Imm.refl H, d, M, R, hd H, q⟩
/-! ### operators -/
abbrev R3 := D → D → Mp → QD → Prop
def To (K : PySem.W.Frag) (H0 : Hp) (Q : QD) (Q' : VK) : Prop := ∀ v H' d M', Imm H0 H' → RelM K M' H' → Tp K H' v d → Q d M' → Q' v H'
theorem To.dq {K : PySem.W.Frag} {H0 : Hp} {Q : QD} : To K H0 Q (DQ K H0 Q) := fun _ _ d M' i R t q => ⟨i, d, M', R, t, q⟩
def RD (K : PySem.W.Frag) (r : R2) (R : R3) : Prop := ∀ H0 H M vx vy x y Q Q', Imm H0 H → RelM K M H → Tp K H vx x → Tp K H vy y → To K H0 Q Q' → R x y M Q → r vx vy H Q'
theorem op_goT {r : R2} {R : R3} (hR : RD X.K r R) (h : ES X a σ M fun x M1 => ES X b σ M1 fun y M2 => R x y M2 Q) :
    ∀ σv H, Slots X.K H σv σ → RelM X.K M H → ∀ Q', To X.K H Q Q' → tOp r (tE X a) (tE X b) σv H Q' := fun σv H S RM Q' to =>
  h.go (H0 := H) S RM fun v H1 x M1 i1 R1 t1 q1 => q1.go (H0 := H) (S.mono i1) R1 fun u H2 y M2 i2 R2 t2 q2 => hR H H2 M2 v u x y Q Q' (i1.trans i2) R2 (Tp.mono i2 _ _ t1) t2 to q2
theorem op_go {r : R2} {R : R3} (hR : RD X.K r R) (h : ES X a σ M fun x M1 => ES X b σ M1 fun y M2 => R x y M2 Q) :
    ∀ σv H, Slots X.K H σv σ → RelM X.K M H → tOp r (tE X a) (tE X b) σv H (DQ X.K H Q) := fun σv H S RM => op_goT hR h σv H S RM _ To.dq
theorem e_op {op : Operator} {r : R2} {R : R3} (ho : OpR X (binaryOp op) r) (hR : RD X.K r R) (h : ES X a σ M fun x M1 => ES X b σ M1 fun y M2 => R x y M2 Q) : ES X (.BinOp a op b pos) σ M Q :=
  ES.of (pe_op ho pe_sem pe_sem) (op_go hR h)
theorem e_cmp {op : CmpOp} {r : R2} {R : R3} (ho : OpR X (compareOp op) r) (hR : RD X.K r R) (hm : behindInMarks op b = false) (h : ES X a σ M fun x M1 => ES X b σ M1 fun y M2 => R x y M2 Q) : ES X (.Compare a [op] [b] pos) σ M Q :=
  ES.of (pe_cmpR ho pe_sem pe_sem hm) (op_go hR h)
theorem OpR.or {f : Value → Value → Sem Value} {r r' : R2} (h : OpR X f r) (h' : OpR X f r') : OpR X f (fun x y H Q => r x y H Q ∨ r' x y H Q) := fun pins s σ H x y v u Q I rx ry q => by
  rcases q with q | q
  · exact h pins s σ H x y v u Q I rx ry q
  · exact h' pins s σ H x y v u Q I rx ry q
end
section
variable {K : PySem.W.Frag}
def RInt (C : Int → Int → Prop) (g : Int → Int → D) : R3 := fun x y M Q => match x, y with
  | .int i, .int j => C i j ∧ Q (g i j) M
  | _, _ => False
def RInt0 (g : Int → Int → D) : R3 := fun x y M Q => match x, y with
  | .int i, .int j => Q (g i j) M
  | _, _ => False
theorem rd_int {C : Int → Int → Prop} {g : Int → Int → Int} : RD K (rI C fun i j => .int (g i j)) (RInt C fun i j => .int (g i j)) := by
  intro H0 H M vx vy x y Q Q' i R tx ty k q
  cases tx <;> cases ty <;> first | exact False.elim q | exact ⟨_, _, rfl, rfl, q.1, k _ _ _ _ i R (.int _) q.2⟩
theorem rd_int0 {g : Int → Int → Int} : RD K (rI0 fun i j => .int (g i j)) (RInt0 fun i j => .int (g i j)) := by
  intro H0 H M vx vy x y Q Q' i R tx ty k q
  cases tx <;> cases ty <;> first | exact False.elim q | exact ⟨_, _, rfl, rfl, k _ _ _ _ i R (.int _) q⟩
theorem rd_cmp0 {g : Int → Int → Bool} : RD K (rI0 fun i j => .bl (g i j)) (RInt0 fun i j => .bl (g i j)) := by
  intro H0 H M vx vy x y Q Q' i R tx ty k q
  cases tx <;> cases ty <;> first | exact False.elim q | exact ⟨_, _, rfl, rfl, k _ _ _ _ i R (.bl _) q⟩
def rAddStr : R2 := fun x y H Q => ∃ i j, x = .str i ∧ y = .str j ∧ i.length + j.length ≤ sizeLine ∧ Q (.str (i ++ j)) H
/-- +: ints, texts, tuples, lists -/
def rAdd (K : PySem.W.Frag) : R2 := fun x y H Q => rI0 (fun i j => .int (i + j)) x y H Q ∨ rAddStr x y H Q ∨ rCatA K x y H Q ∨ rCat x y H Q
def RAdd : R3 := fun x y M Q => match x, y with
  | .int i, .int j => Q (.int (i + j)) M
  | .str i, .str j => i.length + j.length ≤ sizeLine ∧ Q (.str (i ++ j)) M
  | .tup xs, .tup ys => xs.length + ys.length ≤ sizeLine ∧ Q (.tup (xs ++ ys)) M
  | .ref a, .ref b => ∃ xs ys, M a = some (.lst xs) ∧ M b = some (.lst ys) ∧ xs.length + ys.length ≤ sizeLine ∧ NewM M (.lst (xs ++ ys)) fun p M' => Q (.ref p) M'
  | _, _ => False
theorem op_addA {X : Cx} : OpR X (binaryOp .Add) (rAdd X.K) := OpR.or op_add (OpR.or op_add_str (OpR.or op_catA op_cat))
theorem rd_add : RD K (rAdd K) RAdd := by
  intro H0 H M vx vy x y Q Q' i R tx ty k q
  cases tx with
  | int n =>
    cases ty with
    | int m => exact .inl ⟨_, _, rfl, rfl, k _ _ _ _ i R (.int _) q⟩
    | _ => exact False.elim q
  | str n =>
    cases ty with
    | str m => exact .inr (.inl ⟨_, _, rfl, rfl, q.1, k _ _ _ _ i R (.str _) q.2⟩)
    | _ => exact False.elim q
  | @tup a xs ds hs ha =>
    cases ty with
    | @tup b ys es ht hb =>
      refine .inr (.inr (.inl ⟨a, b, xs, ys, rfl, rfl, hs, ht, by rw [ha.length, hb.length]; exact q.1, fun e => ?_, fun e1 e2 => ?_, fun _ _ p hp => ?_⟩))
      · subst e
        cases ha
        exact k _ _ _ _ i R (.tup ht hb) q.2
      · subst e2
        cases hb
        refine k _ _ _ _ i R (.tup hs ha) ?_
        have := q.2
        rwa [List.append_nil] at this
      · have im := Imm.new (o := .tup (xs ++ ys)) hp
        exact k _ _ _ _ (i.trans im) (R.skip hp) (.tup (SqT.of upd_same) ((Tps.mono im _ _ ha).append (Tps.mono im _ _ hb))) q.2
    | _ => exact False.elim q
  | ref a =>
    cases ty with
    | ref b =>
      obtain ⟨xs, ys, ha, hb, hz, kp⟩ := q
      obtain ⟨_, ea, us, rfl, ra⟩ := R a _ ha
      obtain ⟨_, eb, ws, rfl, rb⟩ := R b _ hb
      refine .inr (.inr (.inr ⟨a, b, us, ws, rfl, rfl, ea, eb, by rw [ra.length, rb.length]; exact hz, fun p hp => ?_⟩))
      have im := Imm.new (o := .lst (us ++ ws)) hp
      exact k _ _ _ _ (i.trans im) (R.new (m := .lst (xs ++ ys)) hp ⟨_, rfl, (Tps.mono im _ _ ra).append (Tps.mono im _ _ rb)⟩) (.ref p) (NewM.at kp (R.fresh hp))
    | _ => exact False.elim q
  | _ => exact False.elim q
end
section
variable {X : Cx} {a b : Expr} {σ : Sd} {M : Mp} {Q : QD} {pos : Pos}
theorem e_add (h : ES X a σ M fun x M1 => ES X b σ M1 fun y M2 => RAdd x y M2 Q) : ES X (.BinOp a .Add b pos) σ M Q := e_op op_addA rd_add h
theorem e_sub (h : ES X a σ M fun x M1 => ES X b σ M1 fun y M2 => RInt0 (fun i j => .int (i - j)) x y M2 Q) : ES X (.BinOp a .Sub b pos) σ M Q := e_op op_sub rd_int0 h
theorem e_mul (h : ES X a σ M fun x M1 => ES X b σ M1 fun y M2 => RInt CMul (fun i j => .int (i * j)) x y M2 Q) : ES X (.BinOp a .Mult b pos) σ M Q := e_op op_mul rd_int h
theorem e_mod (h : ES X a σ M fun x M1 => ES X b σ M1 fun y M2 => RInt (fun _ j => 0 < j) (fun i j => .int (i % j)) x y M2 Q) : ES X (.BinOp a .Mod b pos) σ M Q := e_op op_mod rd_int h
theorem e_fdiv (h : ES X a σ M fun x M1 => ES X b σ M1 fun y M2 => RInt CDiv (fun i j => .int (i / j)) x y M2 Q) : ES X (.BinOp a .FloorDiv b pos) σ M Q := e_op op_fdiv rd_int h
theorem e_pow (h : ES X a σ M fun x M1 => ES X b σ M1 fun y M2 => RInt CPow (fun i j => .int (i ^ j.toNat)) x y M2 Q) : ES X (.BinOp a .Pow b pos) σ M Q := e_op op_pow rd_int h
theorem e_lt (h : ES X a σ M fun x M1 => ES X b σ M1 fun y M2 => RInt0 (fun i j => .bl (decide (i < j))) x y M2 Q) : ES X (.Compare a [.Lt] [b] pos) σ M Q := e_cmp op_lt rd_cmp0 (nomark _) h
theorem e_le (h : ES X a σ M fun x M1 => ES X b σ M1 fun y M2 => RInt0 (fun i j => .bl (decide (i ≤ j))) x y M2 Q) : ES X (.Compare a [.LtE] [b] pos) σ M Q := e_cmp op_le rd_cmp0 (nomark _) h
theorem e_gt (h : ES X a σ M fun x M1 => ES X b σ M1 fun y M2 => RInt0 (fun i j => .bl (decide (j < i))) x y M2 Q) : ES X (.Compare a [.Gt] [b] pos) σ M Q := e_cmp op_gt rd_cmp0 (nomark _) h
theorem e_ge (h : ES X a σ M fun x M1 => ES X b σ M1 fun y M2 => RInt0 (fun i j => .bl (decide (j ≤ i))) x y M2 Q) : ES X (.Compare a [.GtE] [b] pos) σ M Q := e_cmp op_ge rd_cmp0 (nomark _) h
end
end DL
set_option maxHeartbeats 1000000
namespace DL
open PySem L2 PySem.Spec PyProof.Rows
/-! ### equality of data -/
mutual
def D.py : D → PyData
  | .non => .none
  | .bl b => .bool b
  | .int i => .int i
  | .str x => .str x
  | .ref _ => .none
  | .ty _ => .none
  | .tup l => .tuple (D.pys l)
  | .rol l => .list (D.pys l)
def D.pys : List D → List PyData
  | [] => []
  | d :: r => d.py :: D.pys r
end
mutual
/-- no address inside -/
def D.pure : D → Bool
  | .ref _ => false
  | .ty _ => false
  | .tup l => D.pures l
  | .rol l => D.pures l
  | _ => true
def D.pures : List D → Bool
  | [] => true
  | d :: r => d.pure && D.pures r
end
mutual
theorem Tp.dp {K : PySem.W.Frag} {H : Hp} : ∀ (d : D) (v : V), d.pure = true → Tp K H v d → Dp K H v d.py
  | .non, _, _, h => by cases h; exact .non
  | .bl b, _, _, h => by cases h; exact .bl b
  | .int i, _, _, h => by cases h; exact .int i
  | .str x, _, _, h => by cases h; exact .str x
  | .tup l, _, p, h => by
    cases h with
    | tup hs ha => exact .tup hs (Tps.dp l _ (by simpa [D.pure] using p) ha)
  | .rol l, _, p, h => by
    cases h with
    | rol hs ha => exact .lst hs.sq (Tps.dp l _ (by simpa [D.pure] using p) ha)
theorem Tps.dp {K : PySem.W.Frag} {H : Hp} : ∀ (ds : List D) (vs : List V), D.pures ds = true → Tps K H vs ds → DpAll K H vs (D.pys ds)
  | [], _, _, h => by cases h; exact .nil
  | d :: r, _, p, h => by
    have p' : d.pure = true ∧ D.pures r = true := by simpa [D.pures] using p
    cases h with
    | cons h1 h2 => exact .cons (Tp.dp d _ p'.1 h1) (Tps.dp r _ p'.2 h2)
end
/-- comparable by content -/
def D.shp (d : D) : Bool := d.pure && SeqAt.shaped d.py
def D.eqv (d e : D) : Bool := PyData.eqv d.py e.py
def EqOk : D → D → Prop
  | .tup a, e => (D.tup a).shp = true ∧ e.shp = true
  | d, .tup b => d.shp = true ∧ (D.tup b).shp = true
  | .int _, .int _ => True
  | .str _, .str _ => True
  | .bl _, .bl _ => True
  | .non, .non => True
  | .non, .int _ => True
  | .int _, .non => True
  | .non, .str _ => True
  | .str _, .non => True
  | .non, .bl _ => True
  | .bl _, .non => True
  | .int _, .str _ => True
  | .str _, .int _ => True
  | .bl _, .str _ => True
  | .str _, .bl _ => True
  | _, _ => False
def REq : R3 := fun x y M Q => EqOk x y ∧ Q (.bl (D.eqv x y)) M
def RNe : R3 := fun x y M Q => EqOk x y ∧ Q (.bl (!D.eqv x y)) M
def rEqA (K : PySem.W.Frag) : R2 := fun x y H Q => rEq x y H Q ∨ rEqD K x y H Q
def rNeA (K : PySem.W.Frag) : R2 := fun x y H Q => rNe x y H Q ∨ rNeD K x y H Q
theorem eqok_cases {K : PySem.W.Frag} {H : Hp} {vx vy : V} {x y : D} (tx : Tp K H vx x) (ty : Tp K H vy y) (ok : EqOk x y) :
    (scal vx vy = true ∧ decide (vx = vy) = D.eqv x y) ∨ ((x.pure = true ∧ SeqAt.shaped x.py = true) ∧ (y.pure = true ∧ SeqAt.shaped y.py = true)) := by
  have two : x.shp = true ∧ y.shp = true → (x.pure = true ∧ SeqAt.shaped x.py = true) ∧ (y.pure = true ∧ SeqAt.shaped y.py = true) := fun h => by
    unfold D.shp at h
    simpa only [Bool.and_eq_true] using h
  cases tx with
  | tup _ _ => exact .inr (two (by simpa only [EqOk] using ok))
  | rol _ _ => cases ty <;> first | (refine .inr (two ?_); simpa only [EqOk] using ok) | (exact (show False from ok).elim)
  | ref _ => cases ty <;> first | (refine .inr (two ?_); simpa only [EqOk] using ok) | (exact (show False from ok).elim)
  | ty _ => cases ty <;> first | (refine .inr (two ?_); simpa only [EqOk] using ok) | (exact (show False from ok).elim)
  | non => cases ty <;> first | (exact (show False from ok).elim) | (refine .inl ⟨rfl, ?_⟩; simp [D.eqv, D.py, PyData.eqv]; done) | (refine .inr (two ?_); simpa only [EqOk] using ok)
  | bl _ => cases ty <;> first | (exact (show False from ok).elim) | (refine .inl ⟨rfl, ?_⟩; simp [D.eqv, D.py, PyData.eqv, Bool.beq_eq_decide_eq]; done) | (refine .inr (two ?_); simpa only [EqOk] using ok)
  | int _ => cases ty <;> first | (exact (show False from ok).elim) | (refine .inl ⟨rfl, ?_⟩; simp [D.eqv, D.py, PyData.eqv, Bool.beq_eq_decide_eq]; done) | (refine .inr (two ?_); simpa only [EqOk] using ok)
  | str _ => cases ty <;> first | (exact (show False from ok).elim) | (refine .inl ⟨rfl, ?_⟩; simp [D.eqv, D.py, PyData.eqv, Bool.beq_eq_decide_eq]; done) | (refine .inr (two ?_); simpa only [EqOk] using ok)
section
variable {K : PySem.W.Frag}
theorem rd_eq : RD K (rEqA K) REq := by
  intro H0 H M vx vy x y Q Q' i R tx ty k ⟨ok, q⟩
  rcases eqok_cases tx ty ok with ⟨h1, h2⟩ | ⟨h1, h2⟩
  · exact .inl ⟨h1, k _ _ _ _ i R (.bl _) (by rw [h2]; exact q)⟩
  · exact .inr ⟨_, _, Tp.dp _ _ h1.1 tx, Tp.dp _ _ h2.1 ty, h1.2, h2.2, k _ _ _ _ i R (.bl _) q⟩
theorem rd_ne : RD K (rNeA K) RNe := by
  intro H0 H M vx vy x y Q Q' i R tx ty k ⟨ok, q⟩
  rcases eqok_cases tx ty ok with ⟨h1, h2⟩ | ⟨h1, h2⟩
  · exact .inl ⟨h1, k _ _ _ _ i R (.bl _) (by rw [h2]; exact q)⟩
  · exact .inr ⟨_, _, Tp.dp _ _ h1.1 tx, Tp.dp _ _ h2.1 ty, h1.2, h2.2, k _ _ _ _ i R (.bl _) q⟩
def rIsN' : R2 := fun x y H Q => y = .non ∧ Q (.bl (decide (x = .non))) H
def rNotN' : R2 := fun x y H Q => y = .non ∧ Q (.bl (!decide (x = .non))) H
def D.isNon : D → Bool
  | .non => true
  | _ => false
def RIsN : R3 := fun x y M Q => match y with
  | .non => Q (.bl x.isNon) M
  | _ => False
def RNotN : R3 := fun x y M Q => match y with
  | .non => Q (.bl (!x.isNon)) M
  | _ => False
theorem isNon_of {H : Hp} {v : V} {d : D} (t : Tp K H v d) : decide (v = .non) = d.isNon := by cases t <;> simp [D.isNon]
theorem rd_isN : RD K rIsN' RIsN := by
  intro H0 H M vx vy x y Q Q' i R tx ty k q
  cases ty <;> first | exact False.elim q | exact ⟨rfl, k _ _ _ _ i R (.bl _) (by rw [isNon_of tx]; exact q)⟩
theorem rd_notN : RD K rNotN' RNotN := by
  intro H0 H M vx vy x y Q Q' i R tx ty k q
  cases ty <;> first | exact False.elim q | exact ⟨rfl, k _ _ _ _ i R (.bl _) (by rw [isNon_of tx]; exact q)⟩
/-! x in xs, flat things -/
def D.flat : D → Bool
  | .non | .bl _ | .int _ | .str _ => true
  | _ => false
def D.eqF : D → D → Bool
  | .int i, .int j => i == j
  | .str x, .str y => x == y
  | .bl a, .bl b => a == b
  | .non, .non => true
  | .bl a, .int j => (if a then 1 else 0) == j
  | .int i, .bl b => i == (if b then 1 else 0)
  | _, _ => false
def inD (x : D) (xs : List D) : Bool := xs.any fun y => D.eqv y x
end
end DL
set_option maxHeartbeats 1000000
namespace DL
open PySem L2 PySem.Spec PyProof.Rows
section
variable {X : Cx} {e a b : Expr} {es : List Expr} {σ : Sd} {M : Mp} {Q : QD} {pos : Pos}
theorem e_eq (hr : ∃ k, Room k X.A) (h : ES X a σ M fun x M1 => ES X b σ M1 fun y M2 => REq x y M2 Q) : ES X (.Compare a [.Eq] [b] pos) σ M Q := e_cmp (OpR.or op_eq (op_eqD hr.choose_spec.units)) rd_eq (nomark _) h
theorem e_ne (hr : ∃ k, Room k X.A) (h : ES X a σ M fun x M1 => ES X b σ M1 fun y M2 => RNe x y M2 Q) : ES X (.Compare a [.NotEq] [b] pos) σ M Q := e_cmp (OpR.or op_ne (op_neD hr.choose_spec.units)) rd_ne (nomark _) h
theorem e_isN (h : ES X a σ M fun x M1 => ES X b σ M1 fun y M2 => RIsN x y M2 Q) : ES X (.Compare a [.Is] [b] pos) σ M Q := e_cmp op_isN rd_isN (nomark _) h
theorem e_notN (h : ES X a σ M fun x M1 => ES X b σ M1 fun y M2 => RNotN x y M2 Q) : ES X (.Compare a [.IsNot] [b] pos) σ M Q := e_cmp op_notN rd_notN (nomark _) h
end
/-! ### in -/
section
variable {K : PySem.W.Frag}
theorem tp_flat {H : Hp} {v : V} {d : D} (t : Tp K H v d) (f : d.flat = true) : flatV v = true := by cases t <;> first | rfl | (cases f; done)
theorem tps_flat {H : Hp} : ∀ {vs : List V} {ds : List D}, Tps K H vs ds → ds.all D.flat = true → vs.all flatV = true
  | _, _, .nil, _ => rfl
  | _, _, .cons r t, f => by
    rw [List.all_cons, Bool.and_eq_true] at f
    rw [List.all_cons, tp_flat r f.1, tps_flat t f.2]
    rfl
theorem eqV_of {H : Hp} {vx vy : V} {x y : D} (tx : Tp K H vx x) (ty : Tp K H vy y) (fx : x.flat = true) (fy : y.flat = true) : eqV vx vy = D.eqv x y := by
  cases tx <;> first | (cases fx; done) | skip
  all_goals (cases ty <;> first | (cases fy; done) | skip)
  all_goals first | rfl | (simp [eqV, D.eqv, D.py, PyData.eqv]; done)
theorem inV_of {H : Hp} {vx : V} {x : D} (tx : Tp K H vx x) (fx : x.flat = true) : ∀ {vs : List V} {ds : List D}, Tps K H vs ds → ds.all D.flat = true → inV vx vs = inD x ds
  | _, _, .nil, _ => rfl
  | _, _, .cons r t, f => by
    rw [List.all_cons, Bool.and_eq_true] at f
    have ih := inV_of tx fx t f.2
    unfold inV inD at ih ⊢
    rw [List.any_cons, List.any_cons, ih, eqV_of r tx f.1 fx]
def RIn (neg : Bool) : R3 := fun x y M Q => match y with
  | .tup ds => x.flat = true ∧ ds.all D.flat = true ∧ Q (.bl (if neg then !inD x ds else inD x ds)) M
  | .rol ds => x.flat = true ∧ ds.all D.flat = true ∧ Q (.bl (if neg then !inD x ds else inD x ds)) M
  | .ref a => ∃ ds, M a = some (.lst ds) ∧ x.flat = true ∧ ds.all D.flat = true ∧ Q (.bl (if neg then !inD x ds else inD x ds)) M
  | _ => False
theorem rd_in {neg : Bool} : RD K (rIn K neg) (RIn neg) := by
  intro H0 H M vx vy x y Q Q' i R tx ty k q
  cases ty with
  | tup hs ha => exact ⟨_, _, rfl, .inr hs, tp_flat tx q.1, tps_flat ha q.2.1, k _ _ _ _ i R (.bl _) (by rw [inV_of tx q.1 ha q.2.1]; exact q.2.2)⟩
  | rol hs ha => exact ⟨_, _, rfl, .inl hs.sq, tp_flat tx q.1, tps_flat ha q.2.1, k _ _ _ _ i R (.bl _) (by rw [inV_of tx q.1 ha q.2.1]; exact q.2.2)⟩
  | ref a =>
    obtain ⟨ds, e, q⟩ := q
    obtain ⟨_, ea, us, rfl, ha⟩ := R a _ e
    exact ⟨_, _, rfl, .inl (SqL.of ea), tp_flat tx q.1, tps_flat ha q.2.1, k _ _ _ _ i R (.bl _) (by rw [inV_of tx q.1 ha q.2.1]; exact q.2.2)⟩
  | _ => exact False.elim q
end
section
variable {X : Cx} {e a b : Expr} {es : List Expr} {σ : Sd} {M : Mp} {Q : QD} {pos : Pos}
theorem e_in (h : ES X a σ M fun x M1 => ES X b σ M1 fun y M2 => RIn false x y M2 Q) (hm : behindInMarks .In b = false := by rfl) : ES X (.Compare a [.In] [b] pos) σ M Q := e_cmp op_in_seq rd_in hm h
theorem e_notIn (h : ES X a σ M fun x M1 => ES X b σ M1 fun y M2 => RIn true x y M2 Q) (hm : behindInMarks .NotIn b = false := by rfl) : ES X (.Compare a [.NotIn] [b] pos) σ M Q := e_cmp op_notIn_seq rd_in hm h
end
/-! ### x[i], x[lo:hi] -/
section
variable {K : PySem.W.Frag}
theorem tps_atI {H : Hp} {vs : List V} {ds : List D} {i : Int} {d : D} (t : Tps K H vs ds) (h : atI ds i = some d) : ∃ v, atI vs i = some v ∧ Tp K H v d := by
  unfold atI at h ⊢
  rw [t.length]
  cases e : ixN ds.length i with
  | none => rw [e] at h; cases h
  | some j =>
    rw [e] at h
    exact t.get h
def RIx : R3 := fun x y M Q => match x, y with
  | .tup ds, .int i => ∃ d, atI ds i = some d ∧ Q d M
  | .rol ds, .int i => ∃ d, atI ds i = some d ∧ Q d M
  | .ref a, .int i => ∃ ds d, M a = some (.lst ds) ∧ atI ds i = some d ∧ Q d M
  | .str z, .int i => z.length ≤ sizeLine ∧ ∃ c, atI z.cps.toList i = some c ∧ Q (.str ⟨#[c]⟩) M
  | _, _ => False
theorem rd_ix : RD K (rIx K) RIx := by
  intro H0 H M vx vy x y Q Q' i R tx ty k q
  cases ty with
  | int n =>
    cases tx with
    | tup hs ha =>
      obtain ⟨d, hd, q⟩ := q
      obtain ⟨v, hv, r⟩ := tps_atI ha hd
      exact .inr (.inl ⟨_, _, _, _, rfl, rfl, hs, hv, k _ _ _ _ i R r q⟩)
    | rol hs ha =>
      obtain ⟨d, hd, q⟩ := q
      obtain ⟨v, hv, r⟩ := tps_atI ha hd
      exact .inl ⟨_, _, _, _, rfl, rfl, hs.sq, hv, k _ _ _ _ i R r q⟩
    | ref a =>
      obtain ⟨ds, d, e, hd, q⟩ := q
      obtain ⟨_, ea, us, rfl, ha⟩ := R a _ e
      obtain ⟨v, hv, r⟩ := tps_atI ha hd
      exact .inl ⟨_, _, _, _, rfl, rfl, SqL.of ea, hv, k _ _ _ _ i R r q⟩
    | str z =>
      obtain ⟨hz, c, hc, q⟩ := q
      exact .inr (.inr ⟨_, _, _, rfl, rfl, hz, hc, k _ _ _ _ i R (.str _) q⟩)
    | _ => exact False.elim q
  | _ => cases tx <;> exact False.elim q
def cutD (ds : List D) (lo hi : Option Int) : List D := (ds.drop (HT.sIx ds.length 0 lo)).take (HT.sIx ds.length ds.length hi - HT.sIx ds.length 0 lo)
theorem cutD_length (ds : List D) (lo hi : Option Int) : (cutD ds lo hi).length ≤ ds.length := by
  unfold cutD
  rw [List.length_take, List.length_drop]
  omega
theorem cutD_whole {ds : List D} {lo hi : Option Int} (h : HT.sIx ds.length 0 lo = 0 ∧ HT.sIx ds.length ds.length hi = ds.length) : cutD ds lo hi = ds := by
  unfold cutD
  rw [h.1, h.2, List.drop_zero, Nat.sub_zero, List.take_length]
def rSl (K : PySem.W.Frag) : V → Option Int → Option Int → Hp → VK → Prop := fun x lo hi H Q => rSlA K x lo hi H Q ∨ rSlL K x lo hi H Q ∨ rSlS x lo hi H Q
theorem sl_any {X : Cx} : SlR X (rSl X.K) := SlR.or sl_tupA (SlR.or sl_list sl_str)
def RSl : D → Option Int → Option Int → Mp → QD → Prop := fun x lo hi M Q => match x with
  | .tup ds => Q (.tup (cutD ds lo hi)) M
  | .rol ds => NewM M (.lst (cutD ds lo hi)) fun p M' => Q (.ref p) M'
  | .ref a => ∃ ds, M a = some (.lst ds) ∧ NewM M (.lst (cutD ds lo hi)) fun p M' => Q (.ref p) M'
  | .str z => z.length ≤ sizeLine ∧ Q (.str (cutS z lo hi)) M
  | _ => False
theorem rd_sl {H0 H : Hp} {M : Mp} {v : V} {x : D} {lo hi : Option Int} {Q : QD} (i : Imm H0 H) (R : RelM K M H) (tx : Tp K H v x) (q : RSl x lo hi M Q) : rSl K v lo hi H (DQ K H0 Q) := by
  cases tx with
  | @tup a xs ds hs ha =>
    have el := ha.length
    refine .inl ⟨a, xs, rfl, hs, fun hw => ?_, fun hw p hp => ?_⟩
    · refine ⟨i, _, M, R, .tup hs ha, ?_⟩
      rw [el] at hw
      have q' : Q (.tup (cutD ds lo hi)) M := q
      rw [cutD_whole hw] at q'
      exact q'
    · have im := Imm.new (o := .tup (cutV xs lo hi)) hp
      exact ⟨i.trans im, _, M, R.skip hp, .tup (SqT.of upd_same) (Tps.mono im _ _ (ha.cut lo hi)), q⟩
  | @rol a xs ds hs ha =>
    refine .inr (.inl ⟨a, xs, rfl, hs.sq, fun p hp => ?_⟩)
    have im := Imm.new (o := .lst (cutV xs lo hi)) hp
    exact ⟨i.trans im, _, _, R.new (m := .lst (cutD ds lo hi)) hp ⟨_, rfl, Tps.mono im _ _ (ha.cut lo hi)⟩, .ref p, NewM.at q (R.fresh hp)⟩
  | ref a =>
    obtain ⟨ds, e, q⟩ := q
    obtain ⟨_, ea, us, rfl, ha⟩ := R a _ e
    refine .inr (.inl ⟨a, us, rfl, SqL.of ea, fun p hp => ?_⟩)
    have im := Imm.new (o := .lst (cutV us lo hi)) hp
    exact ⟨i.trans im, _, _, R.new (m := .lst (cutD ds lo hi)) hp ⟨_, rfl, Tps.mono im _ _ (ha.cut lo hi)⟩, .ref p, NewM.at q (R.fresh hp)⟩
  | str z => exact .inr (.inr ⟨z, rfl, q.1, i, _, M, R, .str _, q.2⟩)
  | _ => exact False.elim q
end
section
variable {X : Cx} {e a b : Expr} {es : List Expr} {σ : Sd} {M : Mp} {Q : QD} {pos p2 : Pos} {lo hi : Option Expr}
theorem e_ix (h : ES X a σ M fun x M1 => ES X b σ M1 fun y M2 => RIx x y M2 Q) (hs : PlainIx b := by exact fun _ _ => rfl) : ES X (.Subscript a b pos) σ M Q :=
  ES.of (pe_ix ix_seq pe_sem pe_sem hs) (op_go rd_ix h)
structure OS (X : Cx) (e : Option Expr) (σ : Sd) (M : Mp) (Q : Option Int → Mp → Prop) : Prop where
  run : ∃ t, PO X e t ∧ ∀ σv H, Slots X.K H σv σ → RelM X.K M H → t σv H fun o H' => Imm H H' ∧ ∃ M', RelM X.K M' H' ∧ Q o M'
theorem o_none {Q : Option Int → Mp → Prop} (q : Q none M) : OS X none σ M Q := ⟨_, po_none, fun σv H S R => ⟨Imm.refl H, M, R, q⟩⟩
def OInt (Q : Option Int → Mp → Prop) : QD := fun d M => match d with
  | .int i => Q (some i) M
  | _ => False
theorem o_some {Q : Option Int → Mp → Prop} (h : ES X e σ M (OInt Q)) : OS X (some e) σ M Q := ⟨_, po_some pe_sem, fun σv H S R => h.go (H0 := H) S R fun v H1 d M1 i1 R1 t1 q1 => by
  cases t1 <;> first | exact False.elim q1 | exact ⟨_, rfl, i1, M1, R1, q1⟩⟩
/-- x[lo:hi]: x first, then lo, hi (plain expressions that change nothing) -/
theorem e_sl {x : D} {l u : Option Int} {M1 : Mp} (h : ES X e σ M fun d M' => d = x ∧ M' = M1) (hl : OS X lo σ M1 fun o M' => o = l ∧ M' = M1) (hh : OS X hi σ M1 fun o M' => o = u ∧ M' = M1) (q : RSl x l u M1 Q) :
    ES X (.Subscript e (.Slice lo hi none p2) pos) σ M Q := by
  obtain ⟨tl, pl, kl⟩ := hl.run
  obtain ⟨th, ph, kh⟩ := hh.run
  have tlm : ∀ σv H, Slots X.K H σv σ → RelM X.K M1 H → tl σv H fun o H' => Imm H H' ∧ ∃ M', RelM X.K M' H' ∧ (o = l ∧ M' = M1) := kl
  refine ⟨fun σv H S R pins s I => ?_⟩
  have sem : PO X lo (fun σ H Q => ∀ pins s, Inv X pins σ H s → _) := ⟨fun pins s σ H Q I h => h pins s I⟩
  have semh : PO X hi (fun σ H Q => ∀ pins s, Inv X pins σ H s → _) := ⟨fun pins s σ H Q I h => h pins s I⟩
  refine (pe_slice sl_any pe_sem sem semh).run pins s σv H _ I ?_
  refine h.go (H0 := H) S R fun v H1 d M' i1 R1 t1 ⟨e1, e2⟩ => ?_
  subst e1; subst e2
  intro pins1 s1 I1
  refine wpAny_mono (pl.run pins1 s1 σv H1 _ I1 (kl σv H1 (S.mono i1) R1)) (fun vo s2 q2 => ?_) (fun _ _ z => z)
  obtain ⟨o, H2, I2, p2', i2, M2, R2, e3, e4⟩ := q2
  subst e3; subst e4
  refine ⟨o, H2, I2, p2', ?_⟩
  intro pins2 s3 I3
  refine wpAny_mono (ph.run pins2 s3 σv H2 _ I3 (kh σv H2 ((S.mono i1).mono i2) R2)) (fun vo s4 q4 => ?_) (fun _ _ z => z)
  obtain ⟨o', H3, I4, p4', i3, M3, R3', e5, e6⟩ := q4
  subst e5; subst e6
  refine ⟨o', H3, I4, p4', ?_⟩
  exact rd_sl ((i1.trans i2).trans i3) R3' (Tp.mono (i2.trans i3) _ _ t1) q
end
end DL
set_option maxHeartbeats 1000000
namespace DL
open PySem L2 PySem.Spec PyProof.Rows
/-! ### tests -/
def BQ (c : Bool) (A B : Prop) : Prop := (c = true → A) ∧ (c = false → B)
theorem BQ.t {A B : Prop} (h : A) : BQ true A B := ⟨fun _ => h, fun e => Bool.noConfusion e⟩
theorem BQ.f {A B : Prop} (h : B) : BQ false A B := ⟨fun e => Bool.noConfusion e, fun _ => h⟩
/-- the truth of a value -/
def RTru (d : D) (M : Mp) (Q : Bool → Mp → Prop) : Prop := match d with
  | .non => Q false M
  | .bl b => Q b M
  | .int i => Q (i != 0) M
  | .str y => y.length ≤ sizeLine ∧ Q ((y.length : Int) != 0) M
  | .tup ds => Q (!ds.isEmpty) M
  | .rol ds => Q (!ds.isEmpty) M
  | .ref a => (∃ ds, M a = some (.lst ds) ∧ Q (!ds.isEmpty) M) ∨ (∃ kvs, M a = some (.dK kvs) ∧ Q (!kvs.isEmpty) M)
  | _ => False
theorem tps_empty {K : PySem.W.Frag} {H : Hp} {vs : List V} {ds : List D} (t : Tps K H vs ds) : vs.isEmpty = ds.isEmpty := by cases t <;> rfl
theorem kvs_empty {K : PySem.W.Frag} {H : Hp} {κ : Type} {vs : List (κ × V)} {ds : List (κ × D)} (t : KVs K H vs ds) : vs.isEmpty = ds.isEmpty := by cases t <;> rfl
theorem rd_tru {K : PySem.W.Frag} {H0 H : Hp} {M : Mp} {v : V} {d : D} {Q : Bool → Mp → Prop} (i : Imm H0 H) (R : RelM K M H) (t : Tp K H v d) (q : RTru d M Q) : ∃ k, TruV K v H k ∧ DB K H0 Q k H := by
  cases t with
  | non => exact ⟨_, rfl, i, M, R, q⟩
  | bl b => exact ⟨_, rfl, i, M, R, q⟩
  | int n => exact ⟨_, rfl, i, M, R, q⟩
  | str y => exact ⟨_, ⟨q.1, rfl⟩, i, M, R, q.2⟩
  | tup hs ha => exact ⟨_, .inr (.inl ⟨_, hs, rfl⟩), i, M, R, by rw [tps_empty ha]; exact q⟩
  | rol hs ha => exact ⟨_, .inl ⟨_, hs.sq, rfl⟩, i, M, R, by rw [tps_empty ha]; exact q⟩
  | ref a =>
    rcases q with ⟨ds, e, q⟩ | ⟨kvs, e, q⟩
    · obtain ⟨_, ea, us, rfl, ha⟩ := R a _ e
      exact ⟨_, .inl ⟨_, SqL.of ea, rfl⟩, i, M, R, by rw [tps_empty ha]; exact q⟩
    · obtain ⟨_, ea, us, rfl, ha⟩ := R a _ e
      exact ⟨_, .inr (.inr ⟨_, ea, rfl⟩), i, M, R, by rw [kvs_empty ha]; exact q⟩
  | ty _ => exact False.elim q
def QBl (Q : Bool → Mp → Prop) : QD := fun d M => match d with
  | .bl b => Q b M
  | _ => False
section
variable {X : Cx} {e a b c : Expr} {es rest : List Expr} {σ : Sd} {M : Mp} {Q : QD} {QB : Bool → Mp → Prop} {pos : Pos}
theorem t_truth (h : ES X e σ M fun d M1 => RTru d M1 QB) (he : ∀ whole, isTrue e X.env whole = (do let v ← whole; standAt e.pos; holding [v] (truthy v)) := by intro _; rfl) : TT3 X e σ M QB :=
  TT3.of (pt_truth pe_sem he) fun σv H S R => h.go (H0 := H) S R fun v H1 d M1 i1 R1 t1 q1 => rd_tru i1 R1 t1 q1
theorem t_cmp {op : CmpOp} {r : R2} {R : R3} (ho : OpR X (compareOp op) r) (hR : RD X.K r R) (hm : behindInMarks op b = false) (h : ES X a σ M fun x M1 => ES X b σ M1 fun y M2 => R x y M2 (QBl QB)) : TT3 X (.Compare a [op] [b] pos) σ M QB :=
  TT3.of (pt_cmpR ho pe_sem pe_sem hm) fun σv H S RM => op_goT hR h σv H S RM _ fun v H' d M' i' R' t' q' => by
    cases t' <;> first | exact False.elim q' | exact ⟨_, rfl, i', M', R', q'⟩
theorem t_eq (hr : ∃ k, Room k X.A) (h : ES X a σ M fun x M1 => ES X b σ M1 fun y M2 => REq x y M2 (QBl QB)) : TT3 X (.Compare a [.Eq] [b] pos) σ M QB := t_cmp (OpR.or op_eq (op_eqD hr.choose_spec.units)) rd_eq (nomark _) h
theorem t_ne (hr : ∃ k, Room k X.A) (h : ES X a σ M fun x M1 => ES X b σ M1 fun y M2 => RNe x y M2 (QBl QB)) : TT3 X (.Compare a [.NotEq] [b] pos) σ M QB := t_cmp (OpR.or op_ne (op_neD hr.choose_spec.units)) rd_ne (nomark _) h
theorem t_isN (h : ES X a σ M fun x M1 => ES X b σ M1 fun y M2 => RIsN x y M2 (QBl QB)) : TT3 X (.Compare a [.Is] [b] pos) σ M QB := t_cmp op_isN rd_isN (nomark _) h
theorem t_notN (h : ES X a σ M fun x M1 => ES X b σ M1 fun y M2 => RNotN x y M2 (QBl QB)) : TT3 X (.Compare a [.IsNot] [b] pos) σ M QB := t_cmp op_notN rd_notN (nomark _) h
theorem t_in (h : ES X a σ M fun x M1 => ES X b σ M1 fun y M2 => RIn false x y M2 (QBl QB)) (hm : behindInMarks .In b = false := by rfl) : TT3 X (.Compare a [.In] [b] pos) σ M QB := t_cmp op_in_seq rd_in hm h
theorem t_notIn (h : ES X a σ M fun x M1 => ES X b σ M1 fun y M2 => RIn true x y M2 (QBl QB)) (hm : behindInMarks .NotIn b = false := by rfl) : TT3 X (.Compare a [.NotIn] [b] pos) σ M QB := t_cmp op_notIn_seq rd_in hm h
theorem t_lt (h : ES X a σ M fun x M1 => ES X b σ M1 fun y M2 => RInt0 (fun i j => .bl (decide (i < j))) x y M2 (QBl QB)) : TT3 X (.Compare a [.Lt] [b] pos) σ M QB := t_cmp op_lt rd_cmp0 (nomark _) h
theorem t_le (h : ES X a σ M fun x M1 => ES X b σ M1 fun y M2 => RInt0 (fun i j => .bl (decide (i ≤ j))) x y M2 (QBl QB)) : TT3 X (.Compare a [.LtE] [b] pos) σ M QB := t_cmp op_le rd_cmp0 (nomark _) h
theorem t_gt (h : ES X a σ M fun x M1 => ES X b σ M1 fun y M2 => RInt0 (fun i j => .bl (decide (j < i))) x y M2 (QBl QB)) : TT3 X (.Compare a [.Gt] [b] pos) σ M QB := t_cmp op_gt rd_cmp0 (nomark _) h
theorem t_ge (h : ES X a σ M fun x M1 => ES X b σ M1 fun y M2 => RInt0 (fun i j => .bl (decide (j ≤ i))) x y M2 (QBl QB)) : TT3 X (.Compare a [.GtE] [b] pos) σ M QB := t_cmp op_ge rd_cmp0 (nomark _) h
theorem t_not (h : TT3 X a σ M fun c M1 => QB (!c) M1) : TT3 X (.UnaryOp .Not a pos) σ M QB :=
  TT3.of (pt_not pt_sem) fun σv H S R => h.go S R fun v H1 M1 i1 R1 q1 => ⟨i1, M1, R1, q1⟩
theorem t_w (h : TW3 X e σ M QB) : TT3 X e σ M QB := ⟨fun σv H S R pins s I => h.run σv H S R _ pins s I⟩
theorem w_and1 (h : TT3 X a σ M QB) : TW3 X (.BoolOp .And [a] pos) σ M QB := TW3.of (pw_and1 pt_sem) fun σv H S R => h.run σv H S R
theorem w_or1 (h : TT3 X a σ M QB) : TW3 X (.BoolOp .Or [a] pos) σ M QB := TW3.of (pw_or1 pt_sem) fun σv H S R => h.run σv H S R
theorem w_and (h : TT3 X a σ M fun c M1 => BQ c (TW3 X (.BoolOp .And (b :: rest) pos) σ M1 QB) (QB false M1)) : TW3 X (.BoolOp .And (a :: b :: rest) pos) σ M QB :=
  TW3.of (pw_and pt_sem pw_sem) fun σv H S R => h.go S R fun v H1 M1 i1 R1 q1 => by
    cases v with
    | true =>
      rw [if_pos rfl]
      exact (q1.1 rfl).go (S.mono i1) R1 fun v2 H2 M2 i2 R2 q2 => ⟨i1.trans i2, M2, R2, q2⟩
    | false =>
      rw [if_neg Bool.false_ne_true]
      exact ⟨i1, M1, R1, q1.2 rfl⟩
theorem w_or (h : TT3 X a σ M fun c M1 => BQ c (QB true M1) (TW3 X (.BoolOp .Or (b :: rest) pos) σ M1 QB)) : TW3 X (.BoolOp .Or (a :: b :: rest) pos) σ M QB :=
  TW3.of (pw_or pt_sem pw_sem) fun σv H S R => h.go S R fun v H1 M1 i1 R1 q1 => by
    cases v with
    | true =>
      rw [if_pos rfl]
      exact ⟨i1, M1, R1, q1.1 rfl⟩
    | false =>
      rw [if_neg Bool.false_ne_true]
      exact (q1.2 rfl).go (S.mono i1) R1 fun v2 H2 M2 i2 R2 q2 => ⟨i1.trans i2, M2, R2, q2⟩
/-! as values: bools -/
theorem v_one {op} (h : ES X a σ M Q) : ES X (.BoolOp op [a] pos) σ M Q := ES.of (pe_one pe_sem) fun σv H S R => h.run σv H S R
theorem v_and (h : ES X a σ M fun d M1 => QBl (fun c M1 => BQ c (ES X (.BoolOp .And (b :: rest) pos) σ M1 Q) (Q (.bl false) M1)) d M1) : ES X (.BoolOp .And (a :: b :: rest) pos) σ M Q :=
  ES.of (pe_and pe_sem pe_sem) fun σv H S R => h.go (H0 := H) S R fun v H1 d M1 i1 R1 t1 q1 => by
    cases t1 <;> first | exact False.elim q1 | skip
    case bl c =>
      refine ⟨c, rfl, ?_⟩
      cases c with
      | true =>
        rw [if_pos rfl]
        exact (q1.1 rfl).go (H0 := H) (S.mono i1) R1 fun v2 H2 d2 M2 i2 R2 t2 q2 => ⟨i1.trans i2, d2, M2, R2, t2, q2⟩
      | false =>
        rw [if_neg Bool.false_ne_true]
        exact ⟨i1, _, M1, R1, .bl _, q1.2 rfl⟩
theorem v_or (h : ES X a σ M fun d M1 => QBl (fun c M1 => BQ c (Q (.bl true) M1) (ES X (.BoolOp .Or (b :: rest) pos) σ M1 Q)) d M1) : ES X (.BoolOp .Or (a :: b :: rest) pos) σ M Q :=
  ES.of (pe_or pe_sem pe_sem) fun σv H S R => h.go (H0 := H) S R fun v H1 d M1 i1 R1 t1 q1 => by
    cases t1 <;> first | exact False.elim q1 | skip
    case bl c =>
      refine ⟨c, rfl, ?_⟩
      cases c with
      | true =>
        rw [if_pos rfl]
        exact ⟨i1, _, M1, R1, .bl _, q1.1 rfl⟩
      | false =>
        rw [if_neg Bool.false_ne_true]
        exact (q1.2 rfl).go (H0 := H) (S.mono i1) R1 fun v2 H2 d2 M2 i2 R2 t2 q2 => ⟨i1.trans i2, d2, M2, R2, t2, q2⟩
theorem v_not (h : ES X a σ M fun d M1 => QBl (fun c M1 => Q (.bl (!c)) M1) d M1) : ES X (.UnaryOp .Not a pos) σ M Q :=
  ES.of (pe_not pe_sem) fun σv H S R => h.go (H0 := H) S R fun v H1 d M1 i1 R1 t1 q1 => by
    cases t1 <;> first | exact False.elim q1 | exact ⟨_, rfl, i1, _, M1, R1, .bl _, q1⟩
theorem v_neg (h : ES X a σ M fun d M1 => match d with | .int i => Q (.int (-i)) M1 | _ => False) : ES X (.UnaryOp .USub a pos) σ M Q :=
  ES.of (pe_un un_neg pe_sem) fun σv H S R => h.go (H0 := H) S R fun v H1 d M1 i1 R1 t1 q1 => by
    cases t1 <;> first | exact False.elim q1 | exact ⟨_, rfl, i1, _, M1, R1, .int _, q1⟩
theorem v_if (h : TT3 X c σ M fun k M1 => BQ k (ES X a σ M1 Q) (ES X b σ M1 Q)) : ES X (.IfExp c a b pos) σ M Q :=
  ES.of (pe_ifExp pt_sem pe_sem pe_sem) fun σv H S R => h.go S R fun v H1 M1 i1 R1 q1 => by
    cases v with
    | true =>
      rw [if_pos rfl]
      exact (q1.1 rfl).go (H0 := H) (S.mono i1) R1 fun v2 H2 d2 M2 i2 R2 t2 q2 => ⟨i1.trans i2, d2, M2, R2, t2, q2⟩
    | false =>
      rw [if_neg Bool.false_ne_true]
      exact (q1.2 rfl).go (H0 := H) (S.mono i1) R1 fun v2 H2 d2 M2 i2 R2 t2 q2 => ⟨i1.trans i2, d2, M2, R2, t2, q2⟩
/-! ### arguments, displays -/
variable {QA : List D → Mp → Prop}
theorem a_nil (q : QA [] M) : AS X [] σ M QA := AS.of pa_nil fun σv H S R => ⟨Imm.refl H, [], M, R, .nil, q⟩
theorem a_cons (h : ES X e σ M fun d M1 => AS X es σ M1 fun ds M2 => QA (d :: ds) M2) (hs : starEach (e :: es) X.env = (false, eval e X.env) :: starEach es X.env := by rfl) : AS X (e :: es) σ M QA :=
  AS.of (pa_cons pe_sem pa_sem hs) fun σv H S R => h.go (H0 := H) S R fun v H1 d M1 i1 R1 t1 q1 => q1.go (S.mono i1) R1 fun vs H2 ds M2 i2 R2 t2 q2 => ⟨i1.trans i2, d :: ds, M2, R2, .cons (Tp.mono i2 _ _ t1) t2, q2⟩
theorem e_tup {x1} (h : AS X es σ M fun ds M1 => ds.length ≤ sizeLine ∧ Q (.tup ds) M1) : ES X (.Tuple es x1 pos) σ M Q :=
  ES.of (pe_tup pa_sem) fun σv H S R => h.go S R fun vs H1 ds M1 i1 R1 t1 q1 => ⟨by rw [t1.length]; exact q1.1, fun p hp => by
    have im := Imm.new (o := .tup vs) hp
    exact ⟨i1.trans im, _, M1, R1.skip hp, .tup (SqT.of upd_same) (Tps.mono im _ _ t1), q1.2⟩⟩
theorem e_lst (h : AS X es σ M fun ds M1 => ds.length ≤ sizeLine ∧ NewM M1 (.lst ds) fun p M' => Q (.ref p) M') : ES X (.List es pos) σ M Q :=
  ES.of (pe_lst pa_sem) fun σv H S R => h.go S R fun vs H1 ds M1 i1 R1 t1 q1 => ⟨by rw [t1.length]; exact q1.1, fun p hp => by
    have im := Imm.new (o := .lst vs) hp
    exact ⟨i1.trans im, _, _, R1.new (m := .lst ds) hp ⟨_, rfl, Tps.mono im _ _ t1⟩, .ref p, NewM.at q1.2 (R1.fresh hp)⟩⟩
theorem e_dict0 (h : NewM M (.dK []) fun p M' => Q (.ref p) M') : ES X (.Dict [] [] pos) σ M Q :=
  ES.of pe_dnewK fun σv H S R p hp => ⟨Imm.new hp, _, _, R.new (m := .dK []) hp ⟨_, rfl, .nil⟩, .ref p, NewM.at h (R.fresh hp)⟩
end
/-! ### calls -/
abbrev Sp3 := List D → Mp → QD → Prop
def spD (K : PySem.W.Frag) (sp3 : Sp3) : Sp := fun vs H Q _ => ∃ (ds : List D) (M : Mp) (Q3 : QD), Tps K H vs ds ∧ RelM K M H ∧ sp3 ds M Q3 ∧ To K H Q3 Q
/-- a def of the module and what it promises -/
def Callee (P : Program) (w : World) (K : PySem.W.Frag) (mg : Str → Option Value) (base : Heap) (x : Str) (k : Nat) (ps : List Str) (sp3 : Sp3) : Prop :=
  ∃ f fd, FnOk P w K mg base CX0 k f fd ps (spD K sp3) ∧ mg x = some (.ref f) ∧ PySem.W.keepIn K (.ref f) = true ∧ Binds K fd ps []
theorem Callee.imp {P : Program} {w : World} {K : PySem.W.Frag} {mg : Str → Option Value} {base : Heap} {x : Str} {k : Nat} {ps : List Str} {sp3 sp3' : Sp3} (C : Callee P w K mg base x k ps sp3)
    (h : ∀ ds M Q, sp3' ds M Q → sp3 ds M Q) : Callee P w K mg base x k ps sp3' := by
  obtain ⟨f, fd, F, a, b, c⟩ := C
  exact ⟨f, fd, F.imp fun vs H Q E ⟨ds, M, Q3, t, r, q, to⟩ => ⟨ds, M, Q3, t, r, h _ _ _ q, to⟩, a, b, c⟩
theorem Callee.mono {P : Program} {w : World} {K : PySem.W.Frag} {mg : Str → Option Value} {base : Heap} {x : Str} {j k : Nat} {ps : List Str} {sp3 : Sp3} (C : Callee P w K mg base x j ps sp3) (h : j ≤ k) : Callee P w K mg base x k ps sp3 := by
  obtain ⟨f, fd, F, a, b, c⟩ := C
  exact ⟨f, fd, F.mono h, a, b, c⟩
section
variable {X : Cx} {e a b c : Expr} {es rest : List Expr} {σ : Sd} {M : Mp} {Q : QD} {pos p : Pos} {x : Str} {k : Nat} {ps : List Str} {sp3 : Sp3}
theorem e_call (C : Callee X.prog X.w X.K X.mg X.base x k ps sp3) (hr : Room k X.A) (h : AS X (e :: es) σ M fun ds M1 => sp3 ds M1 Q) (hg : Gl X x := by rfl) (hdb : (x == ("__debug__" : Str)) = false := by decide)
    (he : starEach (e :: es) X.env = (false, eval e X.env) :: starEach es X.env := by rfl) (hpl : (backTo pos (starEach es X.env)).any (·.1) = false := by rfl) : ES X (.Call (.Name x p) (e :: es) [] pos) σ M Q := by
  obtain ⟨f, fd, F, hm, hk, hb⟩ := C
  refine ES.of (pe_call F hr hg hm hk hb .nil pass0 pa_sem hdb he hpl) fun σv H S R => h.go S R fun vs H1 ds M1 i1 R1 t1 q1 => ?_
  rw [List.append_nil]
  exact ⟨ds, M1, Q, t1, R1, q1, fun v H2 d M2 i2 R2 t2 q2 => ⟨i1.trans i2, d, M2, R2, t2, q2⟩⟩
theorem e_call0 (C : Callee X.prog X.w X.K X.mg X.base x k ps sp3) (hr : Room k X.A) (h : sp3 [] M Q) (hg : Gl X x := by rfl) (hdb : (x == ("__debug__" : Str)) = false := by decide) : ES X (.Call (.Name x p) [] [] pos) σ M Q := by
  obtain ⟨f, fd, F, hm, hk, hb⟩ := C
  refine ES.of (pe_call0 F hr hg hm hk hb .nil pass0 hdb) fun σv H S R => ?_
  exact ⟨[], M, Q, .nil, R, h, fun v H2 d M2 i2 R2 t2 q2 => ⟨i2, d, M2, R2, t2, q2⟩⟩
/-! built-ins by name -/
abbrev RA3 := List D → Mp → QD → Prop
def RDA (K : PySem.W.Frag) (r : List V → Hp → VK → Prop) (R : RA3) : Prop := ∀ H0 H M vs ds Q Q', Imm H0 H → RelM K M H → Tps K H vs ds → To K H0 Q Q' → R ds M Q → r vs H Q'
theorem e_cb {id : String} {r : List V → Hp → VK → Prop} {R : RA3} (hc : CallR X (.builtin id) r) (hR : RDA X.K r R) (hm : X.mg x = none) (hv : bootBuiltins x = some (.builtin id)) (h : AS X (e :: es) σ M fun ds M1 => R ds M1 Q) (hg : Gl X x := by rfl) (hn : x ≠ "__name__" := by decide) (hdb : (x == ("__debug__" : Str)) = false := by decide)
    (he : starEach (e :: es) X.env = (false, eval e X.env) :: starEach es X.env := by rfl) (hpl : (backTo pos (starEach es X.env)).any (·.1) = false := by rfl) : ES X (.Call (.Name x p) (e :: es) [] pos) σ M Q :=
  ES.of (pe_callB hc hg hm hv pa_sem hn hdb he hpl) fun σv H S R => h.go S R fun vs H1 ds M1 i1 R1 t1 q1 => hR H H1 M1 vs ds Q _ i1 R1 t1 To.dq q1
theorem e_ct {T : String} {r : List V → Hp → VK → Prop} {R : RA3} (hc : CallR X (.type T) r) (hR : RDA X.K r R) (hm : X.mg x = none) (hv : bootBuiltins x = some (.type T)) (h : AS X (e :: es) σ M fun ds M1 => R ds M1 Q) (hg : Gl X x := by rfl) (hn : x ≠ "__name__" := by decide) (hdb : (x == ("__debug__" : Str)) = false := by decide)
    (he : starEach (e :: es) X.env = (false, eval e X.env) :: starEach es X.env := by rfl) (hpl : (backTo pos (starEach es X.env)).any (·.1) = false := by rfl) : ES X (.Call (.Name x p) (e :: es) [] pos) σ M Q :=
  ES.of (pe_callTy hc hg hm hv pa_sem hn hdb he hpl) fun σv H S R => h.go S R fun vs H1 ds M1 i1 R1 t1 q1 => hR H H1 M1 vs ds Q _ i1 R1 t1 To.dq q1
end
section
variable {K : PySem.W.Frag}
theorem Tps.one {H : Hp} {vs : List V} {d : D} (h : Tps K H vs [d]) : ∃ v, vs = [v] ∧ Tp K H v d := by
  cases h with
  | cons r t => cases t; exact ⟨_, rfl, r⟩
theorem Tps.two {H : Hp} {vs : List V} {d e : D} (h : Tps K H vs [d, e]) : ∃ v u, vs = [v, u] ∧ Tp K H v d ∧ Tp K H u e := by
  cases h with
  | cons r t =>
    obtain ⟨u, rfl, q⟩ := t.one
    exact ⟨_, u, rfl, r, q⟩
def RLen : RA3 := fun ds M Q => match ds with
  | [.str z] => z.length ≤ sizeLine ∧ Q (.int z.length) M
  | [.tup l] => Q (.int l.length) M
  | [.rol l] => Q (.int l.length) M
  | [.ref a] => ∃ l, M a = some (.lst l) ∧ Q (.int l.length) M
  | _ => False
def rLen (K : PySem.W.Frag) : List V → Hp → VK → Prop := fun xs H Q => ∃ x n, xs = [x] ∧ LenV K x H n ∧ Q (.int n) H
theorem rd_len : RDA K (rLen K) RLen := by
  intro H0 H M vs ds Q Q' i R t k q
  match ds, t, q with
  | [.str z], t, q =>
    obtain ⟨v, rfl, r⟩ := t.one
    cases r
    exact ⟨_, _, rfl, ⟨q.1, rfl⟩, k _ _ _ _ i R (.int _) q.2⟩
  | [.tup l], t, q =>
    obtain ⟨v, rfl, r⟩ := t.one
    cases r with
    | tup hs ha => exact ⟨_, _, rfl, .inr ⟨_, hs, rfl⟩, k _ _ _ _ i R (.int _) (by rw [ha.length]; exact q)⟩
  | [.rol l], t, q =>
    obtain ⟨v, rfl, r⟩ := t.one
    cases r with
    | rol hs ha => exact ⟨_, _, rfl, .inl ⟨_, hs.sq, rfl⟩, k _ _ _ _ i R (.int _) (by rw [ha.length]; exact q)⟩
  | [.ref a], t, q =>
    obtain ⟨v, rfl, r⟩ := t.one
    obtain ⟨l, e, q⟩ := q
    obtain ⟨_, ea, us, rfl, ha⟩ := R a _ e
    cases r
    exact ⟨_, _, rfl, .inl ⟨_, SqL.of ea, rfl⟩, k _ _ _ _ i R (.int _) (by rw [ha.length]; exact q)⟩
def RAbs : RA3 := fun ds M Q => match ds with
  | [.int i] => Q (.int (if i < 0 then -i else i)) M
  | _ => False
theorem rd_abs : RDA K (fun xs H Q => ∃ i, xs = [.int i] ∧ Q (.int (if i < 0 then -i else i)) H) RAbs := by
  intro H0 H M vs ds Q Q' i R t k q
  match ds, t, q with
  | [.int n], t, q =>
    obtain ⟨v, rfl, r⟩ := t.one
    cases r
    exact ⟨_, rfl, k _ _ _ _ i R (.int _) q⟩
def RIntC : RA3 := fun ds M Q => match ds with
  | [.int i] => Q (.int i) M
  | [.bl b] => Q (.int (if b then 1 else 0)) M
  | _ => False
theorem rd_intc : RDA K (fun xs H Q => (∃ i, xs = [.int i] ∧ Q (.int i) H) ∨ ∃ k, xs = [.bl k] ∧ Q (.int (if k then 1 else 0)) H) RIntC := by
  intro H0 H M vs ds Q Q' i R t k q
  match ds, t, q with
  | [.int n], t, q =>
    obtain ⟨v, rfl, r⟩ := t.one
    cases r
    exact .inl ⟨_, rfl, k _ _ _ _ i R (.int _) q⟩
  | [.bl n], t, q =>
    obtain ⟨v, rfl, r⟩ := t.one
    cases r
    exact .inr ⟨_, rfl, k _ _ _ _ i R (.int _) q⟩
def RList : RA3 := fun ds M Q => match ds with
  | [.tup l] => NewM M (.lst l) fun p M' => Q (.ref p) M'
  | [.rol l] => NewM M (.lst l) fun p M' => Q (.ref p) M'
  | [.ref a] => ∃ l, M a = some (.lst l) ∧ NewM M (.lst l) fun p M' => Q (.ref p) M'
  | _ => False
theorem new_lst {H0 H : Hp} {M : Mp} {xs : List V} {l : List D} {Q : QD} {Q' : VK} (i : Imm H0 H) (R : RelM K M H) (ha : Tps K H xs l) (k : To K H0 Q Q') (q : NewM M (.lst l) fun p M' => Q (.ref p) M') (p : Addr) (hp : H p = none) : Q' (.ref p) (upd H p (.lst xs)) := by
  have im := Imm.new (o := .lst xs) hp
  exact k _ _ _ _ (i.trans im) (R.new (m := .lst l) hp ⟨_, rfl, Tps.mono im _ _ ha⟩) (.ref p) (NewM.at q (R.fresh hp))
theorem rd_list : RDA K (fun xs H Q => ∃ p ys, xs = [.ref p] ∧ (SqL K H p ys ∨ SqT K H p ys) ∧ ∀ l, H l = none → Q (.ref l) (upd H l (.lst ys))) RList := by
  intro H0 H M vs ds Q Q' i R t k q
  match ds, t, q with
  | [.tup l], t, q =>
    obtain ⟨v, rfl, r⟩ := t.one
    cases r with
    | tup hs ha => exact ⟨_, _, rfl, .inr hs, fun p hp => new_lst i R ha k q p hp⟩
  | [.rol l], t, q =>
    obtain ⟨v, rfl, r⟩ := t.one
    cases r with
    | rol hs ha => exact ⟨_, _, rfl, .inl hs.sq, fun p hp => new_lst i R ha k q p hp⟩
  | [.ref a], t, q =>
    obtain ⟨v, rfl, r⟩ := t.one
    obtain ⟨l, e, q⟩ := q
    obtain ⟨_, ea, us, rfl, ha⟩ := R a _ e
    cases r
    exact ⟨_, _, rfl, .inl (SqL.of ea), fun p hp => new_lst i R ha k q p hp⟩
def RTuple : RA3 := fun ds M Q => match ds with
  | [.tup l] => Q (.tup l) M
  | [.rol l] => Q (.tup l) M
  | [.ref a] => ∃ l, M a = some (.lst l) ∧ Q (.tup l) M
  | _ => False
theorem new_tup {H0 H : Hp} {M : Mp} {xs : List V} {l : List D} {Q : QD} {Q' : VK} (i : Imm H0 H) (R : RelM K M H) (ha : Tps K H xs l) (k : To K H0 Q Q') (q : Q (.tup l) M) (p : Addr) (hp : H p = none) : Q' (.ref p) (upd H p (.tup xs)) := by
  have im := Imm.new (o := .tup xs) hp
  exact k _ _ _ _ (i.trans im) (R.skip hp) (.tup (SqT.of upd_same) (Tps.mono im _ _ ha)) q
theorem rd_tuple : RDA K (fun xs H Q => ∃ p ys, xs = [.ref p] ∧ ((SqL K H p ys ∧ ∀ l, H l = none → Q (.ref l) (upd H l (.tup ys))) ∨ (SqT K H p ys ∧ Q (.ref p) H))) RTuple := by
  intro H0 H M vs ds Q Q' i R t k q
  match ds, t, q with
  | [.tup l], t, q =>
    obtain ⟨v, rfl, r⟩ := t.one
    cases r with
    | tup hs ha => exact ⟨_, _, rfl, .inr ⟨hs, k _ _ _ _ i R (.tup hs ha) q⟩⟩
  | [.rol l], t, q =>
    obtain ⟨v, rfl, r⟩ := t.one
    cases r with
    | rol hs ha => exact ⟨_, _, rfl, .inl ⟨hs.sq, fun p hp => new_tup i R ha k q p hp⟩⟩
  | [.ref a], t, q =>
    obtain ⟨v, rfl, r⟩ := t.one
    obtain ⟨l, e, q⟩ := q
    obtain ⟨_, ea, us, rfl, ha⟩ := R a _ e
    cases r
    exact ⟨_, _, rfl, .inl ⟨SqL.of ea, fun p hp => new_tup i R ha k q p hp⟩⟩
/-- a value's type, by name -/
def tyD (M : Mp) : D → Option String
  | .non => some "NoneType"
  | .bl _ => some "bool"
  | .int _ => some "int"
  | .str _ => some "str"
  | .tup _ => some "tuple"
  | .rol _ => some "list"
  | .ref a => match M a with
    | some (.lst _) => some "list"
    | some (.dK _) => some "dict"
    | _ => none
  | .ty _ => none
theorem tyD_ok {H : Hp} {M : Mp} {v : V} {d : D} {n : String} (R : RelM K M H) (t : Tp K H v d) (h : tyD M d = some n) : TyX K H v (.type n) := by
  cases t with
  | non => cases h; exact .base .non
  | bl b => cases h; exact .base (.bl b)
  | int b => cases h; exact .base (.int b)
  | str b => cases h; exact .base (.str b)
  | ty b => cases h
  | tup hs ha =>
    cases h
    rcases hs with (hs | ⟨o, hs⟩) | ⟨o, its, m, hk, hc, _⟩
    · exact .base (.tup hs)
    · exact .fTuple hs
    · exact .kTuple hk hc
  | rol hs ha =>
    cases h
    rcases hs with ⟨o, hs⟩ | ⟨o, its, m, hk, hc, _⟩
    · exact .base (.frz hs)
    · exact .kList hk hc
  | ref a =>
    unfold tyD at h
    cases e : M a with
    | none => simp [e] at h
    | some m =>
      obtain ⟨o, ea, ro⟩ := R a _ e
      cases m with
      | lst l =>
        simp [e] at h
        subst h
        obtain ⟨_, rfl, _⟩ := ro
        exact .base (.lst ea)
      | dK l =>
        simp [e] at h
        subst h
        obtain ⟨_, rfl, _⟩ := ro
        exact .base (.dK ea)
      | _ => simp [e] at h
def RIsi : RA3 := fun ds M Q => match ds with
  | [d, .ty c] => ∃ n b, tyD M d = some n ∧ kitB n c = some b ∧ Q (.bl b) M
  | _ => False
theorem rd_isi : RDA K (rIsi K) RIsi := by
  intro H0 H M vs ds Q Q' i R t k q
  match ds, t, q with
  | [d, .ty c], t, ⟨n, b, hn, hb, q⟩ =>
    obtain ⟨v, u, rfl, r, r2⟩ := t.two
    cases r2
    exact ⟨v, .ty c, _, _, b, rfl, .ty c, tyD_ok R r hn, kit_ty hb, k _ _ _ _ i R (.bl _) q⟩
end
section
variable {X : Cx} {e a b c : Expr} {es rest : List Expr} {σ : Sd} {M : Mp} {Q : QD} {pos p p2 : Pos}
theorem e_len (hm : X.mg "len" = none) (h : AS X [e] σ M fun ds M1 => RLen ds M1 Q) (hg : Gl X "len" := by rfl) (he : starEach [e] X.env = (false, eval e X.env) :: starEach [] X.env := by rfl) : ES X (.Call (.Name "len" p) [e] [] pos) σ M Q := e_cb call_len rd_len hm PySem.boot_len h hg (by decide) (by decide) he rfl
theorem e_abs (hm : X.mg "abs" = none) (h : AS X [e] σ M fun ds M1 => RAbs ds M1 Q) (hg : Gl X "abs" := by rfl) (he : starEach [e] X.env = (false, eval e X.env) :: starEach [] X.env := by rfl) : ES X (.Call (.Name "abs" p) [e] [] pos) σ M Q := e_cb call_abs rd_abs hm (by decide +kernel) h hg (by decide) (by decide) he rfl
theorem e_intc (hm : X.mg "int" = none) (h : AS X [e] σ M fun ds M1 => RIntC ds M1 Q) (hg : Gl X "int" := by rfl) (he : starEach [e] X.env = (false, eval e X.env) :: starEach [] X.env := by rfl) : ES X (.Call (.Name "int" p) [e] [] pos) σ M Q := e_ct call_int1 rd_intc hm (by decide +kernel) h hg (by decide) (by decide) he rfl
theorem e_listc (hm : X.mg "list" = none) (h : AS X [e] σ M fun ds M1 => RList ds M1 Q) (hg : Gl X "list" := by rfl) (he : starEach [e] X.env = (false, eval e X.env) :: starEach [] X.env := by rfl) : ES X (.Call (.Name "list" p) [e] [] pos) σ M Q := e_ct call_list_of rd_list hm (by decide +kernel) h hg (by decide) (by decide) he rfl
theorem e_tuplec (hm : X.mg "tuple" = none) (h : AS X [e] σ M fun ds M1 => RTuple ds M1 Q) (hg : Gl X "tuple" := by rfl) (he : starEach [e] X.env = (false, eval e X.env) :: starEach [] X.env := by rfl) : ES X (.Call (.Name "tuple" p) [e] [] pos) σ M Q := e_ct call_tuple_of rd_tuple hm (by decide +kernel) h hg (by decide) (by decide) he rfl
theorem e_isi (hm : X.mg "isinstance" = none) (h : AS X [a, b] σ M fun ds M1 => RIsi ds M1 Q) (hg : Gl X "isinstance" := by rfl) (he : starEach [a, b] X.env = (false, eval a X.env) :: starEach [b] X.env := by rfl) (he2 : (backTo pos (starEach [b] X.env)).any (·.1) = false := by rfl) : ES X (.Call (.Name "isinstance" p) [a, b] [] pos) σ M Q := e_cb call_isi rd_isi hm (by decide +kernel) h hg (by decide) (by decide) he he2
theorem e_tyname {x : Str} {n : String} (hm : X.mg x = none) (hv : bootBuiltins x = some (.type n)) (q : Q (.ty n) M) (hg : Gl X x := by rfl) (hn : x ≠ "__name__" := by decide) (hdb : (x == ("__debug__" : Str)) = false := by decide) : ES X (.Name x pos) σ M Q := e_bltn (v := .ty n) hm hv rfl (fun _ => .ty n) q hg hn hdb
end
end DL
set_option maxHeartbeats 1000000
namespace DL
open PySem L2 PySem.Spec PyProof.Rows
/-! ### statements -/
section
variable {X : Cx} {e a b c tg iter : Expr} {es rest : List Expr} {st : Stmt} {sts body els : List Stmt} {σ : Sd} {M : Mp} {Q : QD} {E : DE} {pos p p2 : Pos}
theorem ss_nil (q : E.nx σ M) : SSs X [] σ M E := SSs.of pss_nil fun σv H S R => ⟨Imm.refl H, σ, M, S, R, q⟩
theorem ss_cons (h : SS X st σ M { E with nx := fun σ1 M1 => SSs X sts σ1 M1 E }) : SSs X (st :: sts) σ M E :=
  SSs.of (pss_cons ps_sem pss_sem) fun σv H S R => (h.run σv H S R).mono
    ⟨fun σ1 H1 ⟨i1, σ', M1, S1, R1, q1⟩ => (q1.run σ1 H1 S1 R1).mono (DE.from i1), fun _ _ q => q, fun _ _ q => q, fun _ _ q => q⟩
theorem ss_one (h : SS X st σ M E) : SSs X [st] σ M E := SSs.of (pss_one ps_sem) fun σv H S R => h.run σv H S R
theorem s_asg (i : Nat) {x : Str} {pos' : Pos} (hN : X.N.Nodup) (h : ES X e σ M fun d M1 => E.nx (σ.set i (some d)) M1) (hi : X.N[i]? = some x := by rfl) (hx : Loc X.env.scope x := by first | exact Or.inl rfl | exact Or.inr rfl)
    (hs : swapsWith e (some (.Name x pos')) pos.line X.env = pure false := by rfl) (hf : X.fn x = true ∨ X.env.scope.names.lookup x = some .local := by first | exact .inl rfl | exact .inr rfl | assumption) : SS X (.Assign [.Name x pos'] e pos) σ M E :=
  SS.of (ps_set hN hi hx pe_sem hs hf) fun σv H S R => h.go (H0 := H) S R fun v H1 d M1 i1 R1 t1 q1 => ⟨i1, _, M1, (S.mono i1).set t1 i, R1, q1⟩
theorem s_asgG (h : ES X e σ M fun d M1 => GS X tg d σ M1 E.nx) (hs : swapsWithSole [tg] e pos.line X.env = pure false := by rfl) (hw : swappedStores [tg] e X.env = pure none := by rfl)
    (h1 : (assignEach [tg] X.env).map (·.2) = [assign tg X.env] := by rfl) : SS X (.Assign [tg] e pos) σ M E :=
  SS.of (ps_asg pe_sem pg_sem hs hw h1) fun σv H S R => h.go (H0 := H) S R fun v H1 d M1 i1 R1 t1 q1 => (q1.run σv H1 v (S.mono i1) R1 t1).mono fun σ2 H2 q => DN.from i1 q
theorem s_expr (h : ES X e σ M fun _ M1 => E.nx σ M1) (hs : swapsWith e none pos.line X.env = pure false := by rfl) : SS X (.Expr e pos) σ M E :=
  SS.of (ps_expr pe_sem hs) fun σv H S R => h.go (H0 := H) S R fun v H1 d M1 i1 R1 t1 q1 => ⟨i1, σ, M1, S.mono i1, R1, q1⟩
theorem s_doc {x j pos'} (q : E.nx σ M) : SS X (.Expr (.Constant (.str x) j pos) pos') σ M E := SS.of ps_doc fun σv H S R => ⟨Imm.refl H, σ, M, S, R, q⟩
theorem s_ret (h : ES X e σ M E.rt) : SS X (.Return (some e) pos) σ M E := SS.of (ps_ret pe_sem) fun σv H S R => h.run σv H S R
theorem s_retN (q : E.rt .non M) : SS X (.Return none pos) σ M E := SS.of ps_retN fun σv H S R => ⟨Imm.refl H, _, M, R, .non, q⟩
theorem s_pass (q : E.nx σ M) : SS X (.Pass pos) σ M E := SS.of ps_pass fun σv H S R => ⟨Imm.refl H, σ, M, S, R, q⟩
theorem s_break (q : E.bk σ M) : SS X (.Break pos) σ M E := SS.of ps_break fun σv H S R => ⟨Imm.refl H, σ, M, S, R, q⟩
theorem s_cont (q : E.ct σ M) : SS X (.Continue pos) σ M E := SS.of ps_continue fun σv H S R => ⟨Imm.refl H, σ, M, S, R, q⟩
theorem s_if (h : TT3 X c σ M fun k M1 => BQ k (SSs X sts σ M1 E) (SSs X els σ M1 E)) : SS X (.If c sts els pos) σ M E :=
  SS.of (ps_if pt_sem pss_sem pss_sem) fun σv H S R => h.go S R fun v H1 M1 i1 R1 q1 => by
    cases v with
    | true =>
      rw [if_pos rfl]
      exact ((q1.1 rfl).run σv H1 (S.mono i1) R1).mono (DE.from i1)
    | false =>
      rw [if_neg Bool.false_ne_true]
      exact ((q1.2 rfl).run σv H1 (S.mono i1) R1).mono (DE.from i1)
/-- name op= e, ints -/
theorem s_augI (i : Nat) {x : Str} {pos' : Pos} {d : D} (hN : X.N.Nodup) (hd : σ[i]? = some (some d)) (h : ES X e σ M fun y M1 => RInt0 (fun i j => .int (i + j)) d y M1 fun z M2 => E.nx (σ.set i (some z)) M2) (hi : X.N[i]? = some x := by rfl) (hx : Loc X.env.scope x := by first | exact Or.inl rfl | exact Or.inr rfl)
    (hf : X.fn x = true ∨ X.env.scope.names.lookup x = some .local := by first | exact .inl rfl | exact .inr rfl | assumption) : SS X (.AugAssign (.Name x pos') .Add e pos) σ M E :=
  SS.of (ps_aug hN hi hx pe_sem ip_add hf) fun σv H S R => by
    obtain ⟨v, ev, tv⟩ := S.at_ i d hd
    refine ⟨v, ev, h.go (H0 := H) S R fun u H1 y M1 i1 R1 t1 q1 => ?_⟩
    cases tv <;> first | exact False.elim q1 | skip
    case int n =>
      cases t1 <;> first | exact False.elim q1 | skip
      case int m => exact ⟨n, m, rfl, rfl, i1, _, M1, (S.mono i1).set (.int _) i, R1, q1⟩
theorem s_augS (i : Nat) {x : Str} {pos' : Pos} {d : D} (hN : X.N.Nodup) (hd : σ[i]? = some (some d)) (h : ES X e σ M fun y M1 => RInt0 (fun i j => .int (i - j)) d y M1 fun z M2 => E.nx (σ.set i (some z)) M2) (hi : X.N[i]? = some x := by rfl) (hx : Loc X.env.scope x := by first | exact Or.inl rfl | exact Or.inr rfl)
    (hf : X.fn x = true ∨ X.env.scope.names.lookup x = some .local := by first | exact .inl rfl | exact .inr rfl | assumption) : SS X (.AugAssign (.Name x pos') .Sub e pos) σ M E :=
  SS.of (ps_aug hN hi hx pe_sem ip_sub hf) fun σv H S R => by
    obtain ⟨v, ev, tv⟩ := S.at_ i d hd
    refine ⟨v, ev, h.go (H0 := H) S R fun u H1 y M1 i1 R1 t1 q1 => ?_⟩
    cases tv <;> first | exact False.elim q1 | skip
    case int n =>
      cases t1 <;> first | exact False.elim q1 | skip
      case int m => exact ⟨n, m, rfl, rfl, i1, _, M1, (S.mono i1).set (.int _) i, R1, q1⟩
/-! ### targets -/
theorem g_name (i : Nat) {x : Str} {d : D} {Q : Sd → Mp → Prop} (hN : X.N.Nodup) (q : Q (σ.set i (some d)) M) (hi : X.N[i]? = some x := by rfl) (hx : Loc X.env.scope x := by first | exact Or.inl rfl | exact Or.inr rfl)
    (hf : X.fn x = true ∨ X.env.scope.names.lookup x = some .local := by first | exact .inl rfl | exact .inr rfl | assumption) : GS X (.Name x pos) d σ M Q :=
  ⟨fun σv H v S R t pins s u I r => (pg_name hN hi hx hf).run pins s σv H v u _ I r ⟨Imm.refl H, _, M, S.set t i, R, q⟩⟩
theorem gs_nil {Q : Sd → Mp → Prop} (q : Q σ M) : GSs X [] [] σ M Q := ⟨fun σv H vs S R t pins s us I r => by
  cases t
  exact pgs_nil.run pins s σv H [] us _ I r ⟨rfl, Imm.refl H, σ, M, S, R, q⟩⟩
theorem gs_cons {d : D} {ds : List D} {Q : Sd → Mp → Prop} (h : GS X e d σ M fun σ1 M1 => GSs X es ds σ1 M1 Q)
    (hs : (assignEach (e :: es) X.env).map (·.2) = assign e X.env :: (assignEach es X.env).map (·.2) := by rfl) : GSs X (e :: es) (d :: ds) σ M Q := ⟨fun σv H vs S R t pins s us I r => by
  cases t with
  | cons t1 t2 =>
    refine (pgs_cons pg_sem pgs_sem hs).run pins s σv H _ us _ I r ⟨_, _, rfl, (h.run σv H _ S R t1).mono fun σ2 H2 ⟨i2, σ', M2, S2, R2, q2⟩ => ?_⟩
    exact (q2.run σ2 H2 _ S2 R2 (Tps.mono i2 _ _ t2)).mono fun _ _ q => DN.from i2 q⟩
/-- a, b = a tuple -/
theorem g_tup {k : Nat} {d : D} {ds : List D} {Q : Sd → Mp → Prop} (hd : d = .tup ds) (h : GSs X es ds σ M Q) (hc : X.calm = true := by rfl) (hn : (assignEach es X.env).length = ds.length := by rfl) (hst : (assignEach es X.env).findIdx? (·.1) = none := by rfl) : GS X (.Tuple es k pos) d σ M Q := ⟨fun σv H v S R t pins s u I r => by
  subst hd
  cases t with
  | @tup a xs _ hs ha => exact (pg_tup (n := ds.length) hc pgs_sem hn hst).run pins s σv H _ u _ I r ⟨a, xs, rfl, hs, ha.length, h.run σv H xs S R ha⟩⟩
/-- xs[i] = e -/
def RSet (o i d : D) (M : Mp) (Q : Mp → Prop) : Prop := match o, i with
  | .ref a, .int k => ∃ ds j, M a = some (.lst ds) ∧ ixN ds.length k = some j ∧ SetM M a (.lst (ds.set j d)) Q
  | _, _ => False
theorem g_sub {d : D} {Q : Sd → Mp → Prop} (h : ES X a σ M fun o M1 => ES X b σ M1 fun i M2 => RSet o i d M2 (Q σ)) (ha : ∀ v, assign (.Subscript a b pos) X.env v = (do
      let ov ← holding [v] (eval a X.env)
      let iv ← holding [v, ov] (eval b X.env)
      standAt pos
      holding [v, ov, iv] (setItem ov iv v)
      release [v, ov, iv] []) := by intro _; rfl) : GS X (.Subscript a b pos) d σ M Q := ⟨fun σv H v S R t pins s u I r => by
  refine (pg_sub pe_sem pe_sem set_list ha).run pins s σv H v u _ I r ?_
  refine h.go (H0 := H) S R fun ov H1 o M1 i1 R1 t1 q1 => q1.go (H0 := H) (S.mono i1) R1 fun iv H2 i M2 i2 R2 t2 q2 => ?_
  cases t1 <;> first | exact False.elim q2 | skip
  case ref p =>
    cases t2 <;> first | exact False.elim q2 | skip
    case int k =>
      obtain ⟨ds, j, e, hj, q⟩ := q2
      obtain ⟨_, ea, us, rfl, ha'⟩ := R2 p _ e
      have im : Imm H2 (upd H2 p (.lst (us.set j v))) := Imm.set ea (fun z => z)
      have ii := i1.trans i2
      refine ⟨p, us, k, j, rfl, rfl, ea, by rw [ha'.length]; exact hj, ii.trans im, σ, _, S.mono (ii.trans im), R2.set (m := .lst (ds.set j d)) ea (fun z => z) ⟨_, rfl, ?_⟩, SetM.at q⟩
      exact Tps.set (Tp.mono (ii.trans im) _ _ t) j (Tps.mono im _ _ ha')⟩
/-! ### while, for -/
theorem s_while (W : Nat → Sd → Mp → Prop) (m : Nat) (w0 : W m σ M) (hp : PassesOwn (model X.prog X.w) X.A X.env X.xe)
    (hs : ∀ m σ M, W m σ M → TT3 X c σ M fun k M1 => BQ k (SSs X body σ M1 { nx := fun σ' M' => ∃ m', m' < m ∧ W m' σ' M', ct := fun σ' M' => ∃ m', m' < m ∧ W m' σ' M', bk := E.nx, rt := E.rt }) (E.nx σ M1)) :
    SS X (.While c body [] pos) σ M E :=
  SS.of (ps_while hp pt_sem pss_sem) fun σv H S R => by
    refine ⟨fun m σv' H' => Imm H H' ∧ ∃ σ' M', Slots X.K H' σv' σ' ∧ RelM X.K M' H' ∧ W m σ' M', ⟨m, Imm.refl H, σ, M, S, R, w0⟩, ?_⟩
    rintro m1 σv1 H1 ⟨i1, σ1, M1, S1, R1, w1⟩
    refine (hs m1 σ1 M1 w1).go S1 R1 fun k H2 M2 i2 R2 q2 => ?_
    cases k with
    | true =>
      rw [if_pos rfl]
      refine ⟨fun σv' H' => Imm H H' ∧ ∃ m', m' < m1 ∧ ∃ σ' M', Slots X.K H' σv' σ' ∧ RelM X.K M' H' ∧ W m' σ' M', fun σv' H' ⟨i, m', hm, r⟩ => ⟨m', hm, i, r⟩, ?_⟩
      refine ((q2.1 rfl).run σv1 H2 (S1.mono i2) R2).mono ⟨fun σv3 H3 ⟨i3, σ3, M3, S3, R3, m', hm, w3⟩ => ⟨(i1.trans i2).trans i3, m', hm, σ3, M3, S3, R3, w3⟩, fun _ _ q => DQ.from (i1.trans i2) q, fun _ _ q => DN.from (i1.trans i2) q, fun σv3 H3 ⟨i3, σ3, M3, S3, R3, m', hm, w3⟩ => ⟨(i1.trans i2).trans i3, m', hm, σ3, M3, S3, R3, w3⟩⟩
    | false =>
      rw [if_neg Bool.false_ne_true]
      exact ⟨i1.trans i2, σ1, M2, S1.mono i2, R2, q2.2 rfl⟩
theorem s_for (hp : PassesOwn (model X.prog X.w) X.A X.env X.xe) (h : IS X tg iter σ M fun its G M1 => ∃ Pv : Nat → Sd → Mp → Prop, Pv 0 σ M1 ∧ (∀ i σ' M', i ≤ its.length → Pv i σ' M' → G M') ∧
      (∀ i d σ' M', its[i]? = some d → Pv i σ' M' → GS X tg d σ' M' fun σ2 M2 => SSs X body σ2 M2 { nx := Pv (i + 1), ct := Pv (i + 1), bk := E.nx, rt := E.rt }) ∧ ∀ σ' M', Pv its.length σ' M' → E.nx σ' M') (hc : X.calm = true := by rfl)
    (hs : ∀ x, foldedSetIterable iter X.env x = pure x := by intro _; rfl) : SS X (.For tg iter body [] pos) σ M E :=
  SS.of (ps_for hp hc pi_sem pg_sem pss_sem hs) fun σv H S R => (h.run σv H S R).mono fun J H1 ⟨i1, its, G, M1, R1, wk, Pv, p0, pG, ps, pe⟩ => by
    refine ⟨fun i m σv' H' => m = its.length - i ∧ i ≤ its.length ∧ Imm H1 H' ∧ ∃ σ' M', Slots X.K H' σv' σ' ∧ RelM X.K M' H' ∧ Pv i σ' M', ⟨its.length, by simp, Nat.zero_le _, Imm.refl H1, σ, M1, S.mono i1, R1, p0⟩, ?_⟩
    rintro i m σv2 H2 ⟨rfl, hi, i2, σ2, M2, S2, R2, p2⟩
    by_cases hlt : i < its.length
    · refine .inr ⟨wk.goes i H2 M2 i2 R2 (pG i σ2 M2 hi p2) hlt, fun σv' H' => Imm H1 H' ∧ ∃ σ' M', Slots X.K H' σv' σ' ∧ RelM X.K M' H' ∧ Pv (i + 1) σ' M', fun σv' H' ⟨a, b⟩ => ⟨its.length - (i + 1), by omega, rfl, hlt, a, b⟩, fun x H3 y => ?_⟩
      have hd : its[i]? = some its[i] := List.getElem?_eq_getElem hlt
      obtain ⟨i3, R3, t3⟩ := wk.yields i H2 M2 x H3 _ i2 R2 (pG i σ2 M2 hi p2) hd y
      refine ((ps i _ σ2 M2 hd p2).run σv2 H3 x (S2.mono i3) R3 t3).mono fun σv4 H4 ⟨i4, σ4, M4, S4, R4, q4⟩ => ?_
      have i14 := (i2.trans i3).trans i4
      refine (q4.run σv4 H4 S4 R4).mono ⟨fun _ H5 ⟨i5, r⟩ => ⟨i14.trans i5, r⟩, fun _ _ q => DQ.from (i1.trans i14) q, fun _ _ q => DN.from (i1.trans i14) q, fun _ H5 ⟨i5, r⟩ => ⟨i14.trans i5, r⟩⟩
    · have e : i = its.length := by omega
      subst e
      exact .inl ⟨wk.stops H2 M2 i2 R2 (pG _ σ2 M2 hi p2), i1.trans i2, σ2, M2, S2, R2, pe σ2 M2 p2⟩
/-! ### what is walked -/
variable {R : List D → (Mp → Prop) → Mp → Prop}
theorem IS.of {t : TI} (h : PI X tg iter t) (q : ∀ σv H, Slots X.K H σv σ → RelM X.K M H → t σv H fun J H1 => Imm H H1 ∧ ∃ its G M1, RelM X.K M1 H1 ∧ WalkD X.K H1 J its G ∧ R its G M1) : IS X tg iter σ M R :=
  ⟨fun σv H S RM pins s I => h.run pins s σv H _ I (q σv H S RM)⟩
theorem wk_T {K : PySem.W.Frag} {H1 : Hp} {p : Addr} {xs : List V} {ds : List D} (hs : SqT K H1 p xs) (ha : Tps K H1 xs ds) : WalkD K H1 (Itt K p) ds (fun _ => True) where
  goes := fun i H M im R _ hi => by
    obtain ⟨v, ev, _⟩ := ha.get (List.getElem?_eq_getElem hi)
    exact ⟨xs, v, imm_sqT im hs, ev⟩
  stops := fun H M im R _ => ⟨xs, imm_sqT im hs, by rw [ha.length]; exact Nat.le_refl _⟩
  yields := fun i H M x H' d im R _ hd y => by
    obtain ⟨e, y⟩ := y
    subst e
    obtain ⟨v, ev, tv⟩ := ha.get hd
    have := y xs (imm_sqT im hs)
    rw [ev] at this
    cases this
    exact ⟨Imm.refl _, R, Tp.mono im _ _ tv⟩
theorem wk_R {K : PySem.W.Frag} {H1 : Hp} {p : Addr} {xs : List V} {ds : List D} (hs : SqF K H1 p xs) (ha : Tps K H1 xs ds) : WalkD K H1 (Itl K p) ds (fun _ => True) where
  goes := fun i H M im R _ hi => by
    obtain ⟨v, ev, _⟩ := ha.get (List.getElem?_eq_getElem hi)
    exact ⟨xs, v, (imm_sqF im hs).sq, ev⟩
  stops := fun H M im R _ => ⟨xs, (imm_sqF im hs).sq, by rw [ha.length]; exact Nat.le_refl _⟩
  yields := fun i H M x H' d im R _ hd y => by
    obtain ⟨e, y⟩ := y
    subst e
    obtain ⟨v, ev, tv⟩ := ha.get hd
    have := y xs (imm_sqF im hs).sq
    rw [ev] at this
    cases this
    exact ⟨Imm.refl _, R, Tp.mono im _ _ tv⟩
theorem wk_L {K : PySem.W.Frag} {H1 : Hp} {p : Addr} {ds : List D} : WalkD K H1 (Itl K p) ds (fun M => M p = some (.lst ds)) where
  goes := fun i H M im R g hi => by
    obtain ⟨_, ea, us, rfl, ha⟩ := R p _ g
    obtain ⟨v, ev, _⟩ := ha.get (List.getElem?_eq_getElem hi)
    exact ⟨us, v, SqL.of ea, ev⟩
  stops := fun H M im R g => by
    obtain ⟨_, ea, us, rfl, ha⟩ := R p _ g
    exact ⟨us, SqL.of ea, by rw [ha.length]; exact Nat.le_refl _⟩
  yields := fun i H M x H' d im R g hd y => by
    obtain ⟨e, y⟩ := y
    subst e
    obtain ⟨_, ea, us, rfl, ha⟩ := R p _ g
    obtain ⟨v, ev, tv⟩ := ha.get hd
    have := y us (SqL.of ea)
    rw [ev] at this
    cases this
    exact ⟨Imm.refl _, R, tv⟩
theorem wk_N {K : PySem.W.Frag} {H1 : Hp} {lo : Int} {n : Nat} : WalkD K H1 (Itr lo n) ((List.range n).map fun i => D.int (lo + (i : Nat))) (fun _ => True) where
  goes := fun i H M im R _ hi => by
    rw [List.length_map, List.length_range] at hi
    exact hi
  stops := fun H M im R _ => by
    rw [List.length_map, List.length_range]
    exact Nat.le_refl _
  yields := fun i H M x H' d im R _ hd y => by
    obtain ⟨e, y⟩ := y
    subst e y
    rw [List.getElem?_map] at hd
    by_cases hi : i < n
    · rw [List.getElem?_range hi] at hd
      cases hd
      exact ⟨Imm.refl _, R, .int _⟩
    · rw [List.getElem?_eq_none (by rw [List.length_range]; omega)] at hd
      cases hd
/-- a list (for x in xs) -/
theorem i_list (h : ES X iter σ M fun d M1 => match d with
    | .rol ds => R ds (fun _ => True) M1
    | .ref a => ∃ ds, M1 a = some (.lst ds) ∧ R ds (fun M => M a = some (.lst ds)) M1
    | _ => False) : IS X tg iter σ M R :=
  IS.of (pi_list pe_sem) fun σv H S RM => h.go (H0 := H) S RM fun v H1 d M1 i1 R1 t1 q1 => by
    cases t1 <;> first | exact False.elim q1 | skip
    case ref a =>
      obtain ⟨ds, e, q⟩ := q1
      obtain ⟨_, ea, us, rfl, ha⟩ := R1 a _ e
      exact ⟨a, rfl, ⟨us, SqL.of ea⟩, i1, ds, _, M1, R1, wk_L, q⟩
    case rol a xs ds hs ha => exact ⟨a, rfl, ⟨xs, hs.sq⟩, i1, ds, _, M1, R1, wk_R hs ha, q1⟩
theorem i_tup (h : ES X iter σ M fun d M1 => match d with
    | .tup ds => R ds (fun _ => True) M1
    | _ => False) : IS X tg iter σ M R :=
  IS.of (pi_tup pe_sem) fun σv H S RM => h.go (H0 := H) S RM fun v H1 d M1 i1 R1 t1 q1 => by
    cases t1 <;> first | exact False.elim q1 | skip
    case tup a xs ds hs ha => exact ⟨a, rfl, ⟨xs, hs⟩, i1, ds, _, M1, R1, wk_T hs ha, q1⟩
def rgD (lo : Int) (n : Nat) : List D := (List.range n).map fun i => D.int (lo + (i : Nat))
theorem i_rng1 (hm : X.mg "range" = none) (h : ES X a σ M fun d M1 => match d with
    | .int j => -(2 ^ 62) ≤ j ∧ j < 2 ^ 62 ∧ R (rgD 0 j.toNat) (fun _ => True) M1
    | _ => False) (hg : Gl X "range" := by rfl) (hs : starEach [a] X.env = [(false, eval a X.env)] := by rfl) : IS X tg (.Call (.Name "range" p) [a] [] pos) σ M R :=
  IS.of (pi_range1 hg hm pa_sem hs) fun σv H S RM => (a_cons (QA := fun ds M1 => match ds with | [.int j] => -(2 ^ 62) ≤ j ∧ j < 2 ^ 62 ∧ R (rgD 0 j.toNat) (fun _ => True) M1 | _ => False) (h.imp fun d M1 q => by
      cases d <;> first | exact False.elim q | exact a_nil q) hs).go S RM fun vs H1 ds M1 i1 R1 t1 q1 => by
    match ds, t1, q1 with
    | [.int j], t1, q1 =>
      obtain ⟨v, rfl, r⟩ := t1.one
      cases r
      exact ⟨j, rfl, q1.1, q1.2.1, i1, _, _, M1, R1, wk_N, q1.2.2⟩
theorem i_rng2 (hm : X.mg "range" = none) (h : AS X [a, b] σ M fun ds M1 => match ds with
    | [.int i, .int j] => (-(2 ^ 62) ≤ i ∧ i < 2 ^ 62 ∧ -(2 ^ 62) ≤ j ∧ j < 2 ^ 62) ∧ R (rgD i (j - i).toNat) (fun _ => True) M1
    | _ => False) (hg : Gl X "range" := by rfl) (hs : starEach [a, b] X.env = [(false, eval a X.env), (false, eval b X.env)] := by rfl) (hs2 : starEach [b] X.env = [(false, eval b X.env)] := by rfl) : IS X tg (.Call (.Name "range" p) [a, b] [] pos) σ M R :=
  IS.of (pi_range2 hg hm pa_sem hs hs2) fun σv H S RM => h.go S RM fun vs H1 ds M1 i1 R1 t1 q1 => by
    match ds, t1, q1 with
    | [.int i, .int j], t1, q1 =>
      obtain ⟨v, u, rfl, r, r2⟩ := t1.two
      cases r
      cases r2
      exact ⟨i, j, rfl, q1.1, i1, _, _, M1, R1, wk_N, q1.2⟩
end
end DL
set_option maxHeartbeats 1000000
namespace DL
open PySem L2 PySem.Spec PyProof.Rows
/-! ### comprehensions -/
theorem Slots.wipe1 {K : PySem.W.Frag} {H : Hp} {σv : L2.St} {σ : Sd} (s : Slots K H σv σ) (i : Nat) : Slots K H (σv.set i none) (σ.set i none) := by
  refine ⟨by rw [List.length_set, List.length_set, s.len], fun j e h => ?_⟩
  by_cases hj : j = i
  · subst hj
    by_cases hl : j < σ.length
    · rw [List.getElem?_set_self hl] at h
      cases h
    · rw [List.getElem?_eq_none (by rw [List.length_set]; omega)] at h
      cases h
  · rw [List.getElem?_set_ne (Ne.symm hj)] at h
    obtain ⟨v', e', r'⟩ := s.at_ j e h
    exact ⟨v', by rw [List.getElem?_set_ne (Ne.symm hj)]; exact e', r'⟩
section
variable {X : Cx} {elt iter : Expr} {ifs : List Expr} {scope : Scope} {σ : Sd} {M : Mp} {Q : QD} {pos p : Pos} {x : Str}
/-- a block's readings, whatever the block -/
def tEB (X : Cx) (scope : Scope) (e : Expr) : TE := fun σ H Q => ∀ (s : Shared) (H0 : Hp) (C : Addr) (cl : List (Str × Addr)) (fp : List Addr), tE (X.blk s H0 scope (compEnvC scope cl C X.env) fp) e σ H Q
def tTB (X : Cx) (scope : Scope) (e : Expr) : TT := fun σ H Q => ∀ (s : Shared) (H0 : Hp) (C : Addr) (cl : List (Str × Addr)) (fp : List Addr), tT (X.blk s H0 scope (compEnvC scope cl C X.env) fp) e σ H Q
/-- [elt for x in iter]: x in slot j -/
theorem lc_read (j : Nat)
    (h : IS X (.Name x p) iter σ M fun its G M1 => ∀ q, M1 q = none → ∃ Pv : Nat → Mp → Prop, (∀ M', M' q = some (.lst []) → Mle M1 M' → Pv 0 M') ∧ (∀ i M', i ≤ its.length → Pv i M' → G M') ∧
      (∀ i d M', its[i]? = some d → Pv i M' → ∀ (s : Shared) (H0 : Hp) (C : Addr) (cl : List (Str × Addr)) (fp : List Addr),
        ES (X.blk s H0 scope (compEnvC scope cl C X.env) fp) elt (σ.set j (some d)) M' fun y M2 => ∃ acc, M2 q = some (.lst acc) ∧ acc.length < sizeLine ∧ SetM M2 q (.lst (acc ++ [y])) (Pv (i + 1))) ∧
      ∀ M', Pv its.length M' → Q (.ref q) M')
    : ∀ σv H, Slots X.K H σv σ → RelM X.K M H → ∀ Q', To X.K H Q Q' → tLc (tI X (.Name x p) iter) (gName j) tYes (tEB X scope elt) ([(x, j)].map (·.2)) σv H Q' := fun σv H S R Q' to => (h.run σv H S R).mono fun J H1 ⟨i1, its, G, M1, R1, wk, k⟩ q hq => by
    obtain ⟨Pv, p0, pG, ps, pe⟩ := k q (R1.fresh hq)
    have imq := Imm.new (o := .lst []) hq
    refine ⟨fun i m H' => m = its.length - i ∧ i ≤ its.length ∧ Imm H1 H' ∧ ∃ M', RelM X.K M' H' ∧ Pv i M', ⟨its.length, by simp, Nat.zero_le _, imq, _, R1.new (m := .lst []) hq ⟨_, rfl, .nil⟩, p0 _ updM_same (Mle.new (R1.fresh hq))⟩, ?_⟩
    rintro i m H2 ⟨rfl, hi, i2, M2, R2, p2⟩
    by_cases hlt : i < its.length
    · refine .inr ⟨wk.goes i H2 M2 i2 R2 (pG i M2 hi p2) hlt, fun H' => Imm H1 H' ∧ ∃ M', RelM X.K M' H' ∧ Pv (i + 1) M', fun H' ⟨a, b⟩ => ⟨its.length - (i + 1), by omega, rfl, hlt, a, b⟩, fun xv H3 y => ?_⟩
      have hd : its[i]? = some its[i] := List.getElem?_eq_getElem hlt
      obtain ⟨i3, R3, t3⟩ := wk.yields i H2 M2 xv H3 _ i2 R2 (pG i M2 hi p2) hd y
      show L2.wipe ((L2.wipe σv ([(x, j)].map (·.2))).set j (some xv)) ([(x, j)].map (·.2)) = L2.wipe σv ([(x, j)].map (·.2)) ∧ _
      refine ⟨by simp [L2.wipe, List.set_set], ?_⟩
      change tEB X scope elt _ _ _
      intro s0 H0 C cl fp
      have S3 : Slots X.K H3 ((L2.wipe σv ([(x, j)].map (·.2))).set j (some xv)) (σ.set j (some its[i])) := by
        have e : (L2.wipe σv ([(x, j)].map (·.2))).set j (some xv) = σv.set j (some xv) := by simp [L2.wipe, List.set_set]
        rw [e]
        exact (S.mono ((i1.trans i2).trans i3)).set t3 j
      refine (ps i _ M2 hd p2 s0 H0 C cl fp).go (H0 := H3) S3 R3 fun yv H4 yd M4 i4 R4 t4 ⟨acc, ea, hz, p4⟩ => ?_
      obtain ⟨_, eh, us, rfl, ha⟩ := R4 q _ ea
      have im4 : Imm H4 (upd H4 q (.lst (us ++ [yv]))) := Imm.set eh (fun z => z)
      refine ⟨us, eh, by rw [ha.length]; exact hz, ((i2.trans i3).trans i4).trans im4, _, R4.set (m := .lst (acc ++ [yd])) eh (fun z => z) ⟨_, rfl, (Tps.mono im4 _ _ ha).append (.cons (Tp.mono im4 _ _ t4) .nil)⟩, SetM.at p4⟩
    · have e : i = its.length := by omega
      subst e
      exact .inl ⟨wk.stops H2 M2 i2 R2 (pG _ M2 hi p2), to _ _ _ _ (i1.trans i2) R2 (.ref q) (pe M2 p2)⟩
theorem e_lc (j : Nat) (hN : X.N.Nodup) (ok : BlkOk X.N X.env.scope scope [(x, j)])
    (h : IS X (.Name x p) iter σ M fun its G M1 => ∀ q, M1 q = none → ∃ Pv : Nat → Mp → Prop, (∀ M', M' q = some (.lst []) → Mle M1 M' → Pv 0 M') ∧ (∀ i M', i ≤ its.length → Pv i M' → G M') ∧
      (∀ i d M', its[i]? = some d → Pv i M' → ∀ (s : Shared) (H0 : Hp) (C : Addr) (cl : List (Str × Addr)) (fp : List Addr),
        ES (X.blk s H0 scope (compEnvC scope cl C X.env) fp) elt (σ.set j (some d)) M' fun y M2 => ∃ acc, M2 q = some (.lst acc) ∧ acc.length < sizeLine ∧ SetM M2 q (.lst (acc ++ [y])) (Pv (i + 1))) ∧
      ∀ M', Pv its.length M' → Q (.ref q) M')
    (hj : X.N[j]? = some x := by rfl) (hc : X.calm = true := by rfl) (hl : ∀ cl C, Loc (compEnvC scope cl C X.env).scope x := by exact fun _ _ => Or.inl rfl)
    (hf : ∀ (s : Shared) (H0 : Hp) (C : Addr) (cl : List (Str × Addr)) (fp : List Addr), (X.blk s H0 scope (compEnvC scope cl C X.env) fp).fn x = true ∨ (compEnvC scope cl C X.env).scope.names.lookup x = some .local := by exact fun _ _ _ _ _ => Or.inr rfl)
    (hs : ∀ x, foldedSetIterable iter X.env x = pure x := by intro _; rfl) : ES X (.ListComp elt [⟨.Name x p, iter, [], 0⟩] scope pos) σ M Q :=
  ES.of (pe_lc (own := [(x, j)]) (g := gName j) (tt := tYes) (te := tEB X scope elt) hc hN pi_sem ok (fun s H0 C cl fp => pg_name (i := j) hN hj (hl cl C) (hf s H0 C cl fp)) (fun _ _ _ _ _ => pts_nil)
      (fun s H0 C cl fp => ⟨fun pins s1 σ H Q I hw => hw s H0 C cl fp pins s1 I⟩) hs) fun σv H S R => lc_read j h σv H S R _ To.dq
/-- name = [elt for x in iter] on one line, a plain local -/
theorem s_lc (i j : Nat) {y : Str} {py spos : Pos} {E : DE} (hN : X.N.Nodup) (ok : BlkOk X.N X.env.scope scope [(x, j)])
    (h : IS X (.Name x p) iter σ M fun its G M1 => ∀ q, M1 q = none → ∃ Pv : Nat → Mp → Prop, (∀ M', M' q = some (.lst []) → Mle M1 M' → Pv 0 M') ∧ (∀ i M', i ≤ its.length → Pv i M' → G M') ∧
      (∀ i d M', its[i]? = some d → Pv i M' → ∀ (s : Shared) (H0 : Hp) (C : Addr) (cl : List (Str × Addr)) (fp : List Addr),
        ES (X.blk s H0 scope (compEnvC scope cl C X.env) fp) elt (σ.set j (some d)) M' fun y M2 => ∃ acc, M2 q = some (.lst acc) ∧ acc.length < sizeLine ∧ SetM M2 q (.lst (acc ++ [y])) (Pv (i + 1))) ∧
      ∀ M', Pv its.length M' → E.nx (σ.set i (some (.ref q))) M')
    (hy : X.N[i]? = some y := by rfl) (hyl : X.env.scope.names.lookup y = some .local := by rfl) (hsw : swapsWith (.ListComp elt [⟨.Name x p, iter, [], 0⟩] scope pos) (some (.Name y py)) spos.line X.env = pure true := by exact sw_true rfl rfl rfl (by decide +kernel))
    (hj : X.N[j]? = some x := by rfl) (hc : X.calm = true := by rfl) (hl : ∀ cl C, Loc (compEnvC scope cl C X.env).scope x := by exact fun _ _ => Or.inl rfl)
    (hf : ∀ (s : Shared) (H0 : Hp) (C : Addr) (cl : List (Str × Addr)) (fp : List Addr), (X.blk s H0 scope (compEnvC scope cl C X.env) fp).fn x = true ∨ (compEnvC scope cl C X.env).scope.names.lookup x = some .local := by exact fun _ _ _ _ _ => Or.inr rfl)
    (hs : ∀ x, foldedSetIterable iter X.env x = pure x := by intro _; rfl) : SS X (.Assign [.Name y py] (.ListComp elt [⟨.Name x p, iter, [], 0⟩] scope pos) spos) σ M E :=
  SS.of (ps_setLc (own := [(x, j)]) (g := gName j) (tt := tYes) (te := tEB X scope elt) hc hN hy hyl hsw pi_sem ok (fun s H0 C cl fp => pg_name (i := j) hN hj (hl cl C) (hf s H0 C cl fp)) (fun _ _ _ _ _ => pts_nil)
      (fun s H0 C cl fp => ⟨fun pins s1 σ H Q I hw => hw s H0 C cl fp pins s1 I⟩) hs) fun σv H S R =>
    lc_read (Q := fun d M' => E.nx (σ.set i (some d)) M') j h σv H S R _ fun v H' d M' i' R' t' q' => ⟨i', _, M', (S.mono i').set t' i, R', q'⟩
/-- [elt for x in iter if c] -/
theorem lcIf_read {c : Expr} (j : Nat)
    (h : IS X (.Name x p) iter σ M fun its G M1 => ∀ q, M1 q = none → ∃ Pv : Nat → Mp → Prop, (∀ M', M' q = some (.lst []) → Mle M1 M' → Pv 0 M') ∧ (∀ i M', i ≤ its.length → Pv i M' → G M') ∧
      (∀ i d M', its[i]? = some d → Pv i M' → ∀ (s : Shared) (H0 : Hp) (C : Addr) (cl : List (Str × Addr)) (fp : List Addr),
        TT3 (X.blk s H0 scope (compEnvC scope cl C X.env) fp) c (σ.set j (some d)) M' fun k M1 => BQ k
          (∀ (s : Shared) (H0 : Hp) (C : Addr) (cl : List (Str × Addr)) (fp : List Addr), ES (X.blk s H0 scope (compEnvC scope cl C X.env) fp) elt (σ.set j (some d)) M1 fun y M2 => ∃ acc, M2 q = some (.lst acc) ∧ acc.length < sizeLine ∧ SetM M2 q (.lst (acc ++ [y])) (Pv (i + 1)))
          (Pv (i + 1) M1)) ∧
      ∀ M', Pv its.length M' → Q (.ref q) M')
    : ∀ σv H, Slots X.K H σv σ → RelM X.K M H → ∀ Q', To X.K H Q Q' → tLc (tI X (.Name x p) iter) (gName j) (tTB X scope c) (tEB X scope elt) ([(x, j)].map (·.2)) σv H Q' := fun σv H S R Q' to => (h.run σv H S R).mono fun J H1 ⟨i1, its, G, M1, R1, wk, k⟩ q hq => by
    obtain ⟨Pv, p0, pG, ps, pe⟩ := k q (R1.fresh hq)
    have imq := Imm.new (o := .lst []) hq
    refine ⟨fun i m H' => m = its.length - i ∧ i ≤ its.length ∧ Imm H1 H' ∧ ∃ M', RelM X.K M' H' ∧ Pv i M', ⟨its.length, by simp, Nat.zero_le _, imq, _, R1.new (m := .lst []) hq ⟨_, rfl, .nil⟩, p0 _ updM_same (Mle.new (R1.fresh hq))⟩, ?_⟩
    rintro i m H2 ⟨rfl, hi, i2, M2, R2, p2⟩
    by_cases hlt : i < its.length
    · refine .inr ⟨wk.goes i H2 M2 i2 R2 (pG i M2 hi p2) hlt, fun H' => Imm H1 H' ∧ ∃ M', RelM X.K M' H' ∧ Pv (i + 1) M', fun H' ⟨a, b⟩ => ⟨its.length - (i + 1), by omega, rfl, hlt, a, b⟩, fun xv H3 y => ?_⟩
      have hd : its[i]? = some its[i] := List.getElem?_eq_getElem hlt
      obtain ⟨i3, R3, t3⟩ := wk.yields i H2 M2 xv H3 _ i2 R2 (pG i M2 hi p2) hd y
      show L2.wipe ((L2.wipe σv ([(x, j)].map (·.2))).set j (some xv)) ([(x, j)].map (·.2)) = L2.wipe σv ([(x, j)].map (·.2)) ∧ _
      refine ⟨by simp [L2.wipe, List.set_set], ?_⟩
      intro s0 H0 C cl fp
      have S3 : Slots X.K H3 ((L2.wipe σv ([(x, j)].map (·.2))).set j (some xv)) (σ.set j (some its[i])) := by
        have e : (L2.wipe σv ([(x, j)].map (·.2))).set j (some xv) = σv.set j (some xv) := by simp [L2.wipe, List.set_set]
        rw [e]
        exact (S.mono ((i1.trans i2).trans i3)).set t3 j
      refine (ps i _ M2 hd p2 s0 H0 C cl fp).go S3 R3 fun b H5 M5 i5 R5 q5 => ?_
      cases b with
      | true =>
        rw [if_pos rfl]
        intro s0 H0 C cl fp
        refine (q5.1 rfl s0 H0 C cl fp).go (H0 := H5) (S3.mono i5) R5 fun yv H4 yd M4 i4 R4 t4 ⟨acc, ea, hz, p4⟩ => ?_
        obtain ⟨_, eh, us, rfl, ha⟩ := R4 q _ ea
        have im4 : Imm H4 (upd H4 q (.lst (us ++ [yv]))) := Imm.set eh (fun z => z)
        refine ⟨us, eh, by rw [ha.length]; exact hz, (((i2.trans i3).trans i5).trans i4).trans im4, _, R4.set (m := .lst (acc ++ [yd])) eh (fun z => z) ⟨_, rfl, (Tps.mono im4 _ _ ha).append (.cons (Tp.mono im4 _ _ t4) .nil)⟩, SetM.at p4⟩
      | false =>
        rw [if_neg Bool.false_ne_true]
        exact ⟨(i2.trans i3).trans i5, M5, R5, q5.2 rfl⟩
    · have e : i = its.length := by omega
      subst e
      exact .inl ⟨wk.stops H2 M2 i2 R2 (pG _ M2 hi p2), to _ _ _ _ (i1.trans i2) R2 (.ref q) (pe M2 p2)⟩
theorem e_lcIf {c : Expr} (j : Nat) (hN : X.N.Nodup) (ok : BlkOk X.N X.env.scope scope [(x, j)])
    (h : IS X (.Name x p) iter σ M fun its G M1 => ∀ q, M1 q = none → ∃ Pv : Nat → Mp → Prop, (∀ M', M' q = some (.lst []) → Mle M1 M' → Pv 0 M') ∧ (∀ i M', i ≤ its.length → Pv i M' → G M') ∧
      (∀ i d M', its[i]? = some d → Pv i M' → ∀ (s : Shared) (H0 : Hp) (C : Addr) (cl : List (Str × Addr)) (fp : List Addr),
        TT3 (X.blk s H0 scope (compEnvC scope cl C X.env) fp) c (σ.set j (some d)) M' fun k M1 => BQ k
          (∀ (s : Shared) (H0 : Hp) (C : Addr) (cl : List (Str × Addr)) (fp : List Addr), ES (X.blk s H0 scope (compEnvC scope cl C X.env) fp) elt (σ.set j (some d)) M1 fun y M2 => ∃ acc, M2 q = some (.lst acc) ∧ acc.length < sizeLine ∧ SetM M2 q (.lst (acc ++ [y])) (Pv (i + 1)))
          (Pv (i + 1) M1)) ∧
      ∀ M', Pv its.length M' → Q (.ref q) M')
    (hj : X.N[j]? = some x := by rfl) (hc : X.calm = true := by rfl) (hl : ∀ cl C, Loc (compEnvC scope cl C X.env).scope x := by exact fun _ _ => Or.inl rfl)
    (hf : ∀ (s : Shared) (H0 : Hp) (C : Addr) (cl : List (Str × Addr)) (fp : List Addr), (X.blk s H0 scope (compEnvC scope cl C X.env) fp).fn x = true ∨ (compEnvC scope cl C X.env).scope.names.lookup x = some .local := by exact fun _ _ _ _ _ => Or.inr rfl)
    (hs : ∀ x, foldedSetIterable iter X.env x = pure x := by intro _; rfl) : ES X (.ListComp elt [⟨.Name x p, iter, [c], 0⟩] scope pos) σ M Q :=
  ES.of (pe_lc (own := [(x, j)]) (g := gName j) (tt := tTB X scope c) (te := tEB X scope elt) hc hN pi_sem ok (fun s H0 C cl fp => pg_name (i := j) hN hj (hl cl C) (hf s H0 C cl fp))
      (fun s H0 C cl fp => pts_one ⟨fun pins s1 σ H Q I hw => hw s H0 C cl fp pins s1 I⟩)
      (fun s H0 C cl fp => ⟨fun pins s1 σ H Q I hw => hw s H0 C cl fp pins s1 I⟩) hs) fun σv H S R => lcIf_read j h σv H S R _ To.dq
theorem s_lcIf {c : Expr} (i j : Nat) {y : Str} {py spos : Pos} {E : DE} (hN : X.N.Nodup) (ok : BlkOk X.N X.env.scope scope [(x, j)])
    (h : IS X (.Name x p) iter σ M fun its G M1 => ∀ q, M1 q = none → ∃ Pv : Nat → Mp → Prop, (∀ M', M' q = some (.lst []) → Mle M1 M' → Pv 0 M') ∧ (∀ i M', i ≤ its.length → Pv i M' → G M') ∧
      (∀ i d M', its[i]? = some d → Pv i M' → ∀ (s : Shared) (H0 : Hp) (C : Addr) (cl : List (Str × Addr)) (fp : List Addr),
        TT3 (X.blk s H0 scope (compEnvC scope cl C X.env) fp) c (σ.set j (some d)) M' fun k M1 => BQ k
          (∀ (s : Shared) (H0 : Hp) (C : Addr) (cl : List (Str × Addr)) (fp : List Addr), ES (X.blk s H0 scope (compEnvC scope cl C X.env) fp) elt (σ.set j (some d)) M1 fun y M2 => ∃ acc, M2 q = some (.lst acc) ∧ acc.length < sizeLine ∧ SetM M2 q (.lst (acc ++ [y])) (Pv (i + 1)))
          (Pv (i + 1) M1)) ∧
      ∀ M', Pv its.length M' → E.nx (σ.set i (some (.ref q))) M')
    (hy : X.N[i]? = some y := by rfl) (hyl : X.env.scope.names.lookup y = some .local := by rfl) (hsw : swapsWith (.ListComp elt [⟨.Name x p, iter, [c], 0⟩] scope pos) (some (.Name y py)) spos.line X.env = pure true := by exact sw_true rfl rfl rfl (by decide +kernel))
    (hj : X.N[j]? = some x := by rfl) (hc : X.calm = true := by rfl) (hl : ∀ cl C, Loc (compEnvC scope cl C X.env).scope x := by exact fun _ _ => Or.inl rfl)
    (hf : ∀ (s : Shared) (H0 : Hp) (C : Addr) (cl : List (Str × Addr)) (fp : List Addr), (X.blk s H0 scope (compEnvC scope cl C X.env) fp).fn x = true ∨ (compEnvC scope cl C X.env).scope.names.lookup x = some .local := by exact fun _ _ _ _ _ => Or.inr rfl)
    (hs : ∀ x, foldedSetIterable iter X.env x = pure x := by intro _; rfl) : SS X (.Assign [.Name y py] (.ListComp elt [⟨.Name x p, iter, [c], 0⟩] scope pos) spos) σ M E :=
  SS.of (ps_setLc (own := [(x, j)]) (g := gName j) (tt := tTB X scope c) (te := tEB X scope elt) hc hN hy hyl hsw pi_sem ok (fun s H0 C cl fp => pg_name (i := j) hN hj (hl cl C) (hf s H0 C cl fp))
      (fun s H0 C cl fp => pts_one ⟨fun pins s1 σ H Q I hw => hw s H0 C cl fp pins s1 I⟩)
      (fun s H0 C cl fp => ⟨fun pins s1 σ H Q I hw => hw s H0 C cl fp pins s1 I⟩) hs) fun σv H S R =>
    lcIf_read (Q := fun d M' => E.nx (σ.set i (some d)) M') j h σv H S R _ fun v H' d M' i' R' t' q' => ⟨i', _, M', (S.mono i').set t' i, R', q'⟩
end
/-! ### a def's body -/
/-- less may be told at the end -/
def Wk (Q : QD) : QD := fun d M' => ∃ M, Mle M M' ∧ Q d M
theorem Wk.here {Q : QD} {d : D} {M : Mp} (q : Q d M) : Wk Q d M := ⟨M, Mle.refl M, q⟩
theorem fn3 {P : Program} {w : World} {K : PySem.W.Frag} {mg : Str → Option Value} {base : Heap} {N ps : List Str} {x qual : Str} {st : Stmt} {f : Addr} {fd : FuncData} {k : Nat} {sp3 : Sp3}
    (F : Fun K x qual st f fd) (S : FnScope N ps (defScope st)) (len : ∀ ds M Q, sp3 ds M Q → ds.length = ps.length)
    (body : ∀ (cdv : Value) (A : Around) (outer : List Env) (s : Shared) (H : Hp) (E : XK), Room k (A.deeper (envOfC qual (defScope st) s.heap.objs.size f cdv)) → ∀ ds M Q, sp3 ds M Q →
      SSs (cxOf CX0 P w K mg base N qual (defScope st) f cdv A outer s H E).nox (defBody st) (startD N ds) M { nx := fun _ M' => Wk Q .non M', rt := Wk Q }) : FnOk P w K mg base CX0 (k + 1) f fd ps (spD K sp3) := by
  refine F.ok S (fun vs H Q E ⟨ds, M, Q3, t, r, q, to⟩ => ?_) (fun cdv A outer s H vs Q E hr ⟨ds, M, Q3, t, r, q, to⟩ => ?_)
  · rw [t.length]
    exact len ds M Q3 q
  · refine ⟨_, pss_sem, tSs.mono ((body cdv A outer s H E hr ds M Q3 q).run (start N vs) H (Slots.start t) r) ⟨fun σ' H' h => ?_, fun v H' h => ?_, fun _ _ h => ?_, fun _ _ h => ?_⟩⟩
    · obtain ⟨i, σ'', M', S', R', M1, l, q'⟩ := h
      exact to _ _ _ _ i (R'.le l) .non q'
    · obtain ⟨i, d, M', R', t', M1, l, q'⟩ := h
      exact to _ _ _ _ i (R'.le l) t' q'
    · obtain ⟨i, σ'', M', S', R', z⟩ := h
      exact z
    · obtain ⟨i, σ'', M', S', R', z⟩ := h
      exact z
theorem callee {P : Program} {w : World} {K : PySem.W.Frag} {mg : Str → Option Value} {base : Heap} {N ps : List Str} {x qual : Str} {st : Stmt} {f : Addr} {fd : FuncData} {k : Nat} {sp3 : Sp3}
    (F : Fun K x qual st f fd) (S : FnScope N ps (defScope st)) (hm : mg x = some (.ref f)) (hb : Binds K fd ps []) (len : ∀ ds M Q, sp3 ds M Q → ds.length = ps.length)
    (body : ∀ (cdv : Value) (A : Around) (outer : List Env) (s : Shared) (H : Hp) (E : XK), Room k (A.deeper (envOfC qual (defScope st) s.heap.objs.size f cdv)) → ∀ ds M Q, sp3 ds M Q →
      SSs (cxOf CX0 P w K mg base N qual (defScope st) f cdv A outer s H E).nox (defBody st) (startD N ds) M { nx := fun _ M' => Wk Q .non M', rt := Wk Q }) : Callee P w K mg base x (k + 1) ps sp3 := ⟨f, fd, fn3 F S len body, hm, F.kp, hb⟩
/-- the joining of ways behind a statement -/
theorem ss_cut {X : Cx} {st : Stmt} {sts : List Stmt} {σ : Sd} {M : Mp} {E : DE} (P : Sd → Mp → Prop) (h : SS X st σ M { E with nx := P }) (k : ∀ σ1 M1, P σ1 M1 → SSs X sts σ1 M1 E) : SSs X (st :: sts) σ M E :=
  SSs.of (pss_cons ps_sem pss_sem) fun σv H S R => (h.run σv H S R).mono
    ⟨fun σ1 H1 ⟨i1, σ', M1, S1, R1, q1⟩ => ((k σ' M1 q1).run σ1 H1 S1 R1).mono (DE.from i1), fun _ _ q => q, fun _ _ q => q, fun _ _ q => q⟩
/-- if t: .. (no else), then the rest -/
theorem ss_if {X : Cx} {c : Expr} {body sts : List Stmt} {pos : Pos} {σ : Sd} {M : Mp} {E : DE} (h : TT3 X c σ M fun k M1 => BQ k (SSs X body σ M1 { E with nx := fun σ1 M2 => SSs X sts σ1 M2 E }) (SSs X sts σ M1 E)) : SSs X (.If c body [] pos :: sts) σ M E :=
  ss_cons (s_if (⟨fun σv H S R => (h.run σv H S R).mono fun k H1 ⟨i, M1, R1, q1, q2⟩ => ⟨i, M1, R1, q1, fun e => ss_nil (q2 e)⟩⟩))
/-- a test that does not hold: the rest -/
theorem ss_no {X : Cx} {c : Expr} {body sts : List Stmt} {pos : Pos} {σ : Sd} {M : Mp} {E : DE} (h : TT3 X c σ M fun k M1 => k = false ∧ M1 = M) (r : SSs X sts σ M E) : SSs X (.If c body [] pos :: sts) σ M E :=
  ss_if ⟨fun σv H S R => (h.run σv H S R).mono fun k H1 ⟨i, M1, R1, q1, q2⟩ => ⟨i, M1, R1, by subst q1; subst q2; exact BQ.f r⟩⟩
theorem ES.det {X : Cx} {e : Expr} {σ : Sd} {M : Mp} {Q : QD} {d : D} (h : ES X e σ M fun d' M' => d' = d ∧ M' = M) (q : Q d M) : ES X e σ M Q := h.imp fun d' M' ⟨e1, e2⟩ => by rw [e1, e2]; exact q
/-- two plain answers -/
theorem v_orP {X : Cx} {a b : Expr} {rest : List Expr} {σ : Sd} {M : Mp} {Q : QD} {pos : Pos} {x y : Bool} (h : ES X a σ M fun d M1 => d = .bl x ∧ M1 = M) (h2 : ES X (.BoolOp .Or (b :: rest) pos) σ M fun d M1 => d = .bl y ∧ M1 = M) (q : Q (.bl (x || y)) M) : ES X (.BoolOp .Or (a :: b :: rest) pos) σ M Q :=
  v_or (h.imp fun d M1 ⟨e1, e2⟩ => by
    subst e1; subst e2
    refine ⟨fun hx => ?_, fun hx => ?_⟩
    · subst hx; exact q
    · subst hx; exact h2.det q)
theorem v_andP {X : Cx} {a b : Expr} {rest : List Expr} {σ : Sd} {M : Mp} {Q : QD} {pos : Pos} {x y : Bool} (h : ES X a σ M fun d M1 => d = .bl x ∧ M1 = M) (h2 : x = true → ES X (.BoolOp .And (b :: rest) pos) σ M fun d M1 => d = .bl y ∧ M1 = M) (q : Q (.bl (x && y)) M) : ES X (.BoolOp .And (a :: b :: rest) pos) σ M Q :=
  v_and (h.imp fun d M1 ⟨e1, e2⟩ => by
    subst e1; subst e2
    refine ⟨fun hx => ?_, fun hx => ?_⟩
    · subst hx; exact (h2 rfl).det q
    · subst hx; exact q)
/-! ### methods of lists -/
abbrev RM3 := D → List D → Mp → QD → Prop
def RDM (K : PySem.W.Frag) (r : V → List V → Hp → VK → Prop) (R : RM3) : Prop := ∀ H0 H M vx vs x ds Q Q', Imm H0 H → RelM K M H → Tp K H vx x → Tps K H vs ds → To K H0 Q Q' → R x ds M Q → r vx vs H Q'
def isLst (x : D) (M : Mp) : Prop := match x with
  | .ref a => ∃ xs, M a = some (.lst xs)
  | _ => False
def RApp : RM3 := fun x ds M Q => match x, ds with
  | .ref a, [d] => ∃ xs, M a = some (.lst xs) ∧ xs.length < sizeLine ∧ SetM M a (.lst (xs ++ [d])) (Q .non)
  | _, _ => False
def RPop : RM3 := fun x ds M Q => match x, ds with
  | .ref a, [] => ∃ xs d, M a = some (.lst xs) ∧ xs[xs.length - 1]? = some d ∧ SetM M a (.lst xs.dropLast) (Q d)
  | _, _ => False
def RExt : RM3 := fun x ds M Q => match x, ds with
  | .ref a, [.ref b] => ∃ xs ys, M a = some (.lst xs) ∧ M b = some (.lst ys) ∧ xs.length + ys.length ≤ sizeLine ∧ SetM M a (.lst (xs ++ ys)) (Q .non)
  | _, _ => False
section
variable {K : PySem.W.Frag}
theorem rd_app : RDM K rAppend RApp := by
  intro H0 H M vx vs x ds Q Q' i R tx t k q
  match x, ds, tx, t, q with
  | .ref a, [d], tx, t, q =>
    obtain ⟨xs, e, hz, q⟩ := q
    obtain ⟨_, ea, us, rfl, ha⟩ := R a _ e
    obtain ⟨v, rfl, r⟩ := t.one
    cases tx
    have im : Imm H (upd H a (.lst (us ++ [v]))) := Imm.set ea (fun z => z)
    exact ⟨a, us, v, rfl, rfl, ea, by rw [ha.length]; exact hz, k _ _ _ _ (i.trans im) (R.set (m := .lst (xs ++ [d])) ea (fun z => z) ⟨_, rfl, (Tps.mono im _ _ ha).append (.cons (Tp.mono im _ _ r) .nil)⟩) .non (SetM.at q)⟩
theorem rd_pop : RDM K rPop RPop := by
  intro H0 H M vx vs x ds Q Q' i R tx t k q
  match x, ds, tx, t, q with
  | .ref a, [], tx, t, q =>
    obtain ⟨xs, d, e, hd, q⟩ := q
    obtain ⟨_, ea, us, rfl, ha⟩ := R a _ e
    cases t
    cases tx
    obtain ⟨v, ev, tv⟩ := ha.get hd
    have im : Imm H (upd H a (.lst us.dropLast)) := Imm.set ea (fun z => z)
    exact ⟨a, us, v, rfl, rfl, ea, by rw [ha.length]; exact ev, k _ _ _ _ (i.trans im) (R.set (m := .lst xs.dropLast) ea (fun z => z) ⟨_, rfl, Tps.mono im _ _ ha.dropLast⟩) (Tp.mono im _ _ tv) (SetM.at q)⟩
theorem rd_ext : RDM K rExtend RExt := by
  intro H0 H M vx vs x ds Q Q' i R tx t k q
  match x, ds, tx, t, q with
  | .ref a, [.ref b], tx, t, q =>
    obtain ⟨xs, ys, e, e2, hz, q⟩ := q
    obtain ⟨_, ea, us, rfl, ha⟩ := R a _ e
    obtain ⟨_, eb, ws, rfl, hb⟩ := R b _ e2
    obtain ⟨v, rfl, r⟩ := t.one
    cases r
    cases tx
    have im : Imm H (upd H a (.lst (us ++ ws))) := Imm.set ea (fun z => z)
    exact ⟨a, b, us, ws, rfl, rfl, ea, eb, by rw [ha.length, hb.length]; exact hz, k _ _ _ _ (i.trans im) (R.set (m := .lst (xs ++ ys)) ea (fun z => z) ⟨_, rfl, (Tps.mono im _ _ ha).append (Tps.mono im _ _ hb)⟩) .non (SetM.at q)⟩
end
section
variable {X : Cx} {o e : Expr} {es : List Expr} {σ : Sd} {M : Mp} {Q : QD} {apos cpos : Pos} {id : String} {r : V → List V → Hp → VK → Prop} {R : RM3} {name : Str}
theorem ty_lst {K : PySem.W.Frag} {H : Hp} {v : V} {x : D} {M : Mp} (RM : RelM K M H) (t : Tp K H v x) (h : isLst x M) : tyV K "list" v H := by
  cases t <;> first | exact False.elim h | skip
  case ref a =>
    obtain ⟨xs, e⟩ := h
    obtain ⟨_, ea, us, rfl, ha⟩ := RM a _ e
    exact .inl ⟨rfl, us, SqL.of ea⟩
theorem e_lm (slot : Slot "list" name id) (hty : typeOf (.builtin id) = pure (.type "method_descriptor")) (hm : MtR X id r) (hR : RDM X.K r R) (h : ES X o σ M fun x M1 => isLst x M1 ∧ AS X (e :: es) σ M1 fun ds M2 => R x ds M2 Q)
    (hbase : attributeBase o name X.env (eval o X.env) = eval o X.env := by rfl)
    (hfew : ((backTo cpos (starEach (e :: es) X.env)).all (fun x => !x.1) && (backToKw cpos (keywordEach [] X.env)).all (fun x => x.1.isSome)
      && decide ((e :: es).length + ([] : List Keyword).length + (if ([] : List Keyword).isEmpty then 0 else 1) < 30)) = true := by rfl)
    (hline : (apos.endLine == cpos.line) = true := by rfl) (hs : starEach (e :: es) X.env = (false, eval e X.env) :: starEach es X.env := by rfl) (hplain : (backTo cpos (starEach es X.env)).any (·.1) = false := by rfl) :
    ES X (.Call (.Attribute o name apos) (e :: es) [] cpos) σ M Q :=
  ES.of (pe_bm PySem.F.plainAttrs_list slot hty hm pe_sem pa_sem hbase hfew hline hs hplain) fun σv H S RM => h.go (H0 := H) S RM fun v H1 x M1 i1 R1 t1 ⟨hx, q1⟩ =>
    ⟨ty_lst R1 t1 hx, q1.go (S.mono i1) R1 fun vs H2 ds M2 i2 R2 t2 q2 => hR H H2 M2 v vs x ds Q _ (i1.trans i2) R2 (Tp.mono i2 _ _ t1) t2 To.dq q2⟩
theorem e_lm0 (slot : Slot "list" name id) (hty : typeOf (.builtin id) = pure (.type "method_descriptor")) (hm : MtR X id r) (hR : RDM X.K r R) (h : ES X o σ M fun x M1 => isLst x M1 ∧ R x [] M1 Q)
    (hbase : attributeBase o name X.env (eval o X.env) = eval o X.env := by rfl) (hline : (apos.endLine == cpos.line) = true := by rfl) : ES X (.Call (.Attribute o name apos) [] [] cpos) σ M Q :=
  ES.of (pe_bm0 PySem.F.plainAttrs_list slot hty hm pe_sem hbase hline) fun σv H S RM => h.go (H0 := H) S RM fun v H1 x M1 i1 R1 t1 ⟨hx, q1⟩ =>
    ⟨ty_lst R1 t1 hx, hR H H1 M1 v [] x [] Q _ i1 R1 t1 .nil To.dq q1⟩
end
end DL
set_option maxHeartbeats 1000000
namespace DL
open PySem L2
/-! ### equality, reckoned -/
theorem eqv_int (i j : Int) : D.eqv (.int i) (.int j) = decide (i = j) := by simp [D.eqv, D.py, PyData.eqv, Bool.beq_eq_decide_eq]
theorem eqv_str (i j : Str) : D.eqv (.str i) (.str j) = decide (i = j) := by simp [D.eqv, D.py, PyData.eqv, Bool.beq_eq_decide_eq]
theorem eqv_bl (i j : Bool) : D.eqv (.bl i) (.bl j) = decide (i = j) := by simp [D.eqv, D.py, PyData.eqv, Bool.beq_eq_decide_eq]
theorem eqv_is (i : Int) (x : Str) : D.eqv (.int i) (.str x) = false := by simp [D.eqv, D.py, PyData.eqv]
theorem eqv_si (i : Int) (x : Str) : D.eqv (.str x) (.int i) = false := by simp [D.eqv, D.py, PyData.eqv]
theorem eqv_nn : D.eqv .non .non = true := by simp [D.eqv, D.py, PyData.eqv]
theorem eqv_tup (a b : List D) : D.eqv (.tup a) (.tup b) = PyData.eqvAll (D.pys a) (D.pys b) := by simp [D.eqv, D.py, PyData.eqv]
theorem eqv_t0 : D.eqv (.tup []) (.tup []) = true := by simp [eqv_tup, D.pys, PyData.eqvAll]
theorem eqv_tc (a : D) (as : List D) (b : D) (bs : List D) : D.eqv (.tup (a :: as)) (.tup (b :: bs)) = (D.eqv a b && D.eqv (.tup as) (.tup bs)) := by
  rw [eqv_tup, eqv_tup]
  simp [D.pys, PyData.eqvAll, D.eqv]
theorem eqv_tc0 (a : D) (as : List D) : D.eqv (.tup (a :: as)) (.tup []) = false := by simp [eqv_tup, D.pys, PyData.eqvAll]
theorem eqv_t0c (a : D) (as : List D) : D.eqv (.tup []) (.tup (a :: as)) = false := by simp [eqv_tup, D.pys, PyData.eqvAll]
theorem eqv_ts (a : List D) (x : Str) : D.eqv (.tup a) (.str x) = false := by simp [D.eqv, D.py, PyData.eqv]
theorem eqv_st (a : List D) (x : Str) : D.eqv (.str x) (.tup a) = false := by simp [D.eqv, D.py, PyData.eqv]
theorem eqv_nt (a : List D) : D.eqv .non (.tup a) = false := by simp [D.eqv, D.py, PyData.eqv]
theorem eqv_tn (a : List D) : D.eqv (.tup a) .non = false := by simp [D.eqv, D.py, PyData.eqv]
/-- two rows of things of one sort -/
theorem eqv_map {α : Type} [DecidableEq α] {f : α → D} (h : ∀ a b, D.eqv (f a) (f b) = decide (a = b)) : ∀ as bs : List α, D.eqv (.tup (as.map f)) (.tup (bs.map f)) = decide (as = bs)
  | [], [] => by rw [List.map_nil, eqv_t0]; simp
  | a :: as, [] => by rw [List.map_cons, List.map_nil, eqv_tc0]; simp
  | [], b :: bs => by rw [List.map_cons, List.map_nil, eqv_t0c]; simp
  | a :: as, b :: bs => by
    rw [List.map_cons, List.map_cons, eqv_tc, h, eqv_map h as bs, Bool.eq_iff_iff]
    simp
/-! ### comparable by content -/
def D.shn (n : Nat) (d : D) : Bool := d.pure && d.py.canLay0 && decide (d.py.depth ≤ n)
theorem D.shp_of {d : D} {n : Nat} (h : d.shn n = true) (hn : n ≤ 64) : d.shp = true := by
  unfold D.shn at h
  unfold D.shp SeqAt.shaped
  simp only [Bool.and_eq_true, decide_eq_true_eq] at h ⊢
  exact ⟨h.1.1, h.1.2, by omega⟩
theorem D.shn_mono {d : D} {n m : Nat} (h : d.shn n = true) (hn : n ≤ m) : d.shn m = true := by
  unfold D.shn at h ⊢
  simp only [Bool.and_eq_true, decide_eq_true_eq] at h ⊢
  exact ⟨h.1, by omega⟩
theorem shn_int (n : Nat) (i : Int) : (D.int i).shn n = true := by simp [D.shn, D.pure, D.py, PyData.canLay0, PyData.depth]
theorem shn_bl (n : Nat) (i : Bool) : (D.bl i).shn n = true := by simp [D.shn, D.pure, D.py, PyData.canLay0, PyData.depth]
theorem shn_non (n : Nat) : D.non.shn n = true := by simp [D.shn, D.pure, D.py, PyData.canLay0, PyData.depth]
theorem shn_str {n : Nat} {x : Str} (h : PyData.strOk x = true) : (D.str x).shn n = true := by simp [D.shn, D.pure, D.py, PyData.canLay0, PyData.depth, h]
theorem shn_tup {n : Nat} : ∀ {l : List D}, (∀ d ∈ l, d.shn n = true) → (D.tup l).shn (n + 1) = true := by
  have key : ∀ l : List D, (∀ d ∈ l, d.shn n = true) → D.pures l = true ∧ PyData.canLayAll0 (D.pys l) = true ∧ PyData.depthAll (D.pys l) ≤ n := by
    intro l
    induction l with
    | nil => intro _; simp [D.pures, D.pys, PyData.canLayAll0, PyData.depthAll]
    | cons d r ih =>
      intro h
      obtain ⟨h1, h2, h3⟩ := ih fun e he => h e (List.mem_cons_of_mem _ he)
      have hd := h d List.mem_cons_self
      unfold D.shn at hd
      simp only [Bool.and_eq_true, decide_eq_true_eq] at hd
      simp only [D.pures, D.pys, PyData.canLayAll0, PyData.depthAll, Bool.and_eq_true]
      exact ⟨⟨hd.1.1, h1⟩, ⟨hd.1.2, h2⟩, by omega⟩
  intro l h
  obtain ⟨h1, h2, h3⟩ := key l h
  simp only [D.shn, D.pure, D.py, PyData.canLay0, PyData.depth, Bool.and_eq_true, decide_eq_true_eq]
  exact ⟨⟨h1, h2⟩, by omega⟩
theorem shp_tup {l : List D} {n : Nat} (h : ∀ d ∈ l, d.shn n = true) (hn : n ≤ 63) : (D.tup l).shp = true := D.shp_of (shn_tup h) (by omega)
/-! ### texts -/
/-- a text of at most n signs, each a sign -/
def Sok (n : Nat) (x : Str) : Prop := x.length ≤ n ∧ PyData.strOk x = true
theorem Sok.mono {n m : Nat} {x : Str} (h : Sok n x) (l : n ≤ m) : Sok m x := ⟨Nat.le_trans h.1 l, h.2⟩
theorem str_len_app (x y : Str) : (x ++ y).length = x.length + y.length := by
  show (x.cps ++ y.cps).size = x.cps.size + y.cps.size
  rw [Array.size_append]
theorem strOk_app {x y : Str} (hx : PyData.strOk x = true) (hy : PyData.strOk y = true) : PyData.strOk (x ++ y) = true := by
  unfold PyData.strOk at hx hy ⊢
  show (x.cps ++ y.cps).all _ = true
  rw [Array.all_append, hx, hy]
  rfl
theorem Sok.app {n m : Nat} {x y : Str} (hx : Sok n x) (hy : Sok m y) : Sok (n + m) (x ++ y) := ⟨by rw [str_len_app]; exact Nat.add_le_add hx.1 hy.1, strOk_app hx.2 hy.2⟩
theorem strOk_sign {z : Str} {i : Int} {c : Nat} (hz : PyData.strOk z = true) (h : atI z.cps.toList i = some c) : Sok 1 ⟨#[c]⟩ := by
  refine ⟨Nat.le_refl 1, ?_⟩
  have hm : c ∈ z.cps.toList := by
    unfold atI at h
    cases e : ixN z.cps.toList.length i with
    | none => rw [e] at h; cases h
    | some j =>
      rw [e] at h
      exact List.mem_of_getElem? h
  unfold PyData.strOk at hz ⊢
  rw [Array.all_eq_true'] at hz
  have := hz c (by simpa using hm)
  simpa using this
/-! ### places in a row -/
theorem atI_lt {α : Type} {xs : List α} {i : Int} (h0 : 0 ≤ i) (h : i < xs.length) : ∃ v, atI xs i = some v ∧ v ∈ xs := by
  obtain ⟨j, rfl⟩ : ∃ j : Nat, i = (j : Int) := ⟨i.toNat, by omega⟩
  have hj : j < xs.length := by omega
  exact ⟨xs[j], atI_nat (List.getElem?_eq_getElem hj), List.getElem_mem hj⟩
theorem atI_hd {α : Type} {x : α} {xs : List α} : atI (x :: xs) 0 = some x := atI_nat (j := 0) rfl
theorem atI_hd1 {α : Type} {x y : α} {xs : List α} : atI (x :: y :: xs) 1 = some y := atI_nat (j := 1) rfl
/-- a test: what is known behind it, then the ways -/
theorem t_post {X : Cx} {e : Expr} {σ : Sd} {M : Mp} {Q : Bool → Mp → Prop} (P : Bool → Mp → Prop) (h : TT3 X e σ M P) (k : ∀ b M1, P b M1 → Q b M1) : TT3 X e σ M Q :=
  ⟨fun σv H S R => (h.run σv H S R).mono fun b H1 ⟨i, M1, R1, q⟩ => ⟨i, M1, R1, k b M1 q⟩⟩
theorem atI_mem {α : Type} {xs : List α} {i : Int} {v : α} (h : atI xs i = some v) : v ∈ xs := by
  unfold atI at h
  cases e : ixN xs.length i with
  | none => rw [e] at h; cases h
  | some j =>
    rw [e] at h
    exact List.mem_of_getElem? h
theorem one_ofM {xs : List Str} {n : Int} (h0 : 0 ≤ n) (h1 : n < (xs.length : Int)) : ∃ x, atI (xs.map D.str) n = some (.str x) ∧ x ∈ xs := by
  obtain ⟨j, rfl⟩ : ∃ j : Nat, n = (j : Int) := ⟨n.toNat, by omega⟩
  have hj : j < xs.length := by omega
  exact ⟨xs[j], atI_nat (by rw [List.getElem?_map, List.getElem?_eq_getElem hj]; rfl), List.getElem_mem hj⟩
theorem atI_mapP {α β : Type} {f : α → β} {xs : List α} {i : Int} {v : β} (h : atI (xs.map f) i = some v) : ∃ a, atI xs i = some a ∧ v = f a := by
  unfold atI at h ⊢
  rw [List.length_map] at h
  cases e : ixN xs.length i with
  | none => rw [e] at h; cases h
  | some j =>
    rw [e] at h
    have h' : (xs.map f)[j]? = some v := h
    rw [List.getElem?_map] at h'
    cases q : xs[j]? with
    | none => rw [q] at h'; cases h'
    | some a =>
      rw [q] at h'
      cases h'
      exact ⟨a, q, rfl⟩
theorem atI_map_nat {α β : Type} {f : α → β} {xs : List α} {j : Nat} {a : α} (h : xs[j]? = some a) : atI (xs.map f) (j : Int) = some (f a) := atI_nat (by rw [List.getElem?_map, h]; rfl)
theorem cutD_take {α : Type} {f : α → D} (xs : List α) (k : Nat) : cutD (xs.map f) none (some (k : Int)) = (xs.take k).map f := by
  unfold cutD
  rw [HT.sIx_none, HT.sIx_nat, List.drop_zero, Nat.sub_zero, List.map_take, List.length_map]
  by_cases h : k ≤ xs.length
  · rw [Nat.min_eq_left h]
  · rw [Nat.min_eq_right (by omega), List.take_of_length_le (by rw [List.length_map]; omega), List.take_of_length_le (by rw [List.length_map]; omega)]
theorem cutD_drop {α : Type} {f : α → D} (xs : List α) (k : Nat) : cutD (xs.map f) (some (k : Int)) none = (xs.drop k).map f := by
  unfold cutD
  rw [HT.sIx_none, HT.sIx_nat, List.length_map]
  by_cases h : k ≤ xs.length
  · rw [Nat.min_eq_left h, List.take_of_length_le (by rw [List.length_drop, List.length_map]; omega), List.map_drop]
  · rw [Nat.min_eq_right (by omega), List.drop_eq_nil_of_le (by rw [List.length_map]; omega), List.drop_eq_nil_of_le (by omega), List.take_nil]
    rfl
theorem rgD_length (lo : Int) (n : Nat) : (rgD lo n).length = n := by unfold rgD; rw [List.length_map, List.length_range]
theorem rgD_get {lo : Int} {n i : Nat} {d : D} (h : (rgD lo n)[i]? = some d) : i < n ∧ d = .int (lo + (i : Nat)) := by
  unfold rgD at h
  rw [List.getElem?_map] at h
  by_cases hi : i < n
  · rw [List.getElem?_range hi] at h
    cases h
    exact ⟨hi, rfl⟩
  · rw [List.getElem?_eq_none (by rw [List.length_range]; omega)] at h
    cases h
theorem sz {n : Nat} (h : n ≤ 100000) : n ≤ sizeLine := Nat.le_trans h (by decide)
theorem szlt {n : Nat} (h : n < 100000) : n < sizeLine := Nat.lt_of_lt_of_le h (by decide)
theorem len_of (xs : List D) : (xs.length : Int) = ((xs.length : Nat) : Int) := rfl
theorem law_sp {K : PySem.W.Frag} {H : Hp} {a : Addr} {ns : List Int} {sp3 : Sp3} {n : Nat} (hl : ns.length ≤ n) (hO : Only H) (hS : SqL K H a (ns.map V.int))
    (h : ∀ (M : Mp) (Q : QD), (∀ M', Q (.bl true) M') → sp3 [.rol (ns.map D.int)] M Q) : spD K sp3 [.ref a] H (fun v _ => v = .bl true) fun _ _ _ => False := by
  refine ⟨[.rol (ns.map D.int)], fun _ => none, fun d _ => d = .bl true, .cons (.rol ?_ (Tps.ints ns)) .nil, (fun a m e => by cases e), h (fun _ => none) (fun d _ => d = .bl true) (fun _ => rfl), fun v H' d M' _ _ t q => ?_⟩
  · rcases hS with (h | ⟨o, h⟩) | h
    · rcases hO a with z | ⟨o, xs, z⟩
      · rw [z] at h; cases h
      · rw [z] at h; cases h
    · exact .inl ⟨o, h⟩
    · exact .inr h
  · subst q
    cases t
    rfl
end DL
set_option maxHeartbeats 1000000
namespace DL
open PySem L2 PySem.Spec PyProof.Rows
section
variable {K : PySem.W.Frag}
def RMax : RA3 := fun ds M Q => match ds with
  | [.ref a] => ∃ ns : List Int, M a = some (.lst (ns.map D.int)) ∧ 0 < ns.length ∧ ∀ m, m ∈ ns → (∀ y, y ∈ ns → y ≤ m) → Q (.int m) M
  | _ => False
theorem rd_max : RDA K (rMax K) RMax := by
  intro H0 H M vs ds Q Q' i R t k q
  match ds, t, q with
  | [.ref a], t, q =>
    obtain ⟨v, rfl, r⟩ := t.one
    obtain ⟨ns, e, hl, q⟩ := q
    obtain ⟨_, ea, us, rfl, ha⟩ := R a _ e
    cases r
    obtain rfl := tps_ints ha
    exact ⟨a, ns, rfl, SqL.of ea, hl, fun m hm hy => k _ _ _ _ i R (.int _) (q m hm hy)⟩
end
section
variable {X : Cx} {e a b c : Expr} {es rest : List Expr} {σ : Sd} {M : Mp} {Q : QD} {pos p p2 : Pos}
theorem e_max (hm : X.mg "max" = none) (h : AS X [e] σ M fun ds M1 => RMax ds M1 Q) (hc : X.calm = true := by rfl) (hg : Gl X "max" := by rfl) (he : starEach [e] X.env = (false, eval e X.env) :: starEach [] X.env := by rfl) : ES X (.Call (.Name "max" p) [e] [] pos) σ M Q := e_cb (cr_max hc) rd_max hm (by decide +kernel) h hg (by decide) (by decide) he rfl
end
/-! a module's tuple of texts -/
def ConT (K : PySem.W.Frag) (mg : Str → Option Value) (x : Str) (d : D) : Prop := ∃ a : Addr, mg x = some (.ref a) ∧ ∀ H, Tp K H (.ref a) d
theorem e_con {X : Cx} {σ : Sd} {M : Mp} {Q : QD} {pos : Pos} {x : Str} {d : D} (C : ConT X.K X.mg x d) (q : Q d M) (hg : Gl X x := by rfl) (hdb : (x == ("__debug__" : Str)) = false := by decide) : ES X (.Name x pos) σ M Q := by
  obtain ⟨a, hm, ht⟩ := C
  exact e_glob (v := .ref a) hm rfl ht q hg hdb
theorem conT2 {K : PySem.W.Frag} {mg : Str → Option Value} {x : Str} {a : Addr} {dd : Option Addr} {y1 y2 : Str} {u1 u2 : Nat} {n : Nat} {sl : Array (Option Value)} (hm : mg x = some (.ref a)) (hk : K.lookup a = some ⟨.type "tuple", dd, .seq #[.str y1 u1, .str y2 u2] n, sl⟩) :
    ConT K mg x (.tup [.str y1, .str y2]) :=
  ⟨a, hm, fun H => .tup (.inr ⟨_, _, _, hk, rfl, rfl, by show 2 ≤ sizeLine; decide, .cons (show RelV (.str y1) _ from ⟨_, rfl⟩) (.cons (show RelV (.str y2) _ from ⟨_, rfl⟩) .nil)⟩) (.cons (.str _) (.cons (.str _) .nil))⟩
end DL
set_option maxHeartbeats 1000000
namespace PySem
set_option maxHeartbeats 1000000 in
theorem meets_enumerate_new1B {v : Value} {o : Obj} {H : Heap → Prop} (B : Begins v o H) :
    Meets (Builtin.«enumerate.__new__» ⟨[.type "enumerate", v], []⟩) (fun _ R s => H s.heap ∧
      R (.ok (.ret (.ref (s.heap.push o).objs.size))) { s with heap := (s.heap.push o).push { cls := .type "enumerate", data := .fields #[.none, .bool false, .ref s.heap.objs.size, rawInt 0, .none, .none] } }) :=
  .of_wp fun prog w A R s h => by
    obtain ⟨hp, g, d, tk, os⟩ := s; obtain ⟨h1, h⟩ := h
    have hsub := sub_enumerate
    have q1 : ∀ {A' : Around} {E : Value → Shared → Prop} {Q : Value → Shared → Prop}, Q (.ref hp.objs.size) ⟨hp.push o, g, d, tk, os⟩ → wpAny (model prog w) A' (pyIter v) Q E ⟨hp, g, d, tk, os⟩ :=
      fun q => B.iter prog w _ _ ⟨hp, g, d, tk, os⟩ _ h1 q
    wp_walk using q1
    refine wpAny_stack_any fun st => wpAny_pure ?_
    split
    · rename_i c _ _ _ _ _
      cases (c == Value.type "enumerate")
      · wp_walk using q1
        exact ⟨_, rfl, h⟩
      · wp_walk using q1
        exact ⟨_, rfl, h⟩
    · wp_walk using q1
      exact ⟨_, rfl, h⟩
theorem enum_begins1 {prog : Program} {w : World} {A : Around} {E : Value → Shared → Prop} {s : Shared} {v : Value} {o : Obj} {H : Heap → Prop} {Q : Value → Shared → Prop} (B : Begins v o H) (h1 : H s.heap)
    (h : ∀ h', IsEnum h' (s.heap.objs.size + 1) s.heap.objs.size 0 .none → h'.get? s.heap.objs.size = some o → h'.objs.size = s.heap.objs.size + 2 →
      (∀ b o, s.heap.get? b = some o → h'.get? b = some o) → Q (.ref (s.heap.objs.size + 1)) { s with heap := h' }) :
    wpAny (model prog w) A (call (.type "enumerate") [v]) Q E s := by
  refine callType_new F.called_enumerate (by decide) (F.typeCall_enumerate_1 _) (F.newCall_enumerate_1 _) (fun obj => F.args_object_init_2 obj _) F.entry_enumerate_new
    (meets_enumerate_new1B B) ⟨h1, ?_⟩
  have hz : (s.heap.push o).objs.size = s.heap.objs.size + 1 := Heap.size_push ..
  show _ ∧ _
  rw [hz]
  have he : IsEnum ((s.heap.push o).push { cls := .type "enumerate", data := .fields #[.none, .bool false, .ref s.heap.objs.size, rawInt 0, .none, .none] }) (s.heap.objs.size + 1) s.heap.objs.size 0 .none := by
    have := Heap.get?_push_size (s.heap.push o) (o := { cls := .type "enumerate", data := .fields #[.none, .bool false, .ref s.heap.objs.size, rawInt 0, .none, .none] }) rfl
    rw [hz] at this; exact this
  refine ⟨⟨_, he, rfl⟩, h _ he (Heap.get?_push_of_some _ (Heap.get?_push_size _ B.free)) (by rw [Heap.size_push, hz]) fun b o x => Heap.get?_push_of_some _ (Heap.get?_push_of_some _ x)⟩
end PySem
namespace L2
open PySem PySem.Spec PyProof.Rows
/-- the tuple at a, each item in a new pair -/
def IteT (K : PySem.W.Frag) (a : Addr) : It :=
  ⟨fun i H => ∃ (xs : List V) (x : V), SqT K H a xs ∧ xs[i]? = some x, fun i H v H' => ∃ T x, v = .ref T ∧ H T = none ∧ H' = upd H T (.tup [.int (i : Nat), x]) ∧ ∀ xs, SqT K H a xs → xs[i]? = some x, fun i H => ∃ xs : List V, SqT K H a xs ∧ i = xs.length⟩
theorem turn_enumT {P : Program} {w : World} {K : PySem.W.Frag} {elts : List Expr} {kk : Nat} {tpos : Pos} (a e it : Addr) :
    Turn P w K (.Tuple elts kk tpos) (IteT K a) [e, it] e (fun i h => (∃ old, IsEnum h e it ((i : Nat) : Int) old) ∧ h.IsTupleIter it a i ∧ e ≠ it ∧ a ≠ it ∧ a ≠ e) where
  mem := by simp
  obj := fun i h st b hb => by
    obtain ⟨⟨old, he⟩, ⟨o, ho, hc, hd⟩, _⟩ := st
    have e' : b = e ∨ b = it := by simpa using hb
    rcases e' with z | z
    · rw [z]; exact ⟨_, he, fun v q => nomatch q⟩
    · rw [z]; exact ⟨o, ho, fun v q => by rw [hd] at q; cases q⟩
  keep := fun i h h' st k => let ⟨⟨old, he⟩, hi, hne⟩ := st; ⟨⟨old, k e (by simp) _ he⟩, hi.at fun o q => k it (by simp) o q, hne⟩
  item := by
    intro X hP hw hK hc i pins s σ H E I hf st hg
    subst hP hw hK
    obtain ⟨⟨old, he⟩, hit, hne, hna, hnae⟩ := st
    obtain ⟨xs, x, hq, hx⟩ := hg
    obtain ⟨its, rv, p, hz⟩ := I.tuple hq
    obtain ⟨u, hu, ru⟩ := rv.get hx
    have hel : e < s.heap.objs.size := Heap.lt_size he
    have hil : it < s.heap.objs.size := by obtain ⟨_, q, _⟩ := hit; exact Heap.lt_size q
    have pt : s.heap.IsTuple a its.toArray := p
    have hlt : i < its.toArray.size := by
      have := rv.length
      have h2 := (List.getElem?_eq_some_iff.mp hx).1
      simp
      omega
    refine wpAny_pyNext_enum_itemD (Draws.tuple (prog := X.prog) (w := X.w) (A := X.A.in1) (I.ok.hd hc) it a hna its.toArray) he ⟨hit, pt⟩ hlt hne (by simp [hne, Ne.symm hnae]) fun y h' tk hy ho st' hT hsz hk => ?_
    obtain rfl : y = u := by
      have : its.toArray[i]? = some u := by simpa using hu
      rw [this] at hy
      cases hy
      rfl
    refine ⟨_, rfl, wpAny_letOwnedTupleGo_enum (s := { s with heap := h', toks := tk + 1 }) ho fun h'' he' sb => ?_⟩
    have hT2 : h''.get? s.heap.objs.size = some { cls := .type "tuple", data := .seq #[.int i tk, y] } := (sb.2 _ (Nat.ne_of_gt hel)).trans hT
    have new : ObjOk X.prog X.w (upd H s.heap.objs.size (.tup [.int (i : Nat), x])) h'' s.heap.objs.size (.tup [.int (i : Nat), x]) :=
      ⟨by show 2 ≤ sizeLine; decide, [.int i tk, y], .cons ⟨_, rfl⟩ (.cons ru .nil), ⟨_, hT2, rfl, _, rfl⟩⟩
    have I1 : Inv X pins σ (upd H s.heap.objs.size (.tup [.int (i : Nat), x])) { s with heap := h'', toks := tk + 1 } :=
      I.turnedNew (ch := [e, it]) (fun b ob hb q => (sb.2 b (fun z => hb (by simp [z]))).trans (hk b ob (fun z => hb (by simp [z])) (fun z => hb (by simp [z])) q)) hf (Nat.le_refl _) new
    refine ⟨.ref s.heap.objs.size, _, I1, rfl, ⟨_, x, rfl, I.hok.fresh (Nat.le_refl _), rfl, fun ys hy => by rw [I.tuple_inj hy hq]; exact hx⟩, ⟨⟨y, ?_⟩, st'.1.at fun o q => (sb.2 it (Ne.symm hne)).trans q, hne, hna, hnae⟩, fun b hb => ?_⟩
    · have e1 : ((i + 1 : Nat) : Int) = (i : Int) + 1 := by omega
      rw [e1]; exact he'
    · have hb' : b < s.heap.objs.size := by
        have e' : b = e ∨ b = it := by simpa using hb
        rcases e' with z | z
        · rw [z]; exact hel
        · rw [z]; exact hil
      rw [upd_ne (Nat.ne_of_lt hb')]
      exact (hf b hb).1
  done := by
    intro X hP hw hK hc i pins s σ H E I hf st hg
    subst hP hw hK
    obtain ⟨⟨old, he⟩, hit, hne, hna, hnae⟩ := st
    obtain ⟨xs, hq, hx⟩ := hg
    obtain ⟨its, rv, p, hz⟩ := I.tuple hq
    obtain ⟨f0, f1, f2, f3, f4, f5⟩ := hf it (by simp)
    have hl := rv.length
    have pt : s.heap.IsTuple a its.toArray := p
    subst hx
    exact wpAny_pyNext_enum_endD (Draws.tuple (prog := X.prog) (w := X.w) (A := X.A.in1) (I.ok.hd hc) it a hna its.toArray) he ⟨by rw [show its.toArray.size = xs.length by simp [hl]]; exact hit, pt⟩ fun h' eb => ⟨rfl, I.turned (t' := s.toks) (fun b o hb q => eb b o hb q) f0 f1 f3 f4 f5⟩
  self := fun A i s Q E st h => let ⟨⟨_, he⟩, _⟩ := st; wpAny_pyIter_enum he h
def iEnumT (K : PySem.W.Frag) (ta : TA) : TI := fun σ H R => ta σ H fun vs H1 => ∃ a xs, vs = [.ref a] ∧ SqT K H1 a xs ∧ R (IteT K a) H1
theorem pi_enumT {X : Cx} {e : Expr} {ta : TA} {p pos tpos : Pos} {elts : List Expr} {kk : Nat} (hg : Gl X "enumerate") (hm : X.mg "enumerate" = none) (ha : PA X [e] ta) (hs : starEach [e] X.env = [(false, eval e X.env)] := by rfl) :
    PI X (.Tuple elts kk tpos) (.Call (.Name "enumerate" p) [e] [] pos) (iEnumT X.K ta) := by
  refine ⟨fun pins s σ H R I h => ?_⟩
  refine Call_ (ld_blt I hg hm boot_enumerate (PyProof.Rows.callWith_type1 (thn (ha.run pos pins s σ H _ I h) fun us s1 ⟨vs, H1, I1, r1, q1⟩ => ?_) hs rfl))
  obtain ⟨a, xs, ex, hq, q⟩ := q1
  subst ex
  cases r1 with
  | cons r rr =>
    cases rr
    cases r
    obtain ⟨its, rv, p', hz⟩ := I1.tuple hq
    have pt : s1.heap.IsTuple a its.toArray := p'
    have hal : a < s1.heap.objs.size := by obtain ⟨_, q, _⟩ := pt; exact Heap.lt_size q
    refine enum_begins1 (begins_tuple a its.toArray) pt fun h' he hit hsz hk => wpAny_pyIter_enum he ?_
    have I2 : Inv X pins σ H1 { s1 with heap := h' } := I1.kept (t' := s1.toks) hk
    refine ⟨s1.heap.objs.size + 1, [s1.heap.objs.size + 1, s1.heap.objs.size], _, _, H1, rfl, I2, turn_enumT a (s1.heap.objs.size + 1) s1.heap.objs.size, ⟨⟨.none, he⟩, ⟨_, hit, rfl, rfl⟩, Nat.succ_ne_self _, Nat.ne_of_lt hal, Nat.ne_of_lt (Nat.lt_succ_of_lt hal)⟩, fun b hb => ?_, q⟩
    have e' : b = s1.heap.objs.size + 1 ∨ b = s1.heap.objs.size := by simpa using hb
    have hle : s1.heap.objs.size ≤ b := by
      rcases e' with z | z
      · rw [z]; exact Nat.le_add_right _ _
      · rw [z]; exact Nat.le_refl _
    exact I1.fpOk hle (I1.hok.fresh hle)
end L2
namespace DL
open PySem L2 PySem.Spec PyProof.Rows
def enD (n : Nat) : List D → List D
  | [] => []
  | d :: r => .tup [.int n, d] :: enD (n + 1) r
theorem enD_get : ∀ {ds : List D} {n i : Nat}, (enD n ds)[i]? = (ds[i]?).map fun d => D.tup [.int ((n + i : Nat) : Int), d]
  | [], n, i => by simp [enD]
  | d :: r, n, 0 => by simp [enD]
  | d :: r, n, i + 1 => by
    show (enD (n + 1) r)[i]? = _
    rw [enD_get (ds := r)]
    show _ = (r[i]?).map _
    rw [show n + 1 + i = n + (i + 1) by omega]
theorem enD_length : ∀ {ds : List D} {n : Nat}, (enD n ds).length = ds.length
  | [], _ => rfl
  | d :: r, n => by simp [enD, enD_length (ds := r)]
theorem wk_ET {K : PySem.W.Frag} {H1 : Hp} {p : Addr} {xs : List V} {ds : List D} (hs : SqT K H1 p xs) (ha : Tps K H1 xs ds) : WalkD K H1 (IteT K p) (enD 0 ds) (fun _ => True) where
  goes := fun i H M im R _ hi => by
    rw [enD_length] at hi
    obtain ⟨v, ev, _⟩ := ha.get (List.getElem?_eq_getElem hi)
    exact ⟨xs, v, imm_sqT im hs, ev⟩
  stops := fun H M im R _ => ⟨xs, imm_sqT im hs, by rw [enD_length, ha.length]⟩
  yields := fun i H M x H' d im R _ hd y => by
    obtain ⟨T, x', ex, hT, hH, y⟩ := y
    subst ex hH
    rw [enD_get] at hd
    cases hx : ds[i]? with
    | none => rw [hx] at hd; cases hd
    | some d0 =>
      rw [hx] at hd
      cases hd
      obtain ⟨v, ev, tv⟩ := ha.get hx
      have := y xs (imm_sqT im hs)
      rw [ev] at this
      cases this
      have i2 := Imm.new (o := .tup [.int (i : Nat), x']) hT
      refine ⟨i2, R.skip hT, .tup (SqT.of upd_same) (.cons ?_ (.cons (Tp.mono i2 _ _ (Tp.mono im _ _ tv)) .nil))⟩
      rw [Nat.zero_add]
      exact .int _
theorem wk_EL {K : PySem.W.Frag} {H1 : Hp} {p : Addr} {ds : List D} : WalkD K H1 (Ite K p) (enD 0 ds) (fun M => M p = some (.lst ds)) where
  goes := fun i H M im R g hi => by
    rw [enD_length] at hi
    obtain ⟨_, ea, us, rfl, ha⟩ := R p _ g
    obtain ⟨v, ev, _⟩ := ha.get (List.getElem?_eq_getElem hi)
    exact ⟨us, v, SqL.of ea, ev⟩
  stops := fun H M im R g => by
    obtain ⟨_, ea, us, rfl, ha⟩ := R p _ g
    exact ⟨us, SqL.of ea, by rw [enD_length, ha.length]; exact Nat.le_refl _⟩
  yields := fun i H M x H' d im R g hd y => by
    obtain ⟨T, x', ex, hT, hH, y⟩ := y
    subst ex hH
    rw [enD_get] at hd
    cases hx : ds[i]? with
    | none => rw [hx] at hd; cases hd
    | some d0 =>
      rw [hx] at hd
      cases hd
      obtain ⟨_, ea, us, rfl, ha⟩ := R p _ g
      obtain ⟨v, ev, tv⟩ := ha.get hx
      have := y us (SqL.of ea)
      rw [ev] at this
      cases this
      have i2 := Imm.new (o := .tup [.int (i : Nat), x']) hT
      refine ⟨i2, R.skip hT, .tup (SqT.of upd_same) (.cons ?_ (.cons (Tp.mono i2 _ _ tv) .nil))⟩
      rw [Nat.zero_add]
      exact .int _
section
variable {X : Cx} {a b c tg iter : Expr} {σ : Sd} {M : Mp} {pos p : Pos} {R : List D → (Mp → Prop) → Mp → Prop}
theorem i_enumT {elts : List Expr} {kk : Nat} {tpos : Pos} (hm : X.mg "enumerate" = none) (h : ES X a σ M fun d M1 => match d with
    | .tup ds => R (enD 0 ds) (fun _ => True) M1
    | _ => False) (hg : Gl X "enumerate" := by rfl) (hs : starEach [a] X.env = [(false, eval a X.env)] := by rfl) : IS X (.Tuple elts kk tpos) (.Call (.Name "enumerate" p) [a] [] pos) σ M R :=
  IS.of (pi_enumT hg hm pa_sem hs) fun σv H S RM => (a_cons (QA := fun ds M1 => match ds with | [.tup l] => R (enD 0 l) (fun _ => True) M1 | _ => False) (h.imp fun d M1 q => by
      cases d <;> first | exact False.elim q | exact a_nil q) hs).go S RM fun vs H1 ds M1 i1 R1 t1 q1 => by
    match ds, t1, q1 with
    | [.tup l], t1, q1 =>
      obtain ⟨v, rfl, r⟩ := t1.one
      cases r with
      | @tup a xs _ hs ha => exact ⟨a, xs, rfl, hs, i1, _, _, M1, R1, wk_ET hs ha, q1⟩
theorem i_enumL {elts : List Expr} {kk : Nat} {tpos : Pos} (hm : X.mg "enumerate" = none) (h : ES X a σ M fun d M1 => match d with
    | .ref l => ∃ ds, M1 l = some (.lst ds) ∧ R (enD 0 ds) (fun M => M l = some (.lst ds)) M1
    | _ => False) (hg : Gl X "enumerate" := by rfl) (hs : starEach [a] X.env = [(false, eval a X.env)] := by rfl) : IS X (.Tuple elts kk tpos) (.Call (.Name "enumerate" p) [a] [] pos) σ M R :=
  IS.of (pi_enum hg hm pa_sem hs) fun σv H S RM => (a_cons (QA := fun ds M1 => match ds with | [.ref l] => ∃ ds, M1 l = some (.lst ds) ∧ R (enD 0 ds) (fun M => M l = some (.lst ds)) M1 | _ => False) (h.imp fun d M1 q => by
      cases d <;> first | exact False.elim q | exact a_nil q) hs).go S RM fun vs H1 ds M1 i1 R1 t1 q1 => by
    match ds, t1, q1 with
    | [.ref l], t1, q1 =>
      obtain ⟨v, rfl, r⟩ := t1.one
      obtain ⟨ds, e, q⟩ := q1
      obtain ⟨_, ea, us, rfl, ha⟩ := R1 l _ e
      cases r
      exact ⟨l, us, rfl, SqL.of ea, i1, _, _, M1, R1, wk_EL, q⟩
end
end DL
set_option maxHeartbeats 1000000
namespace DL
open PySem L2 PySem.Spec PyProof.Rows
/-! ### exceptions -/
open Classical in
/-- M and all that never changes in H -/
noncomputable def plus (M : Mp) (H : Hp) : Mp := fun a => match M a with
  | some m => some m
  | none => match H a with
    | some o => if fixedO o then some (.fix o) else none
    | none => none
theorem plus_le {M : Mp} {H : Hp} : Mle M (plus M H) := fun a m e => by unfold plus; rw [e]
open Classical in
theorem plus_rel {K : PySem.W.Frag} {M : Mp} {H : Hp} (R : RelM K M H) : RelM K (plus M H) H := fun a m e => by
  unfold plus at e
  cases e1 : M a with
  | some m1 =>
    rw [e1] at e
    cases e
    exact R a _ e1
  | none =>
    rw [e1] at e
    cases e2 : H a with
    | none => rw [e2] at e; cases e
    | some o =>
      rw [e2] at e
      by_cases hf : fixedO o
      · have e' : (if fixedO o then some (MO.fix o) else none) = some m := e
        rw [if_pos hf] at e'
        cases e'
        exact ⟨o, rfl, rfl, hf⟩
      · have e' : (if fixedO o then some (MO.fix o) else none) = some m := e
        rw [if_neg hf] at e'
        cases e'
theorem plus_fix {K : PySem.W.Frag} {M : Mp} {H : Hp} (R : RelM K M H) {a : Addr} {o : HO} (h : H a = some o) (f : fixedO o) : plus M H a = some (.fix o) := by
  unfold plus
  cases e1 : M a with
  | some m1 =>
    obtain ⟨u, e2, r⟩ := R a _ e1
    rw [h] at e2
    cases e2
    cases m1 with
    | fix u => obtain ⟨rfl, _⟩ := r; rfl
    | lst _ => obtain ⟨_, rfl, _⟩ := r; exact f.elim
    | dK _ => obtain ⟨_, rfl, _⟩ := r; exact f.elim
    | ins _ _ _ => obtain ⟨_, rfl, _⟩ := r; exact f.elim
    | own _ => cases r; exact f.elim
    | xd _ => obtain ⟨_, rfl, _⟩ := r; exact f.elim
  | none =>
    rw [h]
    exact if_pos f
def FixLe (N M' : Mp) : Prop := ∀ a o, N a = some (.fix o) → M' a = some (.fix o)
theorem Mle.fix {N M' : Mp} (l : Mle N M') : FixLe N M' := fun a o e => l a _ e
theorem Keep.fix {N M' : Mp} {a : Addr} {m : MO} (k : Keep a N M') (e : N a = some m) (hn : ∀ o, m ≠ .fix o) : FixLe N M' := fun b o eb => k b _ (by rintro rfl; rw [e] at eb; cases eb; exact hn o rfl) eb
theorem FixLe.trans {A B C : Mp} (h : FixLe A B) (k : FixLe B C) : FixLe A C := fun a o e => k a o (h a o e)
theorem imm_of {K : PySem.W.Frag} {M M' : Mp} {H H' : Hp} (R : RelM K M H) (f : FixLe (plus M H) M') (R' : RelM K M' H') : Imm H H' := fun a o e hf => by
  obtain ⟨u, e2, rfl, _⟩ := R' a _ (f a o (plus_fix R e hf))
  exact e2
/-- what is wished of an exception -/
abbrev WD := Value → Option Addr → Sd → Mp → Prop
def TkD (X : Cx) (W : WD) : Prop := ∃ Wv : WX, Takes X Wv ∧ ∀ cls d σv H σ M, Slots X.K H σv σ → RelM X.K M H → W cls d σ M → Wv cls d σv H
theorem tkD0 {X : Cx} : TkD X fun _ _ _ _ => False := ⟨_, takes0, fun _ _ _ _ _ _ _ _ q => q⟩
theorem TkD.imp {X : Cx} {W W' : WD} (t : TkD X W) (h : ∀ c d σ M, W' c d σ M → W c d σ M) : TkD X W' := by
  obtain ⟨Wv, tk, hW⟩ := t
  exact ⟨Wv, tk, fun cls d σv H σ M S R q => hW cls d σv H σ M S R (h _ _ _ _ q)⟩
abbrev E3 := Value → Option Addr → Mp → Prop
abbrev Sp4 := List D → Mp → QD → E3 → Prop
def spX (K : PySem.W.Frag) (sp4 : Sp4) : Sp := fun vs H Q E => ∃ (ds : List D) (M : Mp) (Q3 : QD) (Ex : E3), Tps K H vs ds ∧ RelM K M H ∧ sp4 ds M Q3 Ex ∧ To K H Q3 Q ∧ ∀ cls d H' M', RelM K M' H' → Ex cls d M' → E cls d H'
/-- a def of the module that may raise -/
def CalleeX (P : Program) (w : World) (K : PySem.W.Frag) (mg : Str → Option Value) (base : Heap) (x : Str) (k : Nat) (ps : List Str) (sp4 : Sp4) : Prop :=
  ∃ f fd, FnOk P w K mg base (L2.CX P w) k f fd ps (spX K sp4) ∧ mg x = some (.ref f) ∧ PySem.W.keepIn K (.ref f) = true ∧ Binds K fd ps []
theorem fnX {P : Program} {w : World} {K : PySem.W.Frag} {mg : Str → Option Value} {base : Heap} {N ps : List Str} {x qual : Str} {st : Stmt} {f : Addr} {fd : FuncData} {k : Nat} {sp4 : Sp4}
    (F : Fun K x qual st f fd) (S : FnScope N ps (defScope st)) (len : ∀ ds M Q Ex, sp4 ds M Q Ex → ds.length = ps.length)
    (body : ∀ (cdv : Value) (A : Around) (outer : List Env) (s : Shared) (H : Hp) (E : XK), Room k (A.deeper (envOfC qual (defScope st) s.heap.objs.size f cdv)) → ∀ ds M Q (Ex : E3), sp4 ds M Q Ex →
      TkD (cxOf (L2.CX P w) P w K mg base N qual (defScope st) f cdv A outer s H E) (fun cls d _ M' => Ex cls d M') →
      SSs (cxOf (L2.CX P w) P w K mg base N qual (defScope st) f cdv A outer s H E) (defBody st) (startD N ds) M { nx := fun _ M' => Wk Q .non M', rt := Wk Q }) : FnOk P w K mg base (L2.CX P w) (k + 1) f fd ps (spX K sp4) := by
  refine F.okX S (fun vs H Q E ⟨ds, M, Q3, Ex, t, r, q, to, _⟩ => ?_) (fun cdv A outer s H vs Q E hr ⟨ds, M, Q3, Ex, t, r, q, to, tox⟩ => ?_)
  · rw [t.length]
    exact len ds M Q3 Ex q
  · refine ⟨_, pss_sem, tSs.mono ((body cdv A outer s H E hr ds M Q3 Ex q ⟨_, takes_of rfl rfl rfl rfl, fun cls d σv H' σ M' _ R' w => tox cls d H' M' R' w⟩).run (start N vs) H (Slots.start t) r) ⟨fun σ' H' h => ?_, fun v H' h => ?_, fun _ _ h => ?_, fun _ _ h => ?_⟩⟩
    · obtain ⟨i, σ'', M', S', R', M1, l, q'⟩ := h
      exact to _ _ _ _ i (R'.le l) .non q'
    · obtain ⟨i, d, M', R', t', M1, l, q'⟩ := h
      exact to _ _ _ _ i (R'.le l) t' q'
    · obtain ⟨i, σ'', M', S', R', z⟩ := h
      exact z
    · obtain ⟨i, σ'', M', S', R', z⟩ := h
      exact z
theorem calleeX {P : Program} {w : World} {K : PySem.W.Frag} {mg : Str → Option Value} {base : Heap} {N ps : List Str} {x qual : Str} {st : Stmt} {f : Addr} {fd : FuncData} {k : Nat} {sp4 : Sp4}
    (F : Fun K x qual st f fd) (S : FnScope N ps (defScope st)) (hm : mg x = some (.ref f)) (hb : Binds K fd ps []) (len : ∀ ds M Q Ex, sp4 ds M Q Ex → ds.length = ps.length)
    (body : ∀ (cdv : Value) (A : Around) (outer : List Env) (s : Shared) (H : Hp) (E : XK), Room k (A.deeper (envOfC qual (defScope st) s.heap.objs.size f cdv)) → ∀ ds M Q (Ex : E3), sp4 ds M Q Ex →
      TkD (cxOf (L2.CX P w) P w K mg base N qual (defScope st) f cdv A outer s H E) (fun cls d _ M' => Ex cls d M') →
      SSs (cxOf (L2.CX P w) P w K mg base N qual (defScope st) f cdv A outer s H E) (defBody st) (startD N ds) M { nx := fun _ M' => Wk Q .non M', rt := Wk Q }) : CalleeX P w K mg base x (k + 1) ps sp4 := ⟨f, fd, fnX F S len body, hm, F.kp, hb⟩
theorem CalleeX.none {P : Program} {w : World} {K : PySem.W.Frag} {mg : Str → Option Value} {base : Heap} {x : Str} {k : Nat} {ps : List Str} {sp4 : Sp4} {f : Addr} {fd : FuncData}
    (hm : mg x = some (.ref f)) (hk : PySem.W.keepIn K (.ref f) = true) (hb : Binds K fd ps []) (h : ∀ ds M Q Ex, ¬ sp4 ds M Q Ex) : CalleeX P w K mg base x k ps sp4 :=
  ⟨f, fd, ⟨fun vs H Q E ⟨ds, M, Q3, Ex, _, _, q, _⟩ => absurd q (h ds M Q3 Ex), fun A outer s H args us vs Q E _ _ _ _ ⟨ds, M, Q3, Ex, _, _, q, _⟩ => absurd q (h ds M Q3 Ex)⟩, hm, hk, hb⟩
section
variable {X : Cx} {e a b c : Expr} {es rest : List Expr} {σ : Sd} {M : Mp} {Q : QD} {E : DE} {W : WD} {pos pos2 pos' p p2 np : Pos} {x : Str} {k : Nat} {ps : List Str} {sp4 : Sp4}
theorem e_callX (tk : TkD X W) (C : CalleeX X.prog X.w X.K X.mg X.base x k ps sp4) (hr : Room k X.A) (h : AS X (e :: es) σ M fun ds M1 => ∀ N, Mle M1 N → sp4 ds N Q fun cls d M' => FixLe N M' ∧ W cls d σ M') (hg : Gl X x := by rfl) (hdb : (x == ("__debug__" : Str)) = false := by decide)
    (he : starEach (e :: es) X.env = (false, eval e X.env) :: starEach es X.env := by rfl) (hpl : (backTo pos (starEach es X.env)).any (·.1) = false := by rfl) : ES X (.Call (.Name x p) (e :: es) [] pos) σ M Q := by
  obtain ⟨f, fd, F, hm, hk, hb⟩ := C
  obtain ⟨Wv, tkv, hW⟩ := tk
  refine ES.of (pe_callS F hr hg hm hk hb (fun σ => passAt tkv σ) pa_sem hdb he hpl) fun σv H S R => h.go S R fun vs H1 ds M1 i1 R1 t1 q1 => ?_
  exact ⟨ds, plus M1 H1, Q, _, t1, plus_rel R1, q1 _ plus_le, fun v H2 d M2 i2 R2 t2 q2 => ⟨i1.trans i2, d, M2, R2, t2, q2⟩, fun cls d H' M' R' ⟨fx, w⟩ => hW cls d σv H' σ M' (S.mono (i1.trans (imm_of R1 fx R'))) R' w⟩
/-- an exception class of the program's own, without __init__ -/
structure XcP (K : PySem.W.Frag) (mg : Str → Option Value) (x : Str) (C : Addr) : Prop where
  make : ∀ {X : Cx} {m : Str} {j : Nat} {p p2 pos : Pos}, X.K = K → X.mg = mg → Gl X x → (x == ("__debug__" : Str)) = false → PMk X (.Call (.Name x p) [.Constant (.str m) j p2] [] pos) (fun _ H Q => Q (.ref C) none H)
theorem xcP_mk {K : PySem.W.Frag} {mg : Str → Option Value} {x : Str} {C : Addr} {B newId initId : String} {bmB : List Value} (F : PySem.ExcBaseFacts B newId initId bmB) (q : PySem.W.excIn K C bmB newId = true) (gC : mg x = some (.ref C)) (kC : PySem.W.keepIn K (.ref C) = true)
    (h1 : PySem.W.subIn K (.ref C) (.type "BaseException") = some true) (h2 : PySem.W.typeIn K (.ref C) = some (.type "type")) : XcP K mg x C :=
  ⟨fun {X m j p p2 pos} hK hM hg hdb => by subst hK hM; exact pmk_own F q gC kC (raises_own h1 h2) hg hdb⟩
theorem s_raise {m : Str} {j : Nat} {C : Addr} (tk : TkD X W) (xc : XcP X.K X.mg x C) (q : W (.ref C) none σ M) (hc : X.calm = true := by rfl) (hg : Gl X x := by rfl) (hdb : (x == ("__debug__" : Str)) = false := by decide) : SS X (.Raise (some (.Call (.Name x p) [.Constant (.str m) j p2] [] pos2)) none pos) σ M E := by
  obtain ⟨Wv, tkv, hW⟩ := tk
  exact SS.of (ps_raise hc tkv (xc.make rfl rfl hg hdb)) fun σv H S R => hW _ _ _ _ _ _ S R q
/-- what a clause wishes of the body's exceptions -/
def WIn (X : Cx) (c : Value) (suite : List Stmt) (E : DE) (W : WD) (N : Mp) : WD := fun cls d σ' M' => ∃ b, PySem.W.exmOne X.K cls c = some b ∧ FixLe N M' ∧ (b = true → ∀ a pn, SSs (X.suite a pn) suite σ' M' E) ∧ (b = false → W cls d σ' M')
theorem s_try {c : Value} {body suite : List Stmt} {b₀ : Stmt} (hc : Names X x c) (tk : TkD X W)
    (h : ∀ N, Mle M N → ∀ pn xe, TkD (X.tr pn xe) (WIn X c (b₀ :: suite) E W N) → SSs (X.tr pn xe) body σ N E) (hs : X.stack = X.env :: X.outer := by rfl) (hf : X.env.frame = some X.env.locals := by rfl) : SS X (.Try body [.ExceptHandler (some (.Name x np)) none (b₀ :: suite) pos'] [] [] pos) σ M E := by
  obtain ⟨Wv, tkv, hW⟩ := tk
  refine SS.of (ps_try_only (tb := fun W' D σ H => ∀ pn xe, Takes (X.tr pn xe) W' → tSs (X.tr pn xe) body D σ H) (ts := fun a cls d D σ H => ∀ pn, tSs (X.suite a pn) (b₀ :: suite) D σ H) hs hf hc tkv
    (fun W' pn xe t _ => ⟨fun pins s σ H D I hw => pss_sem.run pins s σ H D I (hw pn xe t)⟩) (fun a oe cls d pn _ _ => ⟨fun pins s σ H D I hw => pss_sem.run pins s σ H D I (hw _)⟩)) fun σv H S R pn xe t => ?_
  refine (h (plus M H) plus_le pn xe ⟨_, t, fun cls d σv' H' σ' M' S' R' ⟨b, hb, fx, q1, q2⟩ => ?_⟩).run σv H S (plus_rel R)
  exact ⟨b, hb, fun e a _ pn' => ((q1 e a pn').run σv' H' S' R').mono (DE.from (imm_of R fx R')), fun e => hW cls d σv' H' σ' M' S' R' (q2 e)⟩
end
end DL
set_option maxHeartbeats 1000000
namespace DL
open PySem L2 PySem.Spec PyProof.Rows
theorem Slots.unset {K : PySem.W.Frag} {H : Hp} {σv : L2.St} {σ : Sd} (s : Slots K H σv σ) (i : Nat) : Slots K H (σv.set i none) (σ.set i none) := by
  refine ⟨by rw [List.length_set, List.length_set, s.len], fun j e h => ?_⟩
  by_cases hj : j = i
  · subst hj
    by_cases hl : j < σ.length
    · rw [List.getElem?_set_self hl] at h
      cases h
    · rw [List.getElem?_eq_none (by rw [List.length_set]; omega)] at h
      cases h
  · rw [List.getElem?_set_ne (Ne.symm hj)] at h
    obtain ⟨v', e', r'⟩ := s.at_ j e h
    exact ⟨v', by rw [List.getElem?_set_ne (Ne.symm hj)]; exact e', r'⟩
/-- behind an except clause with a name: the name is gone -/
def DE.unset (E : DE) (i : Nat) : DE := { nx := fun σ M => E.nx (σ.set i none) M, rt := E.rt, bk := fun σ M => E.bk (σ.set i none) M, ct := fun σ M => E.ct (σ.set i none) M }
theorem DN.unset {K : PySem.W.Frag} {H0 H : Hp} {Q : Sd → Mp → Prop} {i : Nat} (im : Imm H0 H) {σv : L2.St} {H' : Hp} (h : DN K H (fun σ M => Q (σ.set i none) M) σv H') : DN K H0 Q (σv.set i none) H' := by
  obtain ⟨i1, σ', M', S', R', q⟩ := h
  exact ⟨im.trans i1, _, M', S'.unset i, R', q⟩
def WAs (X : Cx) (c : Value) (i : Nat) (suite : List Stmt) (E : DE) (W : WD) (N : Mp) : WD := fun cls d σ' M' => ∃ b, PySem.W.exmOne X.K cls c = some b ∧ FixLe N M' ∧
  (b = true → ∀ a oe pn, M' a = none → Zc cls d oe → (∃ vs, oe.data = .fields vs) → SSs (X.suite a ((a, oe) :: pn)) suite (σ'.set i (some (.ref a))) M' (E.unset i)) ∧ (b = false → W cls d σ' M')
section
variable {X : Cx} {e a b c : Expr} {es rest : List Expr} {σ : Sd} {M : Mp} {Q : QD} {E : DE} {W : WD} {pos pos2 pos' p p2 np : Pos} {x : Str} {k : Nat} {ps : List Str} {sp4 : Sp4}
theorem s_tryAs {c : Value} {body suite : List Stmt} {b₀ : Stmt} {n : Str} (i : Nat) (hN : X.N.Nodup) (hc : Names X x c) (tk : TkD X W)
    (h : ∀ N, Mle M N → ∀ pn xe, TkD (X.tr pn xe) (WAs X c i (b₀ :: suite) E W N) → SSs (X.tr pn xe) body σ N E) (hi : X.N[i]? = some n := by rfl) (hln : X.env.kindOf n = some .local := by rfl)
    (hs : X.stack = X.env :: X.outer := by rfl) (hf : X.env.frame = some X.env.locals := by rfl) : SS X (.Try body [.ExceptHandler (some (.Name x np)) (some n) (b₀ :: suite) pos'] [] [] pos) σ M E := by
  obtain ⟨Wv, tkv, hW⟩ := tk
  refine SS.of (ps_try_as (i := i) (tb := fun W' D σ H => ∀ pn xe, Takes (X.tr pn xe) W' → tSs (X.tr pn xe) body D σ H) (ts := fun a cls d D σ H => ∀ oe pn, Zc cls d oe → (∃ vs, oe.data = .fields vs) → tSs (X.suite a ((a, oe) :: pn)) (b₀ :: suite) D σ H) hs hf hN hi hln hc tkv
    (fun W' pn xe t _ => ⟨fun pins s σ H D I hw => pss_sem.run pins s σ H D I (hw pn xe t)⟩) (fun a oe cls d pn hz hff => ⟨fun pins s σ H D I hw => pss_sem.run pins s σ H D I (hw oe pn hz hff)⟩)) fun σv H S R pn xe t => ?_
  refine (h (plus M H) plus_le pn xe ⟨_, t, fun cls d σv' H' σ' M' S' R' ⟨b, hb, fx, q1, q2⟩ => ?_⟩).run σv H S (plus_rel R)
  have im := imm_of R fx R'
  refine ⟨b, hb, fun e a ha oe pn' hz hff => ?_, fun e => hW cls d σv' H' σ' M' S' R' (q2 e)⟩
  exact ((q1 e a oe pn' (R'.fresh ha) hz hff).run _ H' (S'.set (.ref a) i) R').mono ⟨fun _ _ q => DN.unset im q, fun _ _ q => DQ.from im q, fun _ _ q => DN.unset im q, fun _ _ q => DN.unset im q⟩
/-! isinstance of a caught error -/
def clsD : D → Value → Prop := fun d c => match d with
  | .ty n => c = .type n
  | .ref a => c = .ref a
  | _ => False
def RIsE (K : PySem.W.Frag) (D₀ a : Addr) : RA3 := fun ds M Q => match ds with
  | [.ref x, c] => x = a ∧ ∃ cv b, clsD c cv ∧ PySem.W.kitOne K (.ref D₀) cv = some b ∧ Q (.bl b) M
  | _ => False
theorem rd_isE {K : PySem.W.Frag} {D₀ a : Addr} : RDA K (rIsE K D₀ a) (RIsE K D₀ a) := by
  intro H0 H M vs ds Q Q' i R t k q
  match ds, t, q with
  | [.ref x, c], t, q =>
    obtain ⟨hx, cv, b, hc, hk, q1⟩ := q
    subst hx
    obtain ⟨v, u, rfl, r, r2⟩ := t.two
    cases r
    refine ⟨u, cv, b, rfl, fun w hw => ?_, hk, k _ _ _ _ i R (.bl _) q1⟩
    cases r2 <;> first | exact False.elim hc | (cases hc; exact hw)
theorem e_isE {a : Addr} {D₀ : Addr} {oe : Obj} {pn : List (Addr × Obj)} {e1 e2 : Expr} (C : ExcC X.K D₀) (hz : Zc (.ref D₀) none oe) (hf : ∃ vs, oe.data = .fields vs) (hm : X.mg "isinstance" = none)
    (h : AS (X.suite a ((a, oe) :: pn)) [e1, e2] σ M fun ds M1 => RIsE X.K D₀ a ds M1 Q) (hg : Gl X "isinstance" := by rfl) (he : starEach [e1, e2] X.env = (false, eval e1 X.env) :: starEach [e2] X.env := by rfl) (he2 : (backTo pos (starEach [e2] X.env)).any (·.1) = false := by rfl) :
    ES (X.suite a ((a, oe) :: pn)) (.Call (.Name "isinstance" p) [e1, e2] [] pos) σ M Q := e_cb (X := X.suite a ((a, oe) :: pn)) (call_isE C hz hf) rd_isE hm (by decide +kernel) h hg (by decide) (by decide) he he2
/-- a class of the program's own, as a value -/
theorem e_cls {x : Str} {C : Addr} (hm : X.mg x = some (.ref C)) (q : Q (.ref C) M) (hg : Gl X x := by rfl) (hdb : (x == ("__debug__" : Str)) = false := by decide) : ES X (.Name x pos) σ M Q := e_glob (v := .ref C) hm rfl (fun _ => .ref C) q hg hdb
def RSum : RA3 := fun ds M Q => match ds with
  | [.ref a] => ∃ ns : List Int, M a = some (.lst (ns.map D.int)) ∧ Q (.int ns.sum) M
  | _ => False
theorem rd_sum {K : PySem.W.Frag} : RDA K (rSum K) RSum := by
  intro H0 H M vs ds Q Q' i R t k q
  match ds, t, q with
  | [.ref a], t, q =>
    obtain ⟨v, rfl, r⟩ := t.one
    obtain ⟨ns, e, q⟩ := q
    obtain ⟨_, ea, us, rfl, ha⟩ := R a _ e
    cases r
    obtain rfl := tps_ints ha
    exact ⟨a, ns, rfl, SqL.of ea, k _ _ _ _ i R (.int _) q⟩
theorem e_sum (hm : X.mg "sum" = none) (h : AS X [e] σ M fun ds M1 => RSum ds M1 Q) (hc : X.calm = true := by rfl) (hg : Gl X "sum" := by rfl) (he : starEach [e] X.env = (false, eval e X.env) :: starEach [] X.env := by rfl) : ES X (.Call (.Name "sum" p) [e] [] pos) σ M Q := e_cb (cr_sum hc) rd_sum hm (by decide +kernel) h hg (by decide) (by decide) he rfl
end
end DL
set_option maxHeartbeats 1000000
namespace DL
open PySem L2 PySem.Spec PyProof.Rows
theorem wipe2 {σv : L2.St} {j1 j2 : Nat} {x y : V} : L2.wipe (((L2.wipe σv [j1, j2]).set j1 (some x)).set j2 (some y)) [j1, j2] = L2.wipe σv [j1, j2] := by
  simp only [L2.wipe]
  refine List.ext_getElem? fun k => ?_
  simp only [List.getElem?_set, List.length_set]
  by_cases h2 : j2 = k
  · simp [h2]
  · by_cases h1 : j1 = k
    · simp [h1, h2]
    · simp [h1, h2]
section
variable {X : Cx} {elt iter : Expr} {scope : Scope} {σ : Sd} {M : Mp} {Q : QD} {pos p1 p2 tpos : Pos} {x1 x2 : Str} {kk : Nat}
theorem lc2_read (j1 j2 : Nat)
    (h : IS X (.Tuple [.Name x1 p1, .Name x2 p2] kk tpos) iter σ M fun its G M1 => ∀ q, M1 q = none → ∃ Pv : Nat → Mp → Prop, (∀ M', M' q = some (.lst []) → Mle M1 M' → Pv 0 M') ∧ (∀ i M', i ≤ its.length → Pv i M' → G M') ∧
      (∀ i d M', its[i]? = some d → Pv i M' → ∃ d1 d2, d = .tup [d1, d2] ∧ ∀ (s : Shared) (H0 : Hp) (C : Addr) (cl : List (Str × Addr)) (fp : List Addr),
        ES (X.blk s H0 scope (compEnvC scope cl C X.env) fp) elt ((((σ.set j2 none).set j1 none).set j1 (some d1)).set j2 (some d2)) M' fun y M2 => ∃ acc, M2 q = some (.lst acc) ∧ acc.length < sizeLine ∧ SetM M2 q (.lst (acc ++ [y])) (Pv (i + 1))) ∧
      ∀ M', Pv its.length M' → Q (.ref q) M')
    : ∀ σv H, Slots X.K H σv σ → RelM X.K M H → ∀ Q', To X.K H Q Q' → tLc (tI X (.Tuple [.Name x1 p1, .Name x2 p2] kk tpos) iter) (gTup X.K 2 (gCons (gName j1) (gCons (gName j2) gNil))) tYes (tEB X scope elt) ([(x1, j1), (x2, j2)].map (·.2)) σv H Q' := fun σv H S R Q' to => (h.run σv H S R).mono fun J H1 ⟨i1, its, G, M1, R1, wk, k⟩ q hq => by
    obtain ⟨Pv, p0, pG, ps, pe⟩ := k q (R1.fresh hq)
    have imq := Imm.new (o := .lst []) hq
    refine ⟨fun i m H' => m = its.length - i ∧ i ≤ its.length ∧ Imm H1 H' ∧ ∃ M', RelM X.K M' H' ∧ Pv i M', ⟨its.length, by simp, Nat.zero_le _, imq, _, R1.new (m := .lst []) hq ⟨_, rfl, .nil⟩, p0 _ updM_same (Mle.new (R1.fresh hq))⟩, ?_⟩
    rintro i m H2 ⟨rfl, hi, i2, M2, R2, p2⟩
    by_cases hlt : i < its.length
    · refine .inr ⟨wk.goes i H2 M2 i2 R2 (pG i M2 hi p2) hlt, fun H' => Imm H1 H' ∧ ∃ M', RelM X.K M' H' ∧ Pv (i + 1) M', fun H' ⟨a, b⟩ => ⟨its.length - (i + 1), by omega, rfl, hlt, a, b⟩, fun xv H3 y => ?_⟩
      have hd : its[i]? = some its[i] := List.getElem?_eq_getElem hlt
      obtain ⟨i3, R3, t3⟩ := wk.yields i H2 M2 xv H3 _ i2 R2 (pG i M2 hi p2) hd y
      obtain ⟨d1, d2, ed, pe2⟩ := ps i _ M2 hd p2
      rw [ed] at t3
      cases t3 with
      | @tup a xs _ hs ha =>
        obtain ⟨v1, v2, rfl, t1, t2⟩ := ha.two
        refine ⟨a, _, rfl, hs, rfl, v1, [v2], rfl, ?_⟩
        show ∃ x r, [v2] = x :: r ∧ _
        refine ⟨v2, [], rfl, ?_⟩
        show [] = [] ∧ _
        refine ⟨rfl, ?_⟩
        refine ⟨wipe2, ?_⟩
        intro s0 H0 C cl fp
        have S3 : Slots X.K H3 (((L2.wipe σv [j1, j2]).set j1 (some v1)).set j2 (some v2)) ((((σ.set j2 none).set j1 none).set j1 (some d1)).set j2 (some d2)) := ((((S.mono ((i1.trans i2).trans i3)).wipe1 j2).wipe1 j1).set t1 j1).set t2 j2
        refine (pe2 s0 H0 C cl fp).go (H0 := H3) S3 R3 fun yv H4 yd M4 i4 R4 t4 ⟨acc, ea, hz, p4⟩ => ?_
        obtain ⟨_, eh, us, rfl, ha⟩ := R4 q _ ea
        have im4 : Imm H4 (upd H4 q (.lst (us ++ [yv]))) := Imm.set eh (fun z => z)
        exact ⟨us, eh, by rw [ha.length]; exact hz, ((i2.trans i3).trans i4).trans im4, _, R4.set (m := .lst (acc ++ [yd])) eh (fun z => z) ⟨_, rfl, (Tps.mono im4 _ _ ha).append (.cons (Tp.mono im4 _ _ t4) .nil)⟩, SetM.at p4⟩
    · have e : i = its.length := by omega
      subst e
      exact .inl ⟨wk.stops H2 M2 i2 R2 (pG _ M2 hi p2), to _ _ _ _ (i1.trans i2) R2 (.ref q) (pe M2 p2)⟩
theorem e_lc2 (j1 j2 : Nat) (hN : X.N.Nodup) (ok : BlkOk X.N X.env.scope scope [(x1, j1), (x2, j2)])
    (h : IS X (.Tuple [.Name x1 p1, .Name x2 p2] kk tpos) iter σ M fun its G M1 => ∀ q, M1 q = none → ∃ Pv : Nat → Mp → Prop, (∀ M', M' q = some (.lst []) → Mle M1 M' → Pv 0 M') ∧ (∀ i M', i ≤ its.length → Pv i M' → G M') ∧
      (∀ i d M', its[i]? = some d → Pv i M' → ∃ d1 d2, d = .tup [d1, d2] ∧ ∀ (s : Shared) (H0 : Hp) (C : Addr) (cl : List (Str × Addr)) (fp : List Addr),
        ES (X.blk s H0 scope (compEnvC scope cl C X.env) fp) elt ((((σ.set j2 none).set j1 none).set j1 (some d1)).set j2 (some d2)) M' fun y M2 => ∃ acc, M2 q = some (.lst acc) ∧ acc.length < sizeLine ∧ SetM M2 q (.lst (acc ++ [y])) (Pv (i + 1))) ∧
      ∀ M', Pv its.length M' → Q (.ref q) M')
    (h1 : X.N[j1]? = some x1 := by rfl) (h2 : X.N[j2]? = some x2 := by rfl) (hc : X.calm = true := by rfl)
    (hl1 : ∀ cl C, Loc (compEnvC scope cl C X.env).scope x1 := by exact fun _ _ => Or.inl rfl) (hl2 : ∀ cl C, Loc (compEnvC scope cl C X.env).scope x2 := by exact fun _ _ => Or.inl rfl)
    (hf1 : ∀ (s : Shared) (H0 : Hp) (C : Addr) (cl : List (Str × Addr)) (fp : List Addr), (X.blk s H0 scope (compEnvC scope cl C X.env) fp).fn x1 = true ∨ (compEnvC scope cl C X.env).scope.names.lookup x1 = some .local := by exact fun _ _ _ _ _ => Or.inr rfl)
    (hf2 : ∀ (s : Shared) (H0 : Hp) (C : Addr) (cl : List (Str × Addr)) (fp : List Addr), (X.blk s H0 scope (compEnvC scope cl C X.env) fp).fn x2 = true ∨ (compEnvC scope cl C X.env).scope.names.lookup x2 = some .local := by exact fun _ _ _ _ _ => Or.inr rfl)
    (hs : ∀ x, foldedSetIterable iter X.env x = pure x := by intro _; rfl) : ES X (.ListComp elt [⟨.Tuple [.Name x1 p1, .Name x2 p2] kk tpos, iter, [], 0⟩] scope pos) σ M Q :=
  ES.of (pe_lc (own := [(x1, j1), (x2, j2)]) (g := gTup X.K 2 (gCons (gName j1) (gCons (gName j2) gNil))) (tt := tYes) (te := tEB X scope elt) hc hN pi_sem ok
      (fun s H0 C cl fp => pg_tup (X := X.blk s H0 scope (compEnvC scope cl C X.env) fp) hc (pgs_cons (pg_name (X := X.blk s H0 scope (compEnvC scope cl C X.env) fp) (i := j1) hN h1 (hl1 cl C) (hf1 s H0 C cl fp)) (pgs_cons (pg_name (X := X.blk s H0 scope (compEnvC scope cl C X.env) fp) (i := j2) hN h2 (hl2 cl C) (hf2 s H0 C cl fp)) pgs_nil rfl) rfl) rfl rfl) (fun _ _ _ _ _ => pts_nil)
      (fun s H0 C cl fp => ⟨fun pins s1 σ H Q I hw => hw s H0 C cl fp pins s1 I⟩) hs) fun σv H S R => lc2_read j1 j2 h σv H S R _ To.dq
end
/-! two lists, by content -/
def REqL : R3 := fun x y M Q => match x, y with
  | .ref a, .ref b => ∃ xs ys : List D, M a = some (.lst xs) ∧ M b = some (.lst ys) ∧ (D.rol xs).shp = true ∧ (D.rol ys).shp = true ∧ Q (.bl (D.eqv (.rol xs) (.rol ys))) M
  | _, _ => False
theorem rd_eqL {K : PySem.W.Frag} : RD K (rEqD K) REqL := by
  intro H0 H M vx vy x y Q Q' i R tx ty k q
  cases tx <;> first | exact False.elim q | skip
  case ref a =>
    cases ty <;> first | exact False.elim q | skip
    case ref b =>
      obtain ⟨xs, ys, e1, e2, s1, s2, q⟩ := q
      obtain ⟨_, ea, us, rfl, ha⟩ := R a _ e1
      obtain ⟨_, eb, ws, rfl, hb⟩ := R b _ e2
      unfold D.shp at s1 s2
      rw [Bool.and_eq_true] at s1 s2
      exact ⟨_, _, .lst (SqL.of ea) (Tps.dp _ _ (by simpa only [D.pure] using s1.1) ha), .lst (SqL.of eb) (Tps.dp _ _ (by simpa only [D.pure] using s2.1) hb), s1.2, s2.2, k _ _ _ _ i R (.bl _) q⟩
theorem e_eqL {X : Cx} {a b : Expr} {σ : Sd} {M : Mp} {Q : QD} {pos : Pos} (hr : ∃ k, Room k X.A) (h : ES X a σ M fun x M1 => ES X b σ M1 fun y M2 => REqL x y M2 Q) : ES X (.Compare a [.Eq] [b] pos) σ M Q := e_cmp (op_eqD hr.choose_spec.units) rd_eqL (nomark _) h
end DL
set_option maxHeartbeats 1000000
namespace DL
open PySem L2 PySem.Spec PyProof.Rows
/-! str of an int -/
def RStrI : RA3 := fun ds M Q => match ds with
  | [.int i] => i.natAbs.log2 < 1920 ∧ Q (.str (toString i)) M
  | _ => False
theorem rd_strI {K : PySem.W.Frag} : RDA K (fun xs H Q => ∃ i, xs = [.int i] ∧ i.natAbs.log2 < 1920 ∧ Q (.str (toString i)) H) RStrI := by
  intro H0 H M vs ds Q Q' i R t k q
  match ds, t, q with
  | [.int n], t, q =>
    obtain ⟨v, rfl, r⟩ := t.one
    cases r
    exact ⟨_, rfl, q.1, k _ _ _ _ i R (.str _) q.2⟩
section
variable {X : Cx} {e : Expr} {σ : Sd} {M : Mp} {Q : QD} {pos p : Pos}
theorem e_strI (hm : X.mg "str" = none) (h : AS X [e] σ M fun ds M1 => RStrI ds M1 Q) (hg : Gl X "str" := by rfl) (he : starEach [e] X.env = (false, eval e X.env) :: starEach [] X.env := by rfl) : ES X (.Call (.Name "str" p) [e] [] pos) σ M Q := e_ct call_str_int rd_strI hm (by decide +kernel) h hg (by decide) (by decide) he rfl
end
theorem cps_app (x y : Str) : (x ++ y).cps.toList = x.cps.toList ++ y.cps.toList := by
  show (x.cps ++ y.cps).toList = _
  rw [Array.toList_append]
theorem cps_one (c : Nat) : (⟨#[c]⟩ : Str).cps.toList = [c] := rfl
end DL
set_option maxHeartbeats 1000000
namespace DL
open PySem L2 PySem.Spec PyProof.Rows
section
variable {X : Cx} {a b c : Expr} {σ : Sd} {M : Mp} {pos : Pos} {Q : Bool → Mp → Prop} {op op' : CmpOp} {r r' : R2} {R R' : R3}
/-- a op b op' c, as a test -/
theorem t_chain (ho : OpR X (compareOp op) r) (hR : RD X.K r R) (ho' : OpR X (compareOp op') r') (hR' : RD X.K r' R') (hm : lastMarks [op, op'] [b, c] = false)
    (h : ES X a σ M fun x M1 => ES X b σ M1 fun y M2 => R x y M2 fun d M3 => ∃ k, d = .bl k ∧ BQ k (ES X c σ M3 fun z M4 => R' y z M4 fun d M5 => ∃ k, d = .bl k ∧ Q k M5) (Q false M3)) : TT3 X (.Compare a [op, op'] [b, c] pos) σ M Q :=
  TT3.of (pt_chain ho ho' pe_sem pe_sem pe_sem hm) fun σv H S RM => h.go (H0 := H) S RM fun v H1 x M1 i1 R1 t1 q1 => q1.go (H0 := H) (S.mono i1) R1 fun u H2 y M2 i2 R2 t2 q2 => by
    refine hR H2 H2 M2 v u x y _ _ (Imm.refl _) R2 (Tp.mono i2 _ _ t1) t2 (fun w H3 d M3 i3 R3 t3 q3 => ?_) q2
    obtain ⟨k, rfl, q4⟩ := q3
    cases t3
    refine ⟨k, rfl, ?_⟩
    cases k with
    | true =>
      rw [if_pos rfl]
      refine (q4.1 rfl).go (H0 := H3) (S.mono ((i1.trans i2).trans i3)) R3 fun z H4 dz M4 i4 R4 t4 q5 => ?_
      refine hR' H H4 M4 u z y dz _ _ (((i1.trans i2).trans i3).trans i4) R4 (Tp.mono (i3.trans i4) _ _ t2) t4 (fun w H5 d M5 i5 R5 t5 q6 => ?_) q5
      obtain ⟨k', rfl, q6⟩ := q6
      cases t5
      exact ⟨k', rfl, i5, M5, R5, q6⟩
    | false =>
      rw [if_neg Bool.false_ne_true]
      exact ⟨false, rfl, (i1.trans i2).trans i3, M3, R3, q4.2 rfl⟩
/-- a <= b < c, ints -/
theorem t_leLt (h : ES X a σ M fun x M1 => ES X b σ M1 fun y M2 => RInt0 (fun i j => .bl (decide (i ≤ j))) x y M2 fun d M3 => ∃ k, d = .bl k ∧ BQ k (ES X c σ M3 fun z M4 => RInt0 (fun i j => .bl (decide (i < j))) y z M4 fun d M5 => ∃ k, d = .bl k ∧ Q k M5) (Q false M3)) (hm : lastMarks [.LtE, .Lt] [b, c] = false := by with_unfolding_all rfl) : TT3 X (.Compare a [.LtE, .Lt] [b, c] pos) σ M Q :=
  t_chain op_le rd_cmp0 op_lt rd_cmp0 hm h
end
end DL
set_option maxHeartbeats 1000000
namespace DL
open PySem L2 PySem.Spec PyProof.Rows
/-! isinstance of a caught error, a tuple of classes -/
def rIsET (K : PySem.W.Frag) (D₀ a : Addr) : List V → Hp → VK → Prop := fun xs H Q => ∃ (tp : Addr) (cs : List V) (us : List Value) (b : Bool), xs = [.ref a, .ref tp] ∧ SqT K H tp cs ∧ (∀ ws, Vals cs ws → ws = us) ∧ PySem.W.kitAny K (.ref D₀) us = some b ∧ Q (.bl b) H
theorem call_isET {X : Cx} {a D₀ : Addr} {oe : Obj} {pn : List (Addr × Obj)} (C : ExcC X.K D₀) (hz : Zc (.ref D₀) none oe) (hf : ∃ vs, oe.data = .fields vs) : CallR (X.suite a ((a, oe) :: pn)) (.builtin "isinstance") (rIsET X.K D₀ a) := by
  intro pins s σ H xs us Q I r h
  obtain ⟨tp, cs, ws, b, rfl, hT, hcv, e, q⟩ := h
  cases r with
  | cons rx rr =>
    cases rr with
    | cons rt rr =>
      cases rr
      cases rx
      cases rt
      obtain ⟨hget, _⟩ := I.pin (a, oe) (List.mem_append.mpr (.inl List.mem_cons_self))
      obtain ⟨vs, hv⟩ := hf
      have J : PySem.W.InstAt s.heap a oe D₀ none := by
        obtain ⟨oc, od, oda, osl⟩ := oe
        obtain ⟨h1, h2⟩ := hz
        dsimp only at h1 h2 hv
        subst h1 h2 hv
        exact ⟨hget, rfl, rfl, trivial⟩
      obtain ⟨its, rv, p, _⟩ := I.tuple hT
      have pt : s.heap.IsTuple tp its.toArray := p
      obtain ⟨o, h1, h2, n, h3⟩ := pt
      have e3 := hcv its rv
      subst e3
      obtain ⟨oc, od, dt, sl⟩ := o
      simp only at h2 h3
      subst h2 h3
      exact PySem.W.kia_tup (PySem.W.handS_kitx_exc C.hg C.hk C.hs C.hd C.ha C.hn C.ht C.hm) I.kIn J h1 e (fun z => nomatch z) fun tk => ⟨.bl b, H, I.kept (t' := tk) fun _ _ z => z, rfl, q⟩
def clsDs : List D → List Value → Prop
  | [], [] => True
  | c :: cs, u :: us => clsD c u ∧ clsDs cs us
  | _, _ => False
theorem clsDs_ok {K : PySem.W.Frag} {H : Hp} : ∀ {cs : List D} {us : List Value} {vs : List V} {ws : List Value}, clsDs cs us → Tps K H vs cs → Vals vs ws → ws = us
  | [], [], _, _, _, .nil, .nil => rfl
  | c :: cs, u :: us, _, _, h, .cons t ts, .cons r rs => by
    rw [clsDs_ok h.2 ts rs]
    have h1 := h.1
    cases t <;> first | exact False.elim h1 | skip
    case ref a => cases h1; cases r; rfl
    case ty n => cases h1; cases r; rfl
  | [], _ :: _, _, _, h, _, _ => h.elim
  | _ :: _, [], _, _, h, _, _ => h.elim
def RIsET (K : PySem.W.Frag) (D₀ a : Addr) : RA3 := fun ds M Q => match ds with
  | [.ref x, .tup cs] => x = a ∧ ∃ us b, clsDs cs us ∧ PySem.W.kitAny K (.ref D₀) us = some b ∧ Q (.bl b) M
  | _ => False
theorem rd_isET {K : PySem.W.Frag} {D₀ a : Addr} : RDA K (rIsET K D₀ a) (RIsET K D₀ a) := by
  intro H0 H M vs ds Q Q' i R t k q
  match ds, t, q with
  | [.ref x, .tup cs], t, q =>
    obtain ⟨hx, us, b, hc, hk, q1⟩ := q
    subst hx
    obtain ⟨v, u, rfl, r, r2⟩ := t.two
    cases r
    cases r2 with
    | tup hs ha => exact ⟨_, _, us, b, rfl, hs, fun ws hw => clsDs_ok hc ha hw, hk, k _ _ _ _ i R (.bl _) q1⟩
theorem e_isET {X : Cx} {σ : Sd} {M : Mp} {Q : QD} {pos p : Pos} {a : Addr} {D₀ : Addr} {oe : Obj} {pn : List (Addr × Obj)} {e1 e2 : Expr} (C : ExcC X.K D₀) (hz : Zc (.ref D₀) none oe) (hf : ∃ vs, oe.data = .fields vs) (hm : X.mg "isinstance" = none)
    (h : AS (X.suite a ((a, oe) :: pn)) [e1, e2] σ M fun ds M1 => RIsET X.K D₀ a ds M1 Q) (hg : Gl X "isinstance" := by rfl) (he : starEach [e1, e2] X.env = (false, eval e1 X.env) :: starEach [e2] X.env := by rfl) (he2 : (backTo pos (starEach [e2] X.env)).any (·.1) = false := by rfl) :
    ES (X.suite a ((a, oe) :: pn)) (.Call (.Name "isinstance" p) [e1, e2] [] pos) σ M Q := e_cb (X := X.suite a ((a, oe) :: pn)) (call_isET C hz hf) rd_isET hm (by decide +kernel) h hg (by decide) (by decide) he he2
end DL
set_option maxHeartbeats 1000000
namespace DL
open PySem L2 PySem.Spec PyProof.Rows
/-! dicts whose keys are ints and texts -/
section
variable {κ : Type} [DecidableEq κ]
def valD (kvs : List (κ × D)) (k : κ) : Option D := (kvs.find? fun kv => decide (kv.1 = k)).map (·.2)
def putD (kvs : List (κ × D)) (k : κ) (v : D) : List (κ × D) :=
  if (kvs.any fun kv => decide (kv.1 = k)) = true then kvs.map (fun kv => if kv.1 = k then (kv.1, v) else kv) else kvs ++ [(k, v)]
def dropD (kvs : List (κ × D)) (k : κ) : List (κ × D) := kvs.filter fun kv => decide (kv.1 ≠ k)
theorem valD_nil {k : κ} : valD ([] : List (κ × D)) k = none := rfl
theorem valD_pos {p : κ × D} {r : List (κ × D)} {k : κ} (e : p.1 = k) : valD (p :: r) k = some p.2 := by simp [valD, List.find?_cons, e]
theorem valD_neg {p : κ × D} {r : List (κ × D)} {k : κ} (e : ¬ p.1 = k) : valD (p :: r) k = valD r k := by simp [valD, List.find?_cons, e]
theorem valD_any (k : κ) : ∀ kvs : List (κ × D), (kvs.any fun kv => decide (kv.1 = k)) = (valD kvs k).isSome
  | [] => rfl
  | p :: r => by
    rw [List.any_cons]
    by_cases e : p.1 = k
    · simp only [valD_pos e, decide_eq_true e, Bool.true_or, Option.isSome_some]
    · rw [valD_neg e, decide_eq_false e, Bool.false_or]; exact valD_any k r
theorem putD_new {kvs : List (κ × D)} {k : κ} (v : D) (h : valD kvs k = none) : putD kvs k v = kvs ++ [(k, v)] := by
  unfold putD
  rw [valD_any, h]
  rfl
theorem putD_old {kvs : List (κ × D)} {k : κ} (v : D) (h : (valD kvs k).isSome = true) : putD kvs k v = kvs.map (fun kv => if kv.1 = k then (kv.1, v) else kv) := by
  unfold putD
  rw [valD_any, h]
  rfl
theorem length_putD (kvs : List (κ × D)) (k : κ) (v : D) : (putD kvs k v).length ≤ kvs.length + 1 := by
  unfold putD
  split
  · rw [List.length_map]; omega
  · rw [List.length_append]; simp
theorem valD_map (k j : κ) (y : D) : ∀ kvs : List (κ × D), valD (kvs.map fun kv => if kv.1 = k then (kv.1, y) else kv) j = (valD kvs j).map fun x => if j = k then y else x
  | [] => rfl
  | p :: r => by
    have ih := valD_map k j y r
    rw [List.map_cons]
    by_cases h : p.1 = k
    · rw [if_pos h]
      by_cases e : p.1 = j
      · rw [valD_pos (p := (p.1, y)) e, valD_pos e, Option.map_some, if_pos (e.symm.trans h)]
      · rw [valD_neg (p := (p.1, y)) e, valD_neg e, ih]
    · rw [if_neg h]
      by_cases e : p.1 = j
      · rw [valD_pos (p := p) e, valD_pos e, Option.map_some, if_neg (fun z => h (e.trans z))]
      · rw [valD_neg (p := p) e, valD_neg e, ih]
theorem valD_app (j : κ) (ls : List (κ × D)) : ∀ kvs : List (κ × D), valD (kvs ++ ls) j = (valD kvs j).or (valD ls j)
  | [] => by rw [List.nil_append, valD_nil]; rfl
  | p :: r => by
    rw [List.cons_append]
    by_cases e : p.1 = j
    · rw [valD_pos e, valD_pos e]; rfl
    · rw [valD_neg e, valD_neg e, valD_app j ls r]
theorem valD_put (kvs : List (κ × D)) (k j : κ) (y : D) : valD (putD kvs k y) j = if j = k then some y else valD kvs j := by
  cases h : valD kvs k with
  | none =>
    rw [putD_new y h, valD_app]
    by_cases e : j = k
    · subst e
      rw [h, if_pos rfl, valD_pos rfl]; rfl
    · rw [if_neg e, valD_neg (fun z => e z.symm), valD_nil]
      cases valD kvs j <;> rfl
  | some v =>
    rw [putD_old y (by rw [h]; rfl), valD_map]
    by_cases e : j = k
    · subst e
      rw [h, if_pos rfl]; simp
    · rw [if_neg e]
      simp only [if_neg e]
      cases valD kvs j <;> rfl
theorem valD_drop (k j : κ) : ∀ kvs : List (κ × D), valD (dropD kvs k) j = if j = k then none else valD kvs j
  | [] => by simp [dropD, valD]
  | p :: r => by
    have ih := valD_drop k j r
    unfold dropD at ih ⊢
    rw [List.filter_cons]
    by_cases h : p.1 = k
    · rw [if_neg (by simp [h]), ih]
      by_cases e : j = k
      · rw [if_pos e, if_pos e]
      · rw [if_neg e, if_neg e, valD_neg (fun z => e (z.symm.trans h))]
    · rw [if_pos (by simp [h])]
      by_cases e : p.1 = j
      · rw [valD_pos e, valD_pos e, if_neg (fun z => h (e.trans z))]
      · rw [valD_neg e, valD_neg e, ih]
theorem keys_put (kvs : List (κ × D)) (k : κ) (y : D) : (putD kvs k y).map (·.1) = if (valD kvs k).isSome = true then kvs.map (·.1) else kvs.map (·.1) ++ [k] := by
  cases h : valD kvs k with
  | none => rw [putD_new y h, List.map_append]; rfl
  | some v =>
    rw [putD_old y (by rw [h]; rfl), List.map_map]
    simp only [Option.isSome_some, if_true]
    refine List.map_congr_left fun p _ => ?_
    simp only [Function.comp]
    split <;> rfl
theorem valD_mem {kvs : List (κ × D)} {k : κ} {d : D} (h : valD kvs k = some d) : (k, d) ∈ kvs := by
  induction kvs with
  | nil => cases h
  | cons p r ih =>
    by_cases e : p.1 = k
    · rw [valD_pos e] at h
      cases h
      subst e
      exact List.mem_cons_self
    · rw [valD_neg e] at h
      exact List.mem_cons_of_mem _ (ih h)
theorem valD_some {kvs : List (κ × D)} {k : κ} (h : k ∈ kvs.map (·.1)) : ∃ d, valD kvs k = some d := by
  induction kvs with
  | nil => simp at h
  | cons p r ih =>
    by_cases e : p.1 = k
    · exact ⟨_, valD_pos e⟩
    · rw [valD_neg e]
      rw [List.map_cons, List.mem_cons] at h
      rcases h with h | h
      · exact absurd h.symm e
      · exact ih h
theorem valD_none {kvs : List (κ × D)} {k : κ} (h : k ∉ kvs.map (·.1)) : valD kvs k = none := by
  cases e : valD kvs k with
  | none => rfl
  | some d => exact absurd (List.mem_map.mpr ⟨_, valD_mem e, rfl⟩) h
variable {K : PySem.W.Frag} {H : Hp}
theorem KVs.val {k : κ} : ∀ {vs : List (κ × V)} {ds : List (κ × D)}, KVs K H vs ds → (∀ d, valD ds k = some d → ∃ v, valV vs k = some v ∧ Tp K H v d) ∧ (valD ds k = none → valV vs k = none)
  | _, _, .nil => ⟨(fun _ h => by cases h), fun _ => rfl⟩
  | _, _, .cons (k := k') (v := v) (vs := vs) (ds := ds) r t => by
    obtain ⟨h1, h2⟩ := KVs.val (k := k) t
    by_cases e : k' = k
    · refine ⟨fun d h => ?_, fun h => ?_⟩
      · rw [valD_pos (p := (k', _)) e] at h
        cases h
        exact ⟨_, valV_pos (p := (k', v)) e, r⟩
      · rw [valD_pos (p := (k', _)) e] at h
        cases h
    · rw [valD_neg (p := (k', _)) e, valV_neg (p := (k', _)) e]
      exact ⟨h1, h2⟩
theorem KVs.isSome {k : κ} {vs : List (κ × V)} {ds : List (κ × D)} (h : KVs K H vs ds) : (valV vs k).isSome = (valD ds k).isSome := by
  obtain ⟨h1, h2⟩ := KVs.val (k := k) h
  cases e : valD ds k with
  | none => rw [h2 e]; rfl
  | some d => obtain ⟨v, ev, _⟩ := h1 d e; rw [ev]; rfl
theorem KVs.app : ∀ {vs us : List (κ × V)} {ds es : List (κ × D)}, KVs K H vs ds → KVs K H us es → KVs K H (vs ++ us) (ds ++ es)
  | _, _, _, _, .nil, s => s
  | _, _, _, _, .cons r t, s => .cons r (KVs.app t s)
theorem KVs.repl {k : κ} {y : V} {d : D} (ry : Tp K H y d) : ∀ {vs : List (κ × V)} {ds : List (κ × D)}, KVs K H vs ds → KVs K H (vs.map fun kv => if kv.1 = k then (kv.1, y) else kv) (ds.map fun kv => if kv.1 = k then (kv.1, d) else kv)
  | _, _, .nil => .nil
  | _, _, .cons (k := k') r t => by
    rw [List.map_cons, List.map_cons]
    by_cases e : k' = k
    · simp only [if_pos e]
      exact .cons ry (KVs.repl ry t)
    · simp only [if_neg e]
      exact .cons r (KVs.repl ry t)
theorem KVs.any {k : κ} {vs : List (κ × V)} {ds : List (κ × D)} (h : KVs K H vs ds) : (vs.any fun kv => decide (kv.1 = k)) = (ds.any fun kv => decide (kv.1 = k)) := by
  rw [valV_any, valD_any, h.isSome]
theorem KVs.put {k : κ} {y : V} {d : D} {vs : List (κ × V)} {ds : List (κ × D)} (h : KVs K H vs ds) (ry : Tp K H y d) : KVs K H (putK vs k y) (putD ds k d) := by
  unfold putK putD
  rw [h.any]
  split
  · exact KVs.repl ry h
  · exact h.app (.cons ry .nil)
theorem KVs.drop {k : κ} : ∀ {vs : List (κ × V)} {ds : List (κ × D)}, KVs K H vs ds → KVs K H (dropK vs k) (dropD ds k)
  | _, _, .nil => .nil
  | _, _, .cons (k := k') r t => by
    unfold dropK dropD
    rw [List.filter_cons, List.filter_cons]
    by_cases e : k' = k
    · rw [if_neg (by simp [e]), if_neg (by simp [e])]
      exact KVs.drop t
    · rw [if_pos (by simp [e]), if_pos (by simp [e])]
      exact .cons r (KVs.drop t)
theorem KVs.keys : ∀ {vs : List (κ × V)} {ds : List (κ × D)}, KVs K H vs ds → vs.map (·.1) = ds.map (·.1)
  | _, _, .nil => rfl
  | _, _, .cons _ t => by rw [List.map_cons, List.map_cons, KVs.keys t]
end
/-- a key as data -/
def kD : Key → D
  | .inl i => .int i
  | .inr x => .str x
theorem tp_kD {K : PySem.W.Frag} {H : Hp} {v : V} {k : Key} (t : Tp K H v (kD k)) : v = kV k := by
  cases k <;> cases t <;> rfl
theorem tp_kV {K : PySem.W.Frag} {H : Hp} (k : Key) : Tp K H (kV k) (kD k) := by
  cases k
  · exact .int _
  · exact .str _
theorem tps_keys {K : PySem.W.Frag} {H : Hp} : ∀ {vs : List (Key × V)} {ds : List (Key × D)}, KVs K H vs ds → Tps K H (vs.map fun kv => kV kv.1) (ds.map fun kv => kD kv.1)
  | _, _, .nil => .nil
  | _, _, .cons (k := k) _ t => .cons (tp_kV k) (tps_keys t)
section
variable {X : Cx} {e o i value a b : Expr} {es : List Expr} {σ : Sd} {M : Mp} {Q : QD} {QB : Bool → Mp → Prop} {E : DE} {pos pos' p p2 tpos apos cpos mpos : Pos}
/-- d[k] -/
def RDGet : R3 := fun x y M Q => match x with
  | .ref a => ∃ kvs k d, M a = some (.dK kvs) ∧ y = kD k ∧ valD kvs k = some d ∧ Q d M
  | _ => False
theorem e_dget (hr : ∃ k, Room k X.A) (h : ES X o σ M fun x M1 => ES X i σ M1 fun y M2 => RDGet x y M2 Q) (hs : NoSl i := by exact fun _ _ => rfl) : ES X (.Subscript o i pos) σ M Q :=
  ES.of (pe_dget (by have := hr.choose_spec.units; omega) pe_sem pe_sem hs) fun σv H S R => h.go (H0 := H) S R fun v H1 x M1 i1 R1 t1 q1 => q1.go (H0 := H1) (S.mono i1) R1 fun u H2 y M2 i2 R2 t2 q2 => by
    have t1' := Tp.mono i2 _ _ t1
    cases t1' <;> first | exact False.elim q2 | skip
    case ref a =>
      obtain ⟨kvs, k, d, ea, rfl, ev, q⟩ := q2
      obtain ⟨_, eh, us, rfl, hk⟩ := R2 a _ ea
      obtain ⟨v, evv, tv⟩ := (hk.val (k := k)).1 d ev
      obtain rfl := tp_kD t2
      exact ⟨a, v, rfl, by rw [← evv]; exact DGet.k eh, i1.trans i2, d, M2, R2, tv, q⟩
def RDIn (neg : Bool) : R3 := fun y x M Q => match x with
  | .ref a => ∃ kvs k, M a = some (.dK kvs) ∧ y = kD k ∧ Q (.bl (if neg then !(valD kvs k).isSome else (valD kvs k).isSome)) M
  | _ => False
theorem din_go {H : Hp} {σv : L2.St} (h : ES X i σ M fun y M1 => ES X o σ M1 fun x M2 => RDIn false y x M2 (QBl QB)) (S : Slots X.K H σv σ) (R : RelM X.K M H) : tDIn (tE X i) (tE X o) σv H fun v H' => ∃ c, v = .bl c ∧ DB X.K H QB c H' :=
  h.go (H0 := H) S R fun v H1 y M1 i1 R1 t1 q1 => q1.go (H0 := H1) (S.mono i1) R1 fun u H2 x M2 i2 R2 t2 q2 => by
    have t1' := Tp.mono i2 _ _ t1
    cases t2 <;> first | exact False.elim q2 | skip
    case ref a =>
      obtain ⟨kvs, k, ea, rfl, q⟩ := q2
      obtain ⟨_, eh, us, rfl, hk⟩ := R2 a _ ea
      obtain rfl := tp_kD t1'
      exact ⟨a, _, rfl, DGet.k eh, _, rfl, i1.trans i2, M2, R2, by rw [hk.isSome]; exact q⟩
theorem dnin_go {H : Hp} {σv : L2.St} (h : ES X i σ M fun y M1 => ES X o σ M1 fun x M2 => RDIn true y x M2 (QBl QB)) (S : Slots X.K H σv σ) (R : RelM X.K M H) : tDNotIn (tE X i) (tE X o) σv H fun v H' => ∃ c, v = .bl c ∧ DB X.K H QB c H' :=
  h.go (H0 := H) S R fun v H1 y M1 i1 R1 t1 q1 => q1.go (H0 := H1) (S.mono i1) R1 fun u H2 x M2 i2 R2 t2 q2 => by
    have t1' := Tp.mono i2 _ _ t1
    cases t2 <;> first | exact False.elim q2 | skip
    case ref a =>
      obtain ⟨kvs, k, ea, rfl, q⟩ := q2
      obtain ⟨_, eh, us, rfl, hk⟩ := R2 a _ ea
      obtain rfl := tp_kD t1'
      exact ⟨a, _, rfl, DGet.k eh, _, rfl, i1.trans i2, M2, R2, by rw [hk.isSome]; exact q⟩
theorem t_din (hr : ∃ k, Room k X.A) (h : ES X i σ M fun y M1 => ES X o σ M1 fun x M2 => RDIn false y x M2 (QBl QB)) (hm : behindInMarks .In o = false := by rfl) : TT3 X (.Compare i [.In] [o] pos) σ M QB :=
  TT3.of (pt_cmp (pc_din (by have := hr.choose_spec.units; omega) pe_sem pe_sem) hm) fun σv H S R => din_go h S R
theorem t_dnin (hr : ∃ k, Room k X.A) (h : ES X i σ M fun y M1 => ES X o σ M1 fun x M2 => RDIn true y x M2 (QBl QB)) (hm : behindInMarks .NotIn o = false := by rfl) : TT3 X (.Compare i [.NotIn] [o] pos) σ M QB :=
  TT3.of (pt_cmp (pc_dnotin (by have := hr.choose_spec.units; omega) pe_sem pe_sem) hm) fun σv H S R => dnin_go h S R
/-- d[k] = v: v first, then d, k -/
def RDPut (x y v : D) (M : Mp) (Q : Mp → Prop) : Prop := match x with
  | .ref a => ∃ kvs k, M a = some (.dK kvs) ∧ y = kD k ∧ kvs.length < sizeLine ∧ SetM M a (.dK (putD kvs k v)) Q
  | _ => False
theorem s_dput (hr : ∃ k, Room k X.A) (h : ES X value σ M fun v M1 => ES X o σ M1 fun x M2 => ES X i σ M2 fun y M3 => RDPut x y v M3 fun M4 => E.nx σ M4) (hs : swapsWith value (some (.Subscript o i pos')) pos.line X.env = pure false := by rfl) : SS X (.Assign [.Subscript o i pos'] value pos) σ M E :=
  SS.of (ps_dput (by have := hr.choose_spec.units; omega) pe_sem pe_sem pe_sem hs) fun σv H S R => h.go (H0 := H) S R fun v H1 d M1 i1 R1 t1 q1 => q1.go (H0 := H1) (S.mono i1) R1 fun u H2 x M2 i2 R2 t2 q2 => q2.go (H0 := H2) ((S.mono i1).mono i2) R2 fun ky H3 y M3 i3 R3 t3 q3 => by
    have t2' := Tp.mono i3 _ _ t2
    cases t2' <;> first | exact False.elim q3 | skip
    case ref a =>
      obtain ⟨kvs, k, ea, rfl, hl, q⟩ := q3
      obtain ⟨_, eh, us, rfl, hk⟩ := R3 a _ ea
      obtain rfl := tp_kD t3
      have im : Imm H3 (upd H3 a (.dK (putK us k v))) := Imm.set eh (fun z => z)
      have ii := (i1.trans i2).trans i3
      exact ⟨a, _, rfl, DPut.k eh (by rw [hk.length]; exact hl), ii.trans im, σ, _, S.mono (ii.trans im), R3.set (m := .dK (putD kvs k d)) eh (fun z => z) ⟨_, rfl, (hk.mono im).put (Tp.mono ((i2.trans i3).trans im) _ _ t1)⟩, SetM.at q⟩
/-- del d[k] -/
def RDDel (x y : D) (M : Mp) (Q : Mp → Prop) : Prop := match x with
  | .ref a => ∃ kvs k, M a = some (.dK kvs) ∧ y = kD k ∧ (valD kvs k).isSome = true ∧ SetM M a (.dK (dropD kvs k)) Q
  | _ => False
theorem s_ddel (h : ES X o σ M fun x M1 => ES X i σ M1 fun y M2 => RDDel x y M2 fun M3 => E.nx σ M3) : SS X (.Delete [.Subscript o i tpos] pos) σ M E :=
  SS.of (ps_ddel pe_sem pe_sem) fun σv H S R => h.go (H0 := H) S R fun v H1 x M1 i1 R1 t1 q1 => q1.go (H0 := H1) (S.mono i1) R1 fun u H2 y M2 i2 R2 t2 q2 => by
    have t1' := Tp.mono i2 _ _ t1
    cases t1' <;> first | exact False.elim q2 | skip
    case ref a =>
      obtain ⟨kvs, k, ea, rfl, hk', q⟩ := q2
      obtain ⟨_, eh, us, rfl, hk⟩ := R2 a _ ea
      obtain rfl := tp_kD t2
      have im : Imm H2 (upd H2 a (.dK (dropK us k))) := Imm.set eh (fun z => z)
      have ii := (i1.trans i2).trans im
      exact ⟨a, us, k, rfl, eh, rfl, by rw [hk.isSome]; exact hk', ii, σ, _, S.mono ii, R2.set (m := .dK (dropD kvs k)) eh (fun z => z) ⟨_, rfl, (hk.mono im).drop⟩, SetM.at q⟩
/-- list(d) -/
def RListD : RA3 := fun ds M Q => match ds with
  | [.ref a] => ∃ kvs : List (Key × D), M a = some (.dK kvs) ∧ NewM M (.lst (kvs.map fun kv => kD kv.1)) fun p M' => Q (.ref p) M'
  | _ => False
theorem rd_listD {K : PySem.W.Frag} : RDA K rListD RListD := by
  intro H0 H M vs ds Q Q' i R t k q
  match ds, t, q with
  | [.ref a], t, q =>
    obtain ⟨v, rfl, r⟩ := t.one
    obtain ⟨kvs, e, q⟩ := q
    obtain ⟨_, ea, us, rfl, ha⟩ := R a _ e
    cases r
    exact ⟨a, us, rfl, ea, fun p hp => new_lst i R (tps_keys ha) k q p hp⟩
theorem e_listD (hm : X.mg "list" = none) (h : AS X [e] σ M fun ds M1 => RListD ds M1 Q) (hc : X.calm = true := by rfl) (hg : Gl X "list" := by rfl) (he : starEach [e] X.env = (false, eval e X.env) :: starEach [] X.env := by rfl) : ES X (.Call (.Name "list" p) [e] [] pos) σ M Q := e_ct (call_list_dK hc) rd_listD hm (by decide +kernel) h hg (by decide) (by decide) he rfl
/-- len(d) -/
def RLenD : RA3 := fun ds M Q => match ds with
  | [.ref a] => ∃ kvs : List (Key × D), M a = some (.dK kvs) ∧ Q (.int kvs.length) M
  | _ => False
theorem rd_lenD {K : PySem.W.Frag} : RDA K (fun xs H Q => ∃ a kvs, xs = [V.ref a] ∧ H a = some (.dK kvs) ∧ Q (.int kvs.length) H) RLenD := by
  intro H0 H M vs ds Q Q' i R t k q
  match ds, t, q with
  | [.ref a], t, q =>
    obtain ⟨v, rfl, r⟩ := t.one
    obtain ⟨kvs, e, q⟩ := q
    obtain ⟨_, ea, us, rfl, ha⟩ := R a _ e
    cases r
    exact ⟨a, us, rfl, ea, k _ _ _ _ i R (.int _) (by rw [ha.length]; exact q)⟩
theorem e_lenD (hm : X.mg "len" = none) (h : AS X [e] σ M fun ds M1 => RLenD ds M1 Q) (hg : Gl X "len" := by rfl) (he : starEach [e] X.env = (false, eval e X.env) :: starEach [] X.env := by rfl) : ES X (.Call (.Name "len" p) [e] [] pos) σ M Q := e_cb call_lenD rd_lenD hm PySem.boot_len h hg (by decide) (by decide) he rfl
/-- list(d.items()) -/
def RItemsL : D → Mp → QD → Prop := fun x M Q => match x with
  | .ref a => ∃ kvs : List (Key × D), M a = some (.dK kvs) ∧ NewM M (.lst (kvs.map fun kv => .tup [kD kv.1, kv.2])) fun p M' => Q (.ref p) M'
  | _ => False
theorem tps_items {K : PySem.W.Frag} {H : Hp} : ∀ {ts : List Addr} {vs : List (Key × V)} {ds : List (Key × D)}, Paired (fun (t : Addr) (q : Key × V) => H t = some (.tup [kV q.1, q.2])) ts vs → KVs K H vs ds → Tps K H (ts.map V.ref) (ds.map fun kv => .tup [kD kv.1, kv.2])
  | [], [], [], .nil, .nil => .nil
  | _ :: _, (k, _) :: _, (_, _) :: _, .cons h t, .cons r s => .cons (.tup (SqT.of h) (.cons (tp_kV k) (.cons r .nil))) (tps_items t s)
theorem e_listItems (hm : X.mg "list" = none) (h : ES X e σ M fun x M1 => RItemsL x M1 Q) (hc : X.calm = true := by rfl) (hg : Gl X "list" := by rfl) (hbase : attributeBase e "items" X.env (eval e X.env) = eval e X.env := by rfl) (hline : (apos.endLine == cpos.line) = true := by rfl)
    (hs : starEach [.Call (.Attribute e "items" apos) [] [] cpos] X.env = (false, eval (.Call (.Attribute e "items" apos) [] [] cpos) X.env) :: starEach [] X.env := by rfl) : ES X (.Call (.Name "list" p) [.Call (.Attribute e "items" apos) [] [] cpos] [] pos) σ M Q :=
  ES.of (LiI.pe_listItems hc pe_sem hg hm (by decide +kernel) hbase hline hs) fun σv H S R => h.go (H0 := H) S R fun v H1 x M1 i1 R1 t1 q1 => by
    cases t1 <;> first | exact False.elim q1 | skip
    case ref a =>
      obtain ⟨kvs, e, q⟩ := q1
      obtain ⟨_, ea, us, rfl, ha⟩ := R1 a _ e
      refine ⟨a, us, rfl, ea, fun H' p ts hK hp ht hpt hl hpr => ?_⟩
      have im : Imm H1 H' := fun b o eb _ => hK b o eb
      have R' : RelM X.K (updM M1 p (.lst (kvs.map fun kv => .tup [kD kv.1, kv.2]))) H' := fun b m eb => by
        by_cases hb : b = p
        · subst hb
          rw [updM_same] at eb
          cases eb
          exact ⟨_, hl, _, rfl, tps_items hpr (ha.mono im)⟩
        · rw [updM_ne hb] at eb
          obtain ⟨o, eo, ro⟩ := R1 b m eb
          exact ⟨o, hK b o eo, ro.mono im⟩
      exact ⟨i1.trans im, _, _, R', .ref p, NewM.at q (R1.fresh hp)⟩
end
end DL
set_option maxHeartbeats 1000000
namespace DL
open PySem L2 PySem.Spec PyProof.Rows
/-! calls with keywords, defs that may raise -/
def tK (X : Cx) (kws : List Keyword) : TA := fun σ H Q => ∀ pos pins s, Inv X pins σ H s → wpAny (model X.prog X.w) X.A (evalAll ((backToKw pos (keywordEach kws X.env)).map (·.2))) (AP X pins σ Q) X.xe s
structure KS (X : Cx) (kws : List Keyword) (σ : Sd) (M : Mp) (Q : List D → Mp → Prop) : Prop where
  run : ∀ σv H, Slots X.K H σv σ → RelM X.K M H → tK X kws σv H (DA X.K H Q)
section
variable {X : Cx} {e : Expr} {es : List Expr} {kws : List Keyword} {σ : Sd} {M : Mp} {Q : QD} {QA : List D → Mp → Prop} {W : WD} {pos p kpos : Pos} {nm : Option Str} {x : Str} {k : Nat} {ps ks : List Str}
theorem pk_sem : PK X kws (tK X kws) := ⟨fun pos pins s σ H Q I h => h pos pins s I⟩
theorem KS.of {t : TA} (h : PK X kws t) (q : ∀ σv H, Slots X.K H σv σ → RelM X.K M H → t σv H (DA X.K H QA)) : KS X kws σ M QA := ⟨fun σv H S R pos pins s I => h.run pos pins s σv H _ I (q σv H S R)⟩
theorem KS.go {H : Hp} {σv : L2.St} {Q' : List V → Hp → Prop} (h : KS X kws σ M QA) (S : Slots X.K H σv σ) (R : RelM X.K M H)
    (k : ∀ v H1 d M1, Imm H H1 → RelM X.K M1 H1 → Tps X.K H1 v d → QA d M1 → Q' v H1) : tK X kws σv H Q' := fun pos pins s I =>
  thn (h.run σv H S R pos pins s I) fun us s' ⟨vs, H', I', r, i, d, M1, R1, t, q⟩ => ⟨vs, H', I', r, k vs H' d M1 i R1 t q⟩
theorem k_nil (q : QA [] M) : KS X [] σ M QA := KS.of pk_nil fun σv H S R => ⟨Imm.refl H, [], M, R, .nil, q⟩
theorem k_cons (h : ES X e σ M fun d M1 => KS X kws σ M1 fun ds M2 => QA (d :: ds) M2) : KS X (⟨nm, e, kpos⟩ :: kws) σ M QA :=
  KS.of (pk_cons pe_sem pk_sem) fun σv H S R => h.go (H0 := H) S R fun v H1 d M1 i1 R1 t1 q1 => q1.go (S.mono i1) R1 fun vs H2 ds M2 i2 R2 t2 q2 => ⟨i1.trans i2, d :: ds, M2, R2, .cons (Tp.mono i2 _ _ t1) t2, q2⟩
/-- n positional values, then the keywords' in their order -/
def gN {α : Type} (n : Nat) (us ws : List α) : List α := if us.length = n then us ++ ws else []
theorem gN_eq {α : Type} {n : Nat} {us ws : List α} (h : us.length = n) : gN n us ws = us ++ ws := if_pos h
def KB (K : PySem.W.Frag) (fd : FuncData) (ps ks : List Str) (n : Nat) : Prop := KBinds K fd ps ks (gN n) (gN n)
theorem kb_of {K : PySem.W.Frag} {fd : FuncData} {ps ks : List Str} {n : Nat} (h0 : 0 < ps.length) (h : ∀ (s : Shared) (us ws : List Value), us.length = n → (us ++ ws).length = ps.length → BindsTo s fd ⟨us, ks.zip ws⟩ (ps.zip (us ++ ws))) : KB K fd ps ks n :=
  ⟨fun s us ws _ hl => by
    by_cases e : us.length = n
    · rw [gN_eq e] at hl ⊢
      exact h s us ws e hl
    · unfold gN at hl
      rw [if_neg e] at hl
      exact absurd hl (by rw [List.length_nil]; omega), fun {vs us zs ws} r1 r2 => by
    unfold gN
    rw [r1.length]
    split
    · exact r1.append r2
    · exact .nil⟩
theorem kb_fun {K : PySem.W.Frag} {x qual : Str} {st : Stmt} {f : Addr} {fd : FuncData} {ps ks : List Str} {n : Nat} (F : Fun K x qual st f fd) (h0 : 0 < ps.length)
    (h : ∀ (kV doc pm : Value) (an : Option Addr) (cdv ct : Value) (us ws : List Value), us.length = n → (us ++ ws).length = ps.length → bindArgs (PySem.W.fnOf x qual (defArgs st) (defBody st) (defScope st) .none kV doc pm an cdv ct) ⟨us, ks.zip ws⟩ = pure (ps.zip (us ++ ws))) : KB K fd ps ks n := by
  obtain ⟨oc, od, kV, doc, pm, an, cdv, ct, osl, rfl, lk, hcd⟩ := F.ex
  exact kb_of h0 fun s us ws h1 h2 => .of_eq (h kV doc pm an cdv ct us ws h1 h2)
/-- a def of the module that may raise, called with keywords ks -/
def CalleeKX (P : Program) (w : World) (K : PySem.W.Frag) (mg : Str → Option Value) (base : Heap) (x : Str) (k : Nat) (ps ks : List Str) (n : Nat) (sp4 : Sp4) : Prop :=
  ∃ f fd, FnOk P w K mg base (L2.CX P w) k f fd ps (spX K sp4) ∧ mg x = some (.ref f) ∧ PySem.W.keepIn K (.ref f) = true ∧ KB K fd ps ks n
def CalleeK (P : Program) (w : World) (K : PySem.W.Frag) (mg : Str → Option Value) (base : Heap) (x : Str) (k : Nat) (ps ks : List Str) (n : Nat) (sp3 : Sp3) : Prop :=
  ∃ f fd, FnOk P w K mg base CX0 k f fd ps (spD K sp3) ∧ mg x = some (.ref f) ∧ PySem.W.keepIn K (.ref f) = true ∧ KB K fd ps ks n
def tCallKS (n : Nat) (sp : Sp) (E : L2.St → XK) (t tk : TA) : TE := fun σ H Q => t σ H fun vs H1 => tk σ H1 fun zs H2 => sp (gN n vs zs) H2 Q (E σ)
theorem run_fnKS {n : Nat} {CX : CXT} {f : Addr} {fd : FuncData} {sp : Sp} {E : L2.St → XK} {σ : L2.St} {pins : List (Addr × Obj)} {H : Hp} {s : Shared} {Q : VK} {us ws : List Value} {vs zs : List V} (F : FnOk X.prog X.w X.K X.mg X.base CX k f fd ps sp) (hr : Room k X.A) (hb : KB X.K fd ps ks n) (hx : PassesAt CX X σ (E σ))
    (I : Inv X pins σ H s) (r : Vals vs us) (rz : Vals zs ws) (h : sp (gN n vs zs) H Q (E σ)) : wpAny (model X.prog X.w) X.A (call (.ref f) us (ks.zip ws)) (EP X pins σ Q) X.xe s := by
  have r2 := hb.rel r rz
  have hl : (gN n us ws).length = ps.length := by rw [← r2.length]; exact F.len _ _ _ _ h
  refine wpAny_call (codeAny_mono (F.run X.A X.stack s H ⟨us, ks.zip ws⟩ (gN n us ws) (gN n vs zs) Q (E σ) hr I.env0 (hb.to s us ws I.kIn hl) r2 h) fun r s' hq => ?_)
  cases r with
  | error e => exact hx pins H s e s' I hq
  | ok fl =>
    cases fl with
    | ret u => exact I.after hq
    | next => exact False.elim hq
    | brk => exact False.elim hq
    | cont => exact False.elim hq
theorem pe_callKS {n : Nat} {CX : CXT} {f : Addr} {fd : FuncData} {sp : Sp} {E : L2.St → XK} {t tk : TA} (F : FnOk X.prog X.w X.K X.mg X.base CX k f fd ps sp) (hr : Room k X.A) (hg : Gl X x) (hm : X.mg x = some (.ref f)) (hk : PySem.W.keepIn X.K (.ref f) = true) (hb : KB X.K fd ps ks n) (hx : ∀ σ, PassesAt CX X σ (E σ))
    (ha : PA X (e :: es) t) (hkw : PK X kws tk) (hall : (backToKw pos (keywordEach kws X.env)).all (·.1.isSome) = true) (hks : (backToKw pos (keywordEach kws X.env)).filterMap (·.1) = ks)
    (hdb : (x == ("__debug__" : Str)) = false) (he : starEach (e :: es) X.env = (false, eval e X.env) :: starEach es X.env)
    (hpl : ((backTo pos (starEach (e :: es) X.env)).any (·.1) || (backToKw pos (keywordEach kws X.env)).any (·.1.isNone)) = false) :
    PE X (.Call (.Name x p) (e :: es) kws pos) (tCallKS n sp E t tk) := by
  refine ⟨fun pins s σ H Q I h => ?_⟩
  refine wpAny_Call_Name_kw (ld_glob I hg hm ?_ hdb)
  refine PySem.W.callWith_KW (h₀ := X.base) I.ok.mod.kin hk hall (thn (ha.run pos pins s σ H _ I h) fun us s1 ⟨vs, H1, I1, r, q⟩ => ?_) hpl he
  refine thn (hkw.run pos pins s1 σ H1 _ I1 q) fun ws s2 ⟨zs, H2, I2, rz, q2⟩ => ⟨I2.kIn, ?_⟩
  rw [hks]
  exact run_fnKS F hr hb (hx σ) I2 r rz q2
theorem Tps.appD {K : PySem.W.Frag} {H : Hp} {vs us : List V} {ds es : List D} (h : Tps K H vs ds) (h2 : Tps K H us es) : Tps K H (vs ++ us) (ds ++ es) := h.append h2
theorem e_callKX {n : Nat} {sp4 : Sp4} (tk : TkD X W) (C : CalleeKX X.prog X.w X.K X.mg X.base x k ps ks n sp4) (hr : Room k X.A) (h : AS X (e :: es) σ M fun ds M1 => KS X kws σ M1 fun zs M2 => ∀ N, Mle M2 N → ds.length = n ∧ sp4 (ds ++ zs) N Q fun cls d M' => FixLe N M' ∧ W cls d σ M') (hg : Gl X x := by rfl) (hdb : (x == ("__debug__" : Str)) = false := by decide)
    (hall : (backToKw pos (keywordEach kws X.env)).all (·.1.isSome) = true := by rfl) (hks : (backToKw pos (keywordEach kws X.env)).filterMap (·.1) = ks := by rfl)
    (he : starEach (e :: es) X.env = (false, eval e X.env) :: starEach es X.env := by rfl) (hpl : ((backTo pos (starEach (e :: es) X.env)).any (·.1) || (backToKw pos (keywordEach kws X.env)).any (·.1.isNone)) = false := by rfl) : ES X (.Call (.Name x p) (e :: es) kws pos) σ M Q := by
  obtain ⟨f, fd, F, hm, hk, hb⟩ := C
  obtain ⟨Wv, tkv, hW⟩ := tk
  refine ES.of (pe_callKS F hr hg hm hk hb (fun σ => passAt tkv σ) pa_sem pk_sem hall hks hdb he hpl) fun σv H S R => h.go S R fun vs H1 ds M1 i1 R1 t1 q1 => q1.go (S.mono i1) R1 fun zs H2 dz M2 i2 R2 t2 q2 => ?_
  rw [gN_eq (by rw [t1.length]; exact (q2 M2 (Mle.refl M2)).1)]
  exact ⟨ds ++ dz, plus M2 H2, Q, _, (Tps.mono i2 _ _ t1).append t2, plus_rel R2, (q2 _ plus_le).2, fun v H3 d M3 i3 R3 t3 q3 => ⟨(i1.trans i2).trans i3, d, M3, R3, t3, q3⟩, fun cls d H' M' R' ⟨fx, w⟩ => hW cls d σv H' σ M' (S.mono ((i1.trans i2).trans (imm_of R2 fx R'))) R' w⟩
theorem e_callK {n : Nat} {sp3 : Sp3} (C : CalleeK X.prog X.w X.K X.mg X.base x k ps ks n sp3) (hr : Room k X.A) (h : AS X (e :: es) σ M fun ds M1 => KS X kws σ M1 fun zs M2 => ds.length = n ∧ sp3 (ds ++ zs) M2 Q) (hg : Gl X x := by rfl) (hdb : (x == ("__debug__" : Str)) = false := by decide)
    (hall : (backToKw pos (keywordEach kws X.env)).all (·.1.isSome) = true := by rfl) (hks : (backToKw pos (keywordEach kws X.env)).filterMap (·.1) = ks := by rfl)
    (he : starEach (e :: es) X.env = (false, eval e X.env) :: starEach es X.env := by rfl) (hpl : ((backTo pos (starEach (e :: es) X.env)).any (·.1) || (backToKw pos (keywordEach kws X.env)).any (·.1.isNone)) = false := by rfl) : ES X (.Call (.Name x p) (e :: es) kws pos) σ M Q := by
  obtain ⟨f, fd, F, hm, hk, hb⟩ := C
  refine ES.of (pe_callK F hr hg hm hk hb pass0 pa_sem pk_sem hall hks hdb he hpl) fun σv H S R => h.go S R fun vs H1 ds M1 i1 R1 t1 q1 => q1.go (S.mono i1) R1 fun zs H2 dz M2 i2 R2 t2 q2 => ?_
  rw [gN_eq (by rw [t1.length]; exact q2.1)]
  exact ⟨ds ++ dz, M2, Q, (Tps.mono i2 _ _ t1).append t2, R2, q2.2, fun v H3 d M3 i3 R3 t3 q3 => ⟨(i1.trans i2).trans i3, d, M3, R3, t3, q3⟩⟩
theorem calleeKX {P : Program} {w : World} {K : PySem.W.Frag} {mg : Str → Option Value} {base : Heap} {N ps ks : List Str} {x qual : Str} {st : Stmt} {f : Addr} {fd : FuncData} {k n : Nat} {sp4 : Sp4}
    (F : Fun K x qual st f fd) (S : FnScope N ps (defScope st)) (hm : mg x = some (.ref f)) (hb : KB K fd ps ks n) (len : ∀ ds M Q Ex, sp4 ds M Q Ex → ds.length = ps.length)
    (body : ∀ (cdv : Value) (A : Around) (outer : List Env) (s : Shared) (H : Hp) (E : XK), Room k (A.deeper (envOfC qual (defScope st) s.heap.objs.size f cdv)) → ∀ ds M Q (Ex : E3), sp4 ds M Q Ex →
      TkD (cxOf (L2.CX P w) P w K mg base N qual (defScope st) f cdv A outer s H E) (fun cls d _ M' => Ex cls d M') →
      SSs (cxOf (L2.CX P w) P w K mg base N qual (defScope st) f cdv A outer s H E) (defBody st) (startD N ds) M { nx := fun _ M' => Wk Q .non M', rt := Wk Q }) : CalleeKX P w K mg base x (k + 1) ps ks n sp4 := ⟨f, fd, fnX F S len body, hm, F.kp, hb⟩
theorem calleeK {P : Program} {w : World} {K : PySem.W.Frag} {mg : Str → Option Value} {base : Heap} {N ps ks : List Str} {x qual : Str} {st : Stmt} {f : Addr} {fd : FuncData} {k n : Nat} {sp3 : Sp3}
    (F : Fun K x qual st f fd) (S : FnScope N ps (defScope st)) (hm : mg x = some (.ref f)) (hb : KB K fd ps ks n) (len : ∀ ds M Q, sp3 ds M Q → ds.length = ps.length)
    (body : ∀ (cdv : Value) (A : Around) (outer : List Env) (s : Shared) (H : Hp) (E : XK), Room k (A.deeper (envOfC qual (defScope st) s.heap.objs.size f cdv)) → ∀ ds M Q, sp3 ds M Q →
      SSs (cxOf CX0 P w K mg base N qual (defScope st) f cdv A outer s H E).nox (defBody st) (startD N ds) M { nx := fun _ M' => Wk Q .non M', rt := Wk Q }) : CalleeK P w K mg base x (k + 1) ps ks n sp3 := ⟨f, fd, fn3 F S len body, hm, F.kp, hb⟩
end
end DL
set_option maxHeartbeats 1000000
namespace DL
open PySem L2 PySem.Spec PyProof.Rows
/-! try: several except clauses, with or without a name -/
abbrev ClT := Value × Option Nat × (Addr → Value → Option Addr → TS)
def setN (i : Option Nat) (a : Addr) (σ : L2.St) : L2.St := match i with
  | none => σ
  | some i => σ.set i (some (.ref a))
def goneN (i : Option Nat) (σ : L2.St) : L2.St := match i with
  | none => σ
  | some i => σ.set i none
def endsN (i : Option Nat) (D : Ends) : Ends := { nx := fun σ H => D.nx (goneN i σ) H, rt := D.rt, bk := fun σ H => D.bk (goneN i σ) H, ct := fun σ H => D.ct (goneN i σ) H }
/-- what the clauses, one after the other, wish of an exception of the body -/
def wCl (K : PySem.W.Frag) (Wout : WX) (D : Ends) : List ClT → WX
  | [] => Wout
  | c :: r => fun cls d σ H => ∃ b, PySem.W.exmOne K cls c.1 = some b ∧ (b = true → ∀ a, H a = none → c.2.2 a cls d (endsN c.2.1 D) (setN c.2.1 a σ) H) ∧ (b = false → wCl K Wout D r cls d σ H)
/-- the exception a, landed in the frame that catches it -/
structure Landed (X : Cx) (pins : List (Addr × Obj)) (σ : L2.St) (H : Hp) (a : Addr) (cls : Value) (d : Option Addr) (B : Heap) (sI s : Shared) : Prop where
  before : Inv X pins σ H sI
  now : Inv X pins σ H s
  old : ∀ b o, sI.heap.get? b = some o → b ∉ frs X.stack → B.get? b = some o
  up : sI.heap.UpToSlots s.heap
  fly : HandSPX.FlyingZ B (X.env :: X.outer) a (Zc cls d) s.heap
  out : H a = none
  os : s.os = sI.os
  bare : AllBare s.gens
section
variable {X : Cx} {pins : List (Addr × Obj)} {σ : L2.St} {H : Hp} {a : Addr} {cls : Value} {d : Option Addr} {B : Heap} {sI s : Shared}
theorem Landed.there (l : Landed X pins σ H a cls d B sI s) (hf : X.env.frame = some X.env.locals) : ∃ oe vs, s.heap.get? a = some oe ∧ Zc cls d oe ∧ oe.data = .fields vs ∧ a ≠ X.env.locals ∧ a ∉ X.fs := by
  obtain ⟨oe, vs, he, hz, hd⟩ := l.fly.there
  have off : a ∉ frs (X.env :: X.outer) := fun hm => by
    obtain ⟨_, o', e', hno⟩ := l.fly.2.2.1.mem hm
    rw [he] at e'
    cases e'
    exact hno _ hd
  refine ⟨oe, vs, he, hz, hd, fun z => off (List.mem_filterMap.mpr ⟨X.env, List.mem_cons_self, by rw [hf, z]⟩), fun hm => ?_⟩
  obtain ⟨e, h1, h2⟩ := List.mem_filterMap.mp hm
  exact off (List.mem_filterMap.mpr ⟨e, List.mem_cons_of_mem _ h1, h2⟩)
theorem Landed.suite (l : Landed X pins σ H a cls d B sI s) (hf : X.env.frame = some X.env.locals) : ∃ oe, Zc cls d oe ∧ (∃ vs, oe.data = .fields vs) ∧ s.heap.get? a = some oe ∧ Inv (X.suite a ((a, oe) :: (X.pn ++ pins))) [] σ H s := by
  obtain ⟨oe, vs, he, hz, hd, n1, n2⟩ := l.there hf
  exact ⟨oe, hz, ⟨vs, hd⟩, he, l.now.suite he hd l.out n1 n2⟩
/-- the clause's test -/
theorem Landed.test {x : Str} {c : Value} {b : Bool} {np : Pos} {Q : Bool → Shared → Prop} {E : Value → Shared → Prop} (l : Landed X pins σ H a cls d B sI s) (hf : X.env.frame = some X.env.locals) (hc : Names X x c) (hb : PySem.W.exmOne X.K cls c = some b) (q : Q b s) :
    wpAny (model X.prog X.w) (X.A.mark (some (.ref a))) (eval (.Name x np) X.env) (fun cv s1 => wpAny (model X.prog X.w) (X.A.mark (some (.ref a))) (excMatches (.ref a) cv) Q E s1) E s := by
  obtain ⟨oe, hz, _, he, I⟩ := l.suite hf
  have ty : PySem.W.Looks (model X.prog X.w) s.heap (typeOf (.ref a)) cls := fun A Q E s2 k q2 => wpAny_typeOf_ref (k _ _ he) (by rw [hz.1]; exact q2)
  have go : wpAny (model X.prog X.w) (X.A.mark (some (.ref a))) (excMatches (.ref a) c) Q E s := (PySem.W.exm_one (M := model X.prog X.w) l.now.kIn ty hb).here q
  obtain ⟨hg, hdb, hm | ⟨hm, hv, hn⟩⟩ := hc
  · exact ld_glob (X := X.suite a ((a, oe) :: (X.pn ++ pins))) I hg hm go hdb
  · exact ld_blt (X := X.suite a ((a, oe) :: (X.pn ++ pins))) I hg hm hv go hn hdb
/-- no clause fits -/
theorem Landed.on {Wout : WX} {D : Ends} (l : Landed X pins σ H a cls d B sI s) (hs : X.stack = X.env :: X.outer) (hf : X.env.frame = some X.env.locals) (tk : Takes X Wout) (w : Wout cls d σ H) :
    wpAny (model X.prog X.w) X.A (handleBy (.ref a) X.env []) (SP X pins D) X.xe s := by
  refine wpAny_handleBy_nil ?_
  obtain ⟨_, _, _, oe, vs, T, _, _, he, _, hd, h1, _⟩ := id l.fly
  unfold PySem.passOn
  refine wpAny_bind (wpAny_field he hd h1 ?_)
  rw [if_neg (by simp : ¬ (Value.ref T == Value.none) = true)]
  have last : wpAny (model X.prog X.w) X.A (setFlight (.ref a) X.env.frame) (fun _ s2 => wpAny (model X.prog X.w) X.A (throw (.ref a) : Sem Flow) (SP X pins D) X.xe s2) X.xe s := by
    rw [hf]
    exact HandSPX.setFlight_upZ l.fly fun h4 fl4 up4 => wpAny_throw (tk _ _ ⟨a, B, sI, pins, σ, H, cls, d, rfl, l.before, l.old, l.up.trans up4, .inr (.inr (by rw [hs]; exact fl4)), l.out, l.os, l.bare, w⟩)
  first
    | exact wpAny_bind (wpAny_pure (wpAny_bind last))
    | exact wpAny_bind last
theorem Landed.again {h4 : Heap} (l : Landed X pins σ H a cls d B sI s) (f : HandSPX.FlyingZ B (X.env :: X.outer) a (Zc cls d) h4) (u : s.heap.UpToSlots h4) : Landed X pins σ H a cls d B sI { s with heap := h4 } :=
  ⟨l.before, l.before.landed (s' := { s with heap := h4 }) l.old f.1 (l.up.trans u) l.os l.bare, l.old, l.up.trans u, f, l.out, l.os, l.bare⟩
end
inductive HdCl (X : Cx) : List ExceptHandler → List ClT → Prop
  | nil : HdCl X [] []
  | bare {x : Str} {c : Value} {ts : Addr → Value → Option Addr → TS} {b₀ : Stmt} {suite : List Stmt} {np pos' : Pos} {hds : List ExceptHandler} {l : List ClT} (hc : Names X x c)
      (hsu : ∀ (a : Addr) (oe : Obj) (cls : Value) (d : Option Addr) (pn : List (Addr × Obj)), Zc cls d oe → (∃ vs, oe.data = .fields vs) → PSs (X.suite a ((a, oe) :: pn)) (b₀ :: suite) (ts a cls d)) (r : HdCl X hds l) :
      HdCl X (.ExceptHandler (some (.Name x np)) none (b₀ :: suite) pos' :: hds) ((c, none, ts) :: l)
  | named {x n : Str} {c : Value} {i : Nat} {ts : Addr → Value → Option Addr → TS} {b₀ : Stmt} {suite : List Stmt} {np pos' : Pos} {hds : List ExceptHandler} {l : List ClT} (hN : X.N.Nodup) (hi : X.N[i]? = some n) (hln : X.env.kindOf n = some .local) (hc : Names X x c)
      (hsu : ∀ (a : Addr) (oe : Obj) (cls : Value) (d : Option Addr) (pn : List (Addr × Obj)), Zc cls d oe → (∃ vs, oe.data = .fields vs) → PSs (X.suite a ((a, oe) :: pn)) (b₀ :: suite) (ts a cls d)) (r : HdCl X hds l) :
      HdCl X (.ExceptHandler (some (.Name x np)) (some n) (b₀ :: suite) pos' :: hds) ((c, some i, ts) :: l)
theorem clauses {X : Cx} {pins : List (Addr × Obj)} {σ : L2.St} {H : Hp} {a : Addr} {cls : Value} {d : Option Addr} {B : Heap} {sI s : Shared} {Wout : WX} {D : Ends} (hs : X.stack = X.env :: X.outer) (hf : X.env.frame = some X.env.locals) (tk : Takes X Wout) (l : Landed X pins σ H a cls d B sI s) :
    ∀ {hds : List ExceptHandler} {cl : List ClT}, HdCl X hds cl → wCl X.K Wout D cl cls d σ H → wpAny (model X.prog X.w) X.A (handleBy (.ref a) X.env hds) (SP X pins D) X.xe s := by
  intro hds cl hk
  induction hk with
  | nil => exact fun w => l.on hs hf tk w
  | @bare x c ts b₀ suite np pos' hds cl hc hsu _ ih =>
    rintro ⟨b, hb, yes, no⟩
    refine wpAny_handleBy_cons (codeAny_handlers_test (l.test hf hc hb ?_)) (fun q => nomatch q)
    cases b with
    | false => exact ih (no rfl)
    | true =>
      refine codeAny_handlers_suite (HandSPX.lands_againZ l.fly fun h4 f4 u4 => ?_)
      obtain ⟨oe, hz, hd, _, I4⟩ := (l.again f4 u4).suite hf
      refine wpAny_mono ((hsu a oe cls d (X.pn ++ pins) hz hd).run [] _ σ H (endsN none D) I4 (yes rfl a l.out)) (fun f s6 sp => ?_) (fun _ _ z => z.elim)
      cases f with
      | next => exact let ⟨_, _, J, q⟩ := sp; ⟨_, _, J.unsuite l.now.ok, q⟩
      | brk => exact let ⟨_, _, J, q⟩ := sp; ⟨_, _, J.unsuite l.now.ok, q⟩
      | cont => exact let ⟨_, _, J, q⟩ := sp; ⟨_, _, J.unsuite l.now.ok, q⟩
      | ret u => exact let ⟨_, _, _, J, r, q⟩ := sp; ⟨_, _, _, J.unsuite l.now.ok, r, q⟩
  | @named x n c i ts b₀ suite np pos' hds cl hN hi hln hc hsu _ ih =>
    rintro ⟨b, hb, yes, no⟩
    refine wpAny_handleBy_cons (codeAny_handlers_test (l.test hf hc hb ?_)) (fun q => nomatch q)
    cases b with
    | false => exact ih (no rfl)
    | true =>
      refine codeAny_handlers_suite_as (HandSPX.lands_againZ l.fly fun h4 f4 u4 => ?_)
      obtain ⟨oe, hz, hd, _, I4⟩ := (l.again f4 u4).suite hf
      refine store_ok (X := X.suite a ((a, oe) :: (X.pn ++ pins))) (v := .ref a) I4 hN hi (.inl hln) rfl (fun s5 I5 => ?_) (.inr hln)
      refine wpAny_mono ((hsu a oe cls d (X.pn ++ pins) hz hd).run [] s5 _ H (endsN (some i) D) I5 (yes rfl a l.out)) (fun f s6 sp => ?_) (fun _ _ z => z.elim)
      have bye : ∀ {σ6 : L2.St} {H6 : Hp} {Q : Shared → Prop}, Inv (X.suite a ((a, oe) :: (X.pn ++ pins))) [] σ6 H6 s6 → (∀ s7, Inv X pins (σ6.set i none) H6 s7 → Q s7) →
          wpAny (model X.prog X.w) X.A (do bindName X.env n .none; unbindBehindTheSuite X.env n pos') (fun _ s7 => Q s7) X.xe s6 := fun J hq => gone_ok (J.unsuite l.now.ok) hN hi hln hq
      cases f with
      | next => exact let ⟨_, _, J, q⟩ := sp; bye J fun s7 J7 => ⟨_, _, J7, q⟩
      | brk => exact let ⟨_, _, J, q⟩ := sp; bye J fun s7 J7 => ⟨_, _, J7, q⟩
      | cont => exact let ⟨_, _, J, q⟩ := sp; bye J fun s7 J7 => ⟨_, _, J7, q⟩
      | ret u => exact let ⟨_, _, _, J, r, q⟩ := sp; bye J fun s7 J7 => ⟨_, _, _, J7, r, q⟩
theorem ps_tryCl {X : Cx} {body : List Stmt} {h₀ : ExceptHandler} {hds : List ExceptHandler} {cl : List ClT} {pos : Pos} {tb : WX → TS} {Wout : WX} (hs : X.stack = X.env :: X.outer) (hf : X.env.frame = some X.env.locals) (tk : Takes X Wout)
    (hb : ∀ (W : WX) (pn : List (Addr × Obj)) (xe : Value → Shared → Prop), Takes (X.tr pn xe) W → PSs (X.tr pn xe) body (tb W)) (hh : HdCl X (h₀ :: hds) cl) :
    PS X (.Try body (h₀ :: hds) [] [] pos) (fun D σ H => tb (wCl X.K Wout D cl) D σ H) := by
  refine ⟨fun pins s σ H D I h => wpAny_Try_except ?_⟩
  have ok := I.ok
  have fr : X.A.frames = some (X.env :: X.outer) := by rw [ok.frames, hs]
  refine wpAny_mono ((hb (wCl X.K Wout D cl) (X.pn ++ pins) (fun e s₁ => wpAny (model X.prog X.w) X.A (noteFrame e X.env) (fun _ s₂ => wpAny (model X.prog X.w) X.A (setFlight e none) (fun _ s₃ =>
    wpAny (model X.prog X.w) X.A (handleBy e X.env (h₀ :: hds)) (SP X pins D) X.xe s₃) X.xe s₂) X.xe s₁) ?_).run [] s σ H D (I.toTry _) h) (fun f s1 sp => ?_) (fun _ _ z => z)
  · rintro u s' ⟨a, B, sI, pins', σ', H', cls, d, rfl, J', old, up, sky, out, os, bare, w⟩
    have J : Inv X pins σ' H' sI := J'.ofTry ok
    refine Sky.land Zc.steady fr hf (by rw [← hs]; exact sky) fun h3 fl3 up3 => ?_
    exact clauses hs hf tk ⟨J, J.landed (s' := { s' with heap := h3 }) old fl3.1 (up.trans up3) os bare, old, up.trans up3, fl3, out, os, bare⟩ hh w
  · cases f with
    | next => exact let ⟨_, _, J, q⟩ := sp; wpAny_execs_nil ⟨_, _, J.ofTry ok, q⟩
    | brk => exact let ⟨_, _, J, q⟩ := sp; ⟨_, _, J.ofTry ok, q⟩
    | cont => exact let ⟨_, _, J, q⟩ := sp; ⟨_, _, J.ofTry ok, q⟩
    | ret u => exact let ⟨_, _, _, J, r, q⟩ := sp; ⟨_, _, _, J.ofTry ok, r, q⟩
end DL
set_option maxHeartbeats 1000000
namespace DL
open PySem L2 PySem.Spec PyProof.Rows
abbrev ClD := Value × Option Nat × List Stmt
def setS (i : Option Nat) (a : Addr) (σ : Sd) : Sd := match i with
  | none => σ
  | some i => σ.set i (some (.ref a))
def DE.unsetN (E : DE) (i : Option Nat) : DE := match i with
  | none => E
  | some i => E.unset i
def WClD (X : Cx) (E : DE) (W : WD) (N : Mp) : List ClD → WD
  | [] => fun cls d σ' M' => FixLe N M' ∧ W cls d σ' M'
  | c :: r => fun cls d σ' M' => ∃ b, PySem.W.exmOne X.K cls c.1 = some b ∧ FixLe N M' ∧
    (b = true → ∀ a oe pn, M' a = none → Zc cls d oe → (∃ vs, oe.data = .fields vs) → SSs (X.suite a ((a, oe) :: pn)) c.2.2 (setS c.2.1 a σ') M' (E.unsetN c.2.1)) ∧ (b = false → WClD X E W N r cls d σ' M')
def toCl (X : Cx) (c : ClD) : ClT := (c.1, c.2.1, fun a cls d D σ H => ∀ oe pn, Zc cls d oe → (∃ vs, oe.data = .fields vs) → tSs (X.suite a ((a, oe) :: pn)) c.2.2 D σ H)
inductive HdS (X : Cx) : List ExceptHandler → List ClD → Prop
  | nil : HdS X [] []
  | bare {x : Str} {c : Value} {b₀ : Stmt} {suite : List Stmt} {np pos' : Pos} {hds : List ExceptHandler} {l : List ClD} (hc : Names X x c) (r : HdS X hds l) : HdS X (.ExceptHandler (some (.Name x np)) none (b₀ :: suite) pos' :: hds) ((c, none, b₀ :: suite) :: l)
  | named {x n : Str} {c : Value} {b₀ : Stmt} {suite : List Stmt} {np pos' : Pos} {hds : List ExceptHandler} {l : List ClD} (i : Nat) (hN : X.N.Nodup) (hc : Names X x c) (r : HdS X hds l) (hi : X.N[i]? = some n := by rfl) (hln : X.env.kindOf n = some .local := by rfl) :
      HdS X (.ExceptHandler (some (.Name x np)) (some n) (b₀ :: suite) pos' :: hds) ((c, some i, b₀ :: suite) :: l)
theorem HdS.cl {X : Cx} {hds : List ExceptHandler} {l : List ClD} (h : HdS X hds l) : HdCl X hds (l.map (toCl X)) := by
  induction h with
  | nil => exact .nil
  | bare hc _ ih => exact .bare hc (fun a oe cls d pn hz hd => ⟨fun pins s σ H D I hw => pss_sem.run pins s σ H D I (hw oe pn hz hd)⟩) ih
  | named i hN hc _ hi hln ih => exact .named hN hi hln hc (fun a oe cls d pn hz hd => ⟨fun pins s σ H D I hw => pss_sem.run pins s σ H D I (hw oe pn hz hd)⟩) ih
theorem unsetN_ends {X : Cx} {E : DE} {i : Option Nat} {H H' : Hp} (im : Imm H H') : EndsLe ((E.unsetN i).ends X.K H') (endsN i (E.ends X.K H)) := by
  cases i with
  | none => exact DE.from im
  | some i => exact ⟨fun _ _ q => DN.unset im q, fun _ _ q => DQ.from im q, fun _ _ q => DN.unset im q, fun _ _ q => DN.unset im q⟩
theorem setS_slots {K : PySem.W.Frag} {H : Hp} {σv : L2.St} {σ : Sd} {i : Option Nat} {a : Addr} (S : Slots K H σv σ) : Slots K H (setN i a σv) (setS i a σ) := by
  cases i with
  | none => exact S
  | some i => exact S.set (.ref a) i
theorem wCl_of {X : Cx} {E : DE} {W : WD} {Wv : WX} {M : Mp} {H : Hp} (R : RelM X.K M H) (hW : ∀ cls d σv H σ M, Slots X.K H σv σ → RelM X.K M H → W cls d σ M → Wv cls d σv H) :
    ∀ (l : List ClD) (cls : Value) (d : Option Addr) (σv : L2.St) (H' : Hp) (σ' : Sd) (M' : Mp), Slots X.K H' σv σ' → RelM X.K M' H' → WClD X E W (plus M H) l cls d σ' M' → wCl X.K Wv (E.ends X.K H) (l.map (toCl X)) cls d σv H'
  | [], cls, d, σv, H', σ', M', S, R', w => hW cls d σv H' σ' M' S R' w.2
  | c :: r, cls, d, σv, H', σ', M', S, R', ⟨b, hb, fx, yes, no⟩ => ⟨b, hb, fun e a _ oe pn hz hd => ((yes e a oe pn (R'.fresh ‹_›) hz hd).run _ H' (setS_slots S) R').mono (unsetN_ends (imm_of R fx R')), fun e => wCl_of R hW r cls d σv H' σ' M' S R' (no e)⟩
theorem s_tryCl {X : Cx} {σ : Sd} {M : Mp} {E : DE} {W : WD} {pos : Pos} {body : List Stmt} {h₀ : ExceptHandler} {hds : List ExceptHandler} (cl : List ClD) (hh : HdS X (h₀ :: hds) cl) (tk : TkD X W)
    (h : ∀ N, Mle M N → ∀ pn xe, TkD (X.tr pn xe) (WClD X E W N cl) → SSs (X.tr pn xe) body σ N E)
    (hs : X.stack = X.env :: X.outer := by rfl) (hf : X.env.frame = some X.env.locals := by rfl) : SS X (.Try body (h₀ :: hds) [] [] pos) σ M E := by
  obtain ⟨Wv, tkv, hW⟩ := tk
  refine SS.of (ps_tryCl (tb := fun W' D σ H => ∀ pn xe, Takes (X.tr pn xe) W' → tSs (X.tr pn xe) body D σ H) hs hf tkv (fun W' pn xe t => ⟨fun pins s σ H D I hw => pss_sem.run pins s σ H D I (hw pn xe t)⟩) hh.cl) fun σv H S R pn xe t => ?_
  exact (h (plus M H) plus_le pn xe ⟨_, t, fun cls d σv' H' σ' M' S' R' w => wCl_of R hW cl cls d σv' H' σ' M' S' R' w⟩).run σv H S (plus_rel R)
/-! two lists that differ -/
def RNeL : R3 := fun x y M Q => match x, y with
  | .ref a, .ref b => ∃ xs ys : List D, M a = some (.lst xs) ∧ M b = some (.lst ys) ∧ (D.rol xs).shp = true ∧ (D.rol ys).shp = true ∧ Q (.bl (!D.eqv (.rol xs) (.rol ys))) M
  | _, _ => False
theorem rd_neL {K : PySem.W.Frag} : RD K (rNeD K) RNeL := by
  intro H0 H M vx vy x y Q Q' i R tx ty k q
  cases tx <;> first | exact False.elim q | skip
  case ref a =>
    cases ty <;> first | exact False.elim q | skip
    case ref b =>
      obtain ⟨xs, ys, e1, e2, s1, s2, q⟩ := q
      obtain ⟨_, ea, us, rfl, ha⟩ := R a _ e1
      obtain ⟨_, eb, ws, rfl, hb⟩ := R b _ e2
      unfold D.shp at s1 s2
      rw [Bool.and_eq_true] at s1 s2
      exact ⟨_, _, .lst (SqL.of ea) (Tps.dp _ _ (by simpa only [D.pure] using s1.1) ha), .lst (SqL.of eb) (Tps.dp _ _ (by simpa only [D.pure] using s2.1) hb), s1.2, s2.2, k _ _ _ _ i R (.bl _) q⟩
theorem t_neL {X : Cx} {a b : Expr} {σ : Sd} {M : Mp} {QB : Bool → Mp → Prop} {pos : Pos} (hr : ∃ k, Room k X.A) (h : ES X a σ M fun x M1 => ES X b σ M1 fun y M2 => RNeL x y M2 (QBl QB)) : TT3 X (.Compare a [.NotEq] [b] pos) σ M QB := t_cmp (op_neD hr.choose_spec.units) rd_neL (nomark _) h
theorem t_eqL {X : Cx} {a b : Expr} {σ : Sd} {M : Mp} {QB : Bool → Mp → Prop} {pos : Pos} (hr : ∃ k, Room k X.A) (h : ES X a σ M fun x M1 => ES X b σ M1 fun y M2 => REqL x y M2 (QBl QB)) : TT3 X (.Compare a [.Eq] [b] pos) σ M QB := t_cmp (op_eqD hr.choose_spec.units) rd_eqL (nomark _) h
mutual
theorem py_refl : ∀ d : D, PyData.eqv d.py d.py = true
  | .non => by simp [D.py, PyData.eqv]
  | .bl b => by simp [D.py, PyData.eqv]
  | .int i => by simp [D.py, PyData.eqv]
  | .str x => by simp [D.py, PyData.eqv]
  | .ref _ => by simp [D.py, PyData.eqv]
  | .ty _ => by simp [D.py, PyData.eqv]
  | .tup l => by simpa [D.py, PyData.eqv] using pys_refl l
  | .rol l => by simpa [D.py, PyData.eqv] using pys_refl l
theorem pys_refl : ∀ l : List D, PyData.eqvAll (D.pys l) (D.pys l) = true
  | [] => by simp [D.pys, PyData.eqvAll]
  | d :: r => by simp [D.pys, PyData.eqvAll, py_refl d, pys_refl r]
end
theorem eqv_refl (d : D) : D.eqv d d = true := py_refl d
theorem shp_rol {l : List D} {n : Nat} (h : ∀ d ∈ l, d.shn n = true) (hn : n ≤ 63) : (D.rol l).shp = true := by
  have := shp_tup h hn
  unfold D.shp SeqAt.shaped at this ⊢
  simpa [D.pure, D.py, PyData.canLay0, PyData.depth] using this
end DL
set_option maxHeartbeats 1000000
namespace DL
open PySem L2 PySem.Spec PyProof.Rows
/-! instances: attributes, methods, making -/
def putFD (f : Str) (v : D) : List (Str × D) → List (Str × D)
  | [] => [(f, v)]
  | p :: r => if p.1 = f then (p.1, v) :: r else p :: putFD f v r
theorem KVs.putF {K : PySem.W.Frag} {H : Hp} {f : Str} {y : V} {d : D} (ry : Tp K H y d) : ∀ {vs : List (Str × V)} {ds : List (Str × D)}, KVs K H vs ds → KVs K H (L2.putF f y vs) (putFD f d ds)
  | _, _, .nil => .cons ry .nil
  | _, _, .cons (k := g) (v := v) (vs := vs) (d := e) (ds := ds) r t => by
    show KVs K H (if g = f then (g, y) :: vs else (g, v) :: L2.putF f y vs) (if g = f then (g, d) :: ds else (g, e) :: putFD f d ds)
    split
    · exact .cons ry t
    · exact .cons r (KVs.putF ry t)
theorem KVs.look {K : PySem.W.Frag} {H : Hp} {f : Str} : ∀ {vs : List (Str × V)} {ds : List (Str × D)}, KVs K H vs ds → (∀ d, ds.lookup f = some d → ∃ v, vs.lookup f = some v ∧ Tp K H v d) ∧ (ds.lookup f = none → vs.lookup f = none)
  | _, _, .nil => ⟨(fun _ h => by cases h), fun _ => rfl⟩
  | _, _, .cons (k := g) r t => by
    obtain ⟨h1, h2⟩ := KVs.look (f := f) t
    rw [List.lookup_cons, List.lookup_cons]
    cases hb : (f == g) with
    | true => exact ⟨fun d h => by cases h; exact ⟨_, rfl, r⟩, fun h => by cases h⟩
    | false => exact ⟨h1, h2⟩
theorem length_putFD (f : Str) (v : D) : ∀ l : List (Str × D), (putFD f v l).length ≤ l.length + 1
  | [] => by simp [putFD]
  | p :: r => by
    have := length_putFD f v r
    simp only [putFD]
    split <;> simp <;> omega
section
variable {X : Cx} {e o value : Expr} {es : List Expr} {σ : Sd} {M : Mp} {Q : QD} {E : DE} {pos pos' p apos : Pos} {f m x : Str} {k : Nat} {ps : List Str} {C : Addr}
/-- e.f -/
def RFld (K : PySem.W.Frag) (f : Str) : D → Mp → QD → Prop := fun x M Q => match x with
  | .ref a => ∃ C dx fs d, M a = some (.ins C dx fs) ∧ Cls K C ∧ NoAttr K C f ∧ fs.lookup f = some d ∧ Q d M
  | _ => False
theorem e_fld (h : ES X e σ M fun x M1 => RFld X.K f x M1 Q) (hb : attributeBase e f X.env (eval e X.env) = eval e X.env := by rfl) : ES X (.Attribute e f pos) σ M Q :=
  ES.of (pe_fld pe_sem hb) fun σv H S R => h.go (H0 := H) S R fun v H1 x M1 i1 R1 t1 q1 => by
    cases t1 <;> first | exact False.elim q1 | skip
    case ref a =>
      obtain ⟨C, dx, fs, d, ea, c, n, l, q⟩ := q1
      obtain ⟨_, eh, gs, rfl, hk⟩ := R1 a _ ea
      obtain ⟨v, lv, tv⟩ := (hk.look (f := f)).1 d l
      exact ⟨a, C, dx, gs, v, rfl, eh, c, n, lv, i1, d, M1, R1, tv, q⟩
/-- o.f = value -/
def RFSet (K : PySem.W.Frag) (f : Str) : D → D → Mp → (Mp → Prop) → Prop := fun x v M Q => match x with
  | .ref a => ∃ C dx fs, M a = some (.ins C dx fs) ∧ Cls K C ∧ NoAttr K C f ∧ fs.length < 1000 ∧ SetM M a (.ins C dx (putFD f v fs)) Q
  | _ => False
theorem s_fld (h : ES X value σ M fun v M1 => ES X o σ M1 fun x M2 => RFSet X.K f x v M2 fun M3 => E.nx σ M3) (hs : swapsWith value (some (.Attribute o f pos')) pos.line X.env = pure false := by rfl) : SS X (.Assign [.Attribute o f pos'] value pos) σ M E :=
  SS.of (ps_fld pe_sem pe_sem hs) fun σv H S R => h.go (H0 := H) S R fun v H1 d M1 i1 R1 t1 q1 => q1.go (H0 := H1) (S.mono i1) R1 fun u H2 x M2 i2 R2 t2 q2 => by
    cases t2 <;> first | exact False.elim q2 | skip
    case ref a =>
      obtain ⟨C, dx, fs, ea, c, n, hl, q⟩ := q2
      obtain ⟨_, eh, gs, rfl, hk⟩ := R2 a _ ea
      have im : Imm H2 (upd H2 a (.ins C dx (L2.putF f v gs))) := Imm.set eh (fun z => z)
      have ii := (i1.trans i2).trans im
      exact ⟨a, C, dx, gs, rfl, eh, c, n, by rw [hk.length]; exact hl, ii, σ, _, S.mono ii, R2.set (m := .ins C dx (putFD f d fs)) eh (fun z => z) ⟨_, rfl, KVs.putF (Tp.mono (i2.trans im) _ _ t1) (hk.mono im)⟩, SetM.at q⟩
/-- a method of the class at C and what it promises (self first) -/
def CalleeM (P : Program) (w : World) (K : PySem.W.Frag) (mg : Str → Option Value) (base : Heap) (C : Addr) (m : Str) (k : Nat) (ps : List Str) (sp3 : Sp3) : Prop :=
  ∃ g fd, FnOk P w K mg base CX0 k g fd ps (spD K sp3) ∧ Meth K C m g ∧ Binds K fd ps []
def CalleeMX (P : Program) (w : World) (K : PySem.W.Frag) (mg : Str → Option Value) (base : Heap) (C : Addr) (m : Str) (k : Nat) (ps : List Str) (sp4 : Sp4) : Prop :=
  ∃ g fd, FnOk P w K mg base (L2.CX P w) k g fd ps (spX K sp4) ∧ Meth K C m g ∧ Binds K fd ps []
theorem e_meth {sp3 : Sp3} {pl : Sem Bool} (c : Cls X.K C) (F : CalleeM X.prog X.w X.K X.mg X.base C m k ps sp3) (hr : Room k X.A) (h : ES X o σ M fun x M1 => ∃ a dx fs, x = .ref a ∧ M1 a = some (.ins C dx fs) ∧ fs.lookup m = none ∧ AS X (e :: es) σ M1 fun ds M2 => sp3 (x :: ds) M2 Q)
    (hst : starEach (e :: es) X.env = (false, eval e X.env) :: starEach es X.env := by rfl) (hpl : (backTo pos (starEach es X.env)).any (·.1) = false := by rfl)
    (ht : eval (.Call (.Attribute o m apos) (e :: es) [] pos) X.env = (do
      let ov ← eval o X.env
      standAt apos.atName
      let (f, first) ← holding [ov] (getMethod ov m pl)
      callWith pos f first (backTo pos (starEach (e :: es) X.env)) (backToKw pos (keywordEach [] X.env))) := by rfl) : ES X (.Call (.Attribute o m apos) (e :: es) [] pos) σ M Q := by
  obtain ⟨g, fd, F, hm, hb⟩ := F
  refine ES.of (pe_meth pe_sem c hm F hr hb .nil pass0 pa_sem hst hpl ht) fun σv H S R => h.go (H0 := H) S R fun v H1 x M1 i1 R1 t1 ⟨a, dx, fs, ex, ea, l, q1⟩ => ?_
  subst ex
  obtain ⟨_, eh, gs, rfl, hk⟩ := R1 a _ ea
  cases t1
  refine ⟨a, dx, gs, rfl, eh, (hk.look (f := m)).2 l, q1.go (S.mono i1) R1 fun vs H2 ds M2 i2 R2 t2 q2 => ?_⟩
  rw [List.append_nil]
  exact ⟨.ref a :: ds, M2, Q, .cons (.ref a) t2, R2, q2, fun v H3 d M3 i3 R3 t3 q3 => ⟨(i1.trans i2).trans i3, d, M3, R3, t3, q3⟩⟩
theorem e_meth0 {sp3 : Sp3} {pl : Sem Bool} (c : Cls X.K C) (F : CalleeM X.prog X.w X.K X.mg X.base C m k ps sp3) (hr : Room k X.A) (h : ES X o σ M fun x M1 => ∃ a dx fs, x = .ref a ∧ M1 a = some (.ins C dx fs) ∧ fs.lookup m = none ∧ sp3 [x] M1 Q)
    (ht : eval (.Call (.Attribute o m apos) [] [] pos) X.env = (do
      let ov ← eval o X.env
      standAt apos.atName
      let (f, first) ← holding [ov] (getMethod ov m pl)
      callWith pos f first (backTo pos (starEach [] X.env)) (backToKw pos (keywordEach [] X.env))) := by rfl) : ES X (.Call (.Attribute o m apos) [] [] pos) σ M Q := by
  obtain ⟨g, fd, F, hm, hb⟩ := F
  refine ES.of (pe_meth0 pe_sem c hm F hr hb .nil pass0 ht) fun σv H S R => h.go (H0 := H) S R fun v H1 x M1 i1 R1 t1 ⟨a, dx, fs, ex, ea, l, q1⟩ => ?_
  subst ex
  obtain ⟨_, eh, gs, rfl, hk⟩ := R1 a _ ea
  cases t1
  exact ⟨a, dx, gs, rfl, eh, (hk.look (f := m)).2 l, [.ref a], M1, Q, .cons (.ref a) .nil, R1, q1, fun v H3 d M3 i3 R3 t3 q3 => ⟨i1.trans i3, d, M3, R3, t3, q3⟩⟩
/-- a class and its __init__ -/
def CalleeI (P : Program) (w : World) (K : PySem.W.Frag) (mg : Str → Option Value) (base : Heap) (x : Str) (C : Addr) (k : Nat) (ps : List Str) (sp3 : Sp3) : Prop :=
  ∃ g fd, FnOk P w K mg base CX0 k g fd ps (spD K sp3) ∧ Mk K C g ∧ Binds K fd ps [] ∧ mg x = some (.ref C)
/-- what a new instance asks of __init__ -/
def NewI (sp3 : Sp3) (C : Addr) (ds : List D) (M : Mp) (Q : QD) : Prop := ∀ a dx M', M a = none → M dx = none → dx ≠ a → M' a = some (.ins C dx []) → M' dx = some (.own a) → Mle M M' → sp3 (.ref a :: ds) M' fun v M2 => v = .non ∧ Q (.ref a) M2
theorem newI_at {X : Cx} {sp3 : Sp3} {C x dx : Addr} {ds : List D} {vs : List V} {M : Mp} {Q : QD} {H0 H : Hp} (i0 : Imm H0 H) (R : RelM X.K M H) (t : Tps X.K H vs ds) (q : NewI sp3 C ds M Q) (nx : H x = none) (nd : H dx = none) (ne : dx ≠ x) :
    spD X.K sp3 (.ref x :: (vs ++ [])) (upd (upd H dx (.own x)) x (.ins C dx [])) (fun v H2 => v = .non ∧ DQ X.K H0 Q (.ref x) H2) fun _ _ _ => False := by
  have i1 : Imm H (upd H dx (.own x)) := Imm.new nd
  have nx' : upd H dx (.own x) x = none := by rw [upd_ne (Ne.symm ne)]; exact nx
  have i2 : Imm (upd H dx (.own x)) (upd (upd H dx (.own x)) x (.ins C dx [])) := Imm.new nx'
  have R1 := R.new (m := .own x) (o := .own x) nd rfl
  have R2 := R1.new (m := .ins C dx []) (o := .ins C dx []) nx' ⟨[], rfl, .nil⟩
  have fx : M x = none := R.fresh nx
  have fd : M dx = none := R.fresh nd
  rw [List.append_nil]
  refine ⟨.ref x :: ds, _, fun v M2 => v = .non ∧ Q (.ref x) M2, .cons (.ref x) (Tps.mono (i1.trans i2) _ _ t), R2, q x dx _ fx fd ne updM_same (by rw [updM_ne ne, updM_same]) ((Mle.new fd).new2 fx), fun v H3 d M3 i3 R3 t3 ⟨e3, q3⟩ => ?_⟩
  subst e3
  cases t3
  exact ⟨rfl, ((i0.trans i1).trans i2).trans i3, _, M3, R3, .ref x, q3⟩
theorem e_make0 {sp3 : Sp3} (F : CalleeI X.prog X.w X.K X.mg X.base x C k ps sp3) (hr : Room (k + 1) X.A) (h : NewI sp3 C [] M Q) (hg : Gl X x := by rfl) (hdb : (x == ("__debug__" : Str)) = false := by decide) : ES X (.Call (.Name x p) [] [] pos) σ M Q := by
  obtain ⟨g, fd, F, M0, hb, hm⟩ := F
  exact ES.of (pe_make0 M0 F hr hg hm hb .nil pass0 hdb) fun σv H S R a dx na nd ne => newI_at (Imm.refl H) R (vs := []) .nil h na nd ne
theorem e_make {sp3 : Sp3} (F : CalleeI X.prog X.w X.K X.mg X.base x C k ps sp3) (hr : Room (k + 1) X.A) (h : AS X (e :: es) σ M fun ds M1 => NewI sp3 C ds M1 Q) (hg : Gl X x := by rfl) (hdb : (x == ("__debug__" : Str)) = false := by decide)
    (he : starEach (e :: es) X.env = (false, eval e X.env) :: starEach es X.env := by rfl) (hpl : (backTo pos (starEach es X.env)).any (·.1) = false := by rfl) : ES X (.Call (.Name x p) (e :: es) [] pos) σ M Q := by
  obtain ⟨g, fd, F, M0, hb, hm⟩ := F
  exact ES.of (pe_make M0 F hr hg hm hb .nil pass0 pa_sem hdb he hpl) fun σv H S R => h.go S R fun vs H1 ds M1 i1 R1 t1 q1 a dx na nd ne => newI_at i1 R1 t1 q1 na nd ne
end
end DL
set_option maxHeartbeats 1000000
namespace DL
open PySem L2 PySem.Spec PyProof.Rows
/-! list.insert, list.remove -/
def RIns : RM3 := fun x ds M Q => match x, ds with
  | .ref a, [.int i, d] => ∃ xs, M a = some (.lst xs) ∧ xs.length < sizeLine ∧ 0 ≤ i ∧ i < 2 ^ 63 ∧ SetM M a (.lst (xs.take i.toNat ++ [d] ++ xs.drop i.toNat)) (Q .non)
  | _, _ => False
theorem rd_ins {K : PySem.W.Frag} : RDM K (fun x vs H Q => ∃ (l : Addr) (xs : List V) (i : Int) (y : V), x = .ref l ∧ vs = [.int i, y] ∧ H l = some (.lst xs) ∧ xs.length < sizeLine ∧ 0 ≤ i ∧ i < 2 ^ 63 ∧ Q .non (upd H l (.lst (xs.take i.toNat ++ [y] ++ xs.drop i.toNat)))) RIns := by
  intro H0 H M vx vs x ds Q Q' i R tx t k q
  match x, ds, tx, t, q with
  | .ref a, [.int n, d], tx, t, q =>
    obtain ⟨xs, e, hz, h0, h1, q⟩ := q
    obtain ⟨_, ea, us, rfl, ha⟩ := R a _ e
    obtain ⟨v1, v2, rfl, r1, r2⟩ := t.two
    cases tx
    cases r1
    have im : Imm H (upd H a (.lst (us.take n.toNat ++ [v2] ++ us.drop n.toNat))) := Imm.set ea (fun z => z)
    have ha' := Tps.mono im _ _ ha
    exact ⟨a, us, n, v2, rfl, rfl, ea, by rw [ha.length]; exact hz, h0, h1, k _ _ _ _ (i.trans im) (R.set (m := .lst (xs.take n.toNat ++ [d] ++ xs.drop n.toNat)) ea (fun z => z) ⟨_, rfl, ((ha'.take _).append (.cons (Tp.mono im _ _ r2) .nil)).append (ha'.drop _)⟩) .non (SetM.at q)⟩
def RRem : RM3 := fun x ds M Q => match x, ds with
  | .ref a, [.int n] => ∃ (ns : List Int) (j : Nat), M a = some (.lst (ns.map D.int)) ∧ ns[j]? = some n ∧ (∀ m : Nat, m < j → ns[m]? ≠ some n) ∧ SetM M a (.lst ((ns.eraseIdx j).map D.int)) (Q .non)
  | _, _ => False
theorem rd_rem {K : PySem.W.Frag} : RDM K rRemI RRem := by
  intro H0 H M vx vs x ds Q Q' i R tx t k q
  match x, ds, tx, t, q with
  | .ref a, [.int n], tx, t, q =>
    obtain ⟨ns, j, e, hj, hno, q⟩ := q
    obtain ⟨_, ea, us, rfl, ha⟩ := R a _ e
    obtain ⟨v1, rfl, r1⟩ := t.one
    cases tx
    cases r1
    obtain rfl := tps_ints ha
    have im : Imm H (upd H a (.lst ((ns.eraseIdx j).map V.int))) := Imm.set ea (fun z => z)
    exact ⟨a, ns, n, j, rfl, rfl, ea, hj, hno, k _ _ _ _ (i.trans im) (R.set (m := .lst ((ns.eraseIdx j).map D.int)) ea (fun z => z) ⟨_, rfl, Tps.ints _⟩) .non (SetM.at q)⟩
end DL
set_option maxHeartbeats 1000000
namespace DL
open PySem L2 PySem.Spec PyProof.Rows
/-! x in a tuple, in a list: data of any depth; a dict display of one pair -/
section
variable {X : Cx} {K : PySem.W.Frag}
def rInT (K : PySem.W.Frag) (neg : Bool) : R2 := fun x y H Q => ∃ d ds, Dp K H x d ∧ Dp K H y (.tuple ds) ∧ SeqAt.shaped d = true ∧ SeqAt.shaped (.tuple ds) = true ∧ Q (.bl (if neg then !ds.any fun z => PyData.eqv z d else ds.any fun z => PyData.eqv z d)) H
theorem op_inT (hu : X.A.units + 65 < cLine) : OpR X (compareOp .In) (rInT X.K false) := by
  rintro pins s σ H x y v u Q I rx ry ⟨d, ds, hd, he, sd, se, q⟩
  obtain ⟨as, r1⟩ := Dp.reads I d x v hd rx
  obtain ⟨bs, r2⟩ := Dp.reads I (.tuple ds) y u he ry
  exact SeqAt.in_tuple_reads r2 r1 (SeqAt.canLay_of_shaped se) (SeqAt.canLay_of_shaped sd) (room_in_shaped sd hu) ⟨.bl (ds.any fun z => PyData.eqv z d), H, I, rfl, q⟩
theorem op_notInT (hu : X.A.units + 65 < cLine) : OpR X (compareOp .NotIn) (rInT X.K true) := by
  rintro pins s σ H x y v u Q I rx ry ⟨d, ds, hd, he, sd, se, q⟩
  obtain ⟨as, r1⟩ := Dp.reads I d x v hd rx
  obtain ⟨bs, r2⟩ := Dp.reads I (.tuple ds) y u he ry
  exact SeqAt.notIn_tuple_reads r2 r1 (SeqAt.canLay_of_shaped se) (SeqAt.canLay_of_shaped sd) (room_in_shaped sd hu) ⟨.bl (!ds.any fun z => PyData.eqv z d), H, I, rfl, q⟩
theorem pys_any (x : D) : ∀ l : List D, ((D.pys l).any fun z => PyData.eqv z x.py) = inD x l
  | [] => rfl
  | d :: r => by
    have ih := pys_any x r
    simp only [D.pys, List.any_cons, inD] at ih ⊢
    rw [ih]
    rfl
def RInDp (neg : Bool) : R3 := fun x y M Q => match y with
  | .tup ds => x.shp = true ∧ (D.tup ds).shp = true ∧ Q (.bl (if neg then !inD x ds else inD x ds)) M
  | .rol ds => x.shp = true ∧ (D.rol ds).shp = true ∧ Q (.bl (if neg then !inD x ds else inD x ds)) M
  | .ref a => ∃ ds, M a = some (.lst ds) ∧ x.shp = true ∧ (D.rol ds).shp = true ∧ Q (.bl (if neg then !inD x ds else inD x ds)) M
  | _ => False
theorem shp_two {d : D} (h : d.shp = true) : d.pure = true ∧ SeqAt.shaped d.py = true := by
  unfold D.shp at h
  simpa only [Bool.and_eq_true] using h
theorem rd_inDp : RD K (fun x y H Q => rInT K false x y H Q ∨ rInD K x y H Q) (RInDp false) := by
  intro H0 H M vx vy x y Q Q' i R tx ty k q
  cases ty with
  | tup hs ha =>
    obtain ⟨h1, h2, q⟩ := q
    obtain ⟨p1, s1⟩ := shp_two h1
    obtain ⟨p2, s2⟩ := shp_two h2
    exact .inl ⟨_, _, Tp.dp _ _ p1 tx, .tup hs (Tps.dp _ _ (by simpa only [D.pure] using p2) ha), s1, s2, k _ _ _ _ i R (.bl _) (by rw [pys_any]; exact q)⟩
  | rol hs ha =>
    obtain ⟨h1, h2, q⟩ := q
    obtain ⟨p1, s1⟩ := shp_two h1
    obtain ⟨p2, s2⟩ := shp_two h2
    exact .inr ⟨_, _, Tp.dp _ _ p1 tx, .lst hs.sq (Tps.dp _ _ (by simpa only [D.pure] using p2) ha), s1, s2, k _ _ _ _ i R (.bl _) (by rw [pys_any]; exact q)⟩
  | ref a =>
    obtain ⟨ds, e, h1, h2, q⟩ := q
    obtain ⟨_, ea, us, rfl, ha⟩ := R a _ e
    obtain ⟨p1, s1⟩ := shp_two h1
    obtain ⟨p2, s2⟩ := shp_two h2
    exact .inr ⟨_, _, Tp.dp _ _ p1 tx, .lst (SqL.of ea) (Tps.dp _ _ (by simpa only [D.pure] using p2) ha), s1, s2, k _ _ _ _ i R (.bl _) (by rw [pys_any]; exact q)⟩
  | _ => exact False.elim q
theorem rd_notInDp : RD K (fun x y H Q => rInT K true x y H Q ∨ rNotInD K x y H Q) (RInDp true) := by
  intro H0 H M vx vy x y Q Q' i R tx ty k q
  cases ty with
  | tup hs ha =>
    obtain ⟨h1, h2, q⟩ := q
    obtain ⟨p1, s1⟩ := shp_two h1
    obtain ⟨p2, s2⟩ := shp_two h2
    exact .inl ⟨_, _, Tp.dp _ _ p1 tx, .tup hs (Tps.dp _ _ (by simpa only [D.pure] using p2) ha), s1, s2, k _ _ _ _ i R (.bl _) (by rw [pys_any]; exact q)⟩
  | rol hs ha =>
    obtain ⟨h1, h2, q⟩ := q
    obtain ⟨p1, s1⟩ := shp_two h1
    obtain ⟨p2, s2⟩ := shp_two h2
    exact .inr ⟨_, _, Tp.dp _ _ p1 tx, .lst hs.sq (Tps.dp _ _ (by simpa only [D.pure] using p2) ha), s1, s2, k _ _ _ _ i R (.bl _) (by rw [pys_any]; exact q)⟩
  | ref a =>
    obtain ⟨ds, e, h1, h2, q⟩ := q
    obtain ⟨_, ea, us, rfl, ha⟩ := R a _ e
    obtain ⟨p1, s1⟩ := shp_two h1
    obtain ⟨p2, s2⟩ := shp_two h2
    exact .inr ⟨_, _, Tp.dp _ _ p1 tx, .lst (SqL.of ea) (Tps.dp _ _ (by simpa only [D.pure] using p2) ha), s1, s2, k _ _ _ _ i R (.bl _) (by rw [pys_any]; exact q)⟩
  | _ => exact False.elim q
variable {a b : Expr} {σ : Sd} {M : Mp} {Q : QD} {QB : Bool → Mp → Prop} {pos : Pos}
theorem t_inDp (hr : ∃ k, Room k X.A) (h : ES X a σ M fun x M1 => ES X b σ M1 fun y M2 => RInDp false x y M2 (QBl QB)) (hm : behindInMarks .In b = false := by rfl) : TT3 X (.Compare a [.In] [b] pos) σ M QB :=
  t_cmp (OpR.or (op_inT (by have := hr.choose_spec.un; omega)) (op_inD (by have := hr.choose_spec.un; omega))) rd_inDp hm h
theorem e_inDp (hr : ∃ k, Room k X.A) (h : ES X a σ M fun x M1 => ES X b σ M1 fun y M2 => RInDp false x y M2 Q) (hm : behindInMarks .In b = false := by rfl) : ES X (.Compare a [.In] [b] pos) σ M Q :=
  e_cmp (OpR.or (op_inT (by have := hr.choose_spec.un; omega)) (op_inD (by have := hr.choose_spec.un; omega))) rd_inDp hm h
theorem t_notInDp (hr : ∃ k, Room k X.A) (h : ES X a σ M fun x M1 => ES X b σ M1 fun y M2 => RInDp true x y M2 (QBl QB)) (hm : behindInMarks .NotIn b = false := by rfl) : TT3 X (.Compare a [.NotIn] [b] pos) σ M QB :=
  t_cmp (OpR.or (op_notInT (by have := hr.choose_spec.un; omega)) (op_notInD (by have := hr.choose_spec.un; omega))) rd_notInDp hm h
/-- {k: v} -/
theorem e_disp1 {kx vx : Expr} (h : ∀ p M1, M p = none → M1 p = some (.dK []) → Mle M M1 → ES X kx σ M1 fun kd M2 => ES X vx σ M2 fun vd M3 => ∃ k, kd = kD k ∧ M3 p = some (.dK []) ∧ SetM M3 p (.dK [(k, vd)]) fun M4 => Q (.ref p) M4) : ES X (.Dict [some kx] [vx] pos) σ M Q :=
  ES.of (pe_disp (pps_cons pe_sem pe_sem pps_nil) rfl rfl (by simp) (by simp)) fun σv H S R p hp => by
    have im := Imm.new (o := .dK []) hp
    have R1 := R.new (m := .dK []) hp ⟨_, rfl, .nil⟩
    refine (h p _ (R.fresh hp) updM_same (Mle.new (R.fresh hp))).go (H0 := upd H p (.dK [])) (S.mono im) R1 fun v1 H1 kd M2 i1 R2 t1 q1 => ?_
    refine q1.go (H0 := H1) ((S.mono im).mono i1) R2 fun v2 H2 vd M3 i2 R3 t2 ⟨k, ek, ep, q⟩ => ?_
    subst ek
    obtain rfl := tp_kD t1
    obtain ⟨_, eh, us, rfl, hk⟩ := R3 p _ ep
    cases hk
    refine ⟨eh, [(k, v2)], rfl, by simp, ?_⟩
    have im2 : Imm H2 (upd H2 p (.dK [(k, v2)])) := Imm.set eh (fun z => z)
    exact ⟨((im.trans i1).trans i2).trans im2, _, _, R3.set (m := .dK [(k, vd)]) eh (fun z => z) ⟨_, rfl, .cons (Tp.mono im2 _ _ t2) .nil⟩, .ref p, SetM.at q⟩
end
end DL
set_option maxHeartbeats 1000000
namespace DL
open PySem L2 PySem.Spec PyProof.Rows
/-! ### texts: join, repeated texts, one sign in a text -/
section
variable {X : Cx} {o e a b : Expr} {σ : Sd} {M : Mp} {Q : QD} {QB : Bool → Mp → Prop} {pos apos : Pos}
/-- sep.join(a list | a tuple of texts) -/
def RJoin (a : Str) : D → Mp → QD → Prop := fun y M Q => ∃ ys : List Str, ((∃ p, y = .ref p ∧ M p = some (.lst (ys.map D.str))) ∨ y = .tup (ys.map D.str) ∨ y = .rol (ys.map D.str)) ∧ (ys.map (·.length)).sum + ys.length * a.length ≤ 16777216 ∧ Q (.str (Str.join a ys)) M
theorem e_join (h : ES X o σ M fun x M1 => ∃ a, x = .str a ∧ ES X e σ M1 fun y M2 => RJoin a y M2 Q) (hs : starEach [e] X.env = [(false, eval e X.env)] := by rfl)
    (hbase : attributeBase o "join" X.env (eval o X.env) = eval o X.env := by rfl) (hline : (apos.endLine == pos.line) = true := by rfl) : ES X (.Call (.Attribute o "join" apos) [e] [] pos) σ M Q :=
  ES.of (pe_join pe_sem pe_sem hs hbase hline) fun σv H S R => h.go (H0 := H) S R fun v H1 x M1 i1 R1 t1 ⟨a, ex, q1⟩ => by
    subst ex
    cases t1
    refine ⟨⟨a, rfl⟩, q1.go (H0 := H1) (S.mono i1) R1 fun u H2 y M2 i2 R2 t2 ⟨ys, hy, hz, q⟩ => ?_⟩
    have fin : ∀ p, (SqL X.K H2 p (ys.map V.str) ∨ SqT X.K H2 p (ys.map V.str)) → u = .ref p → ∃ a_1 p, ∃ ys : List Str, V.str a = .str a_1 ∧ [u] = [.ref p] ∧ (SqL X.K H2 p (ys.map V.str) ∨ SqT X.K H2 p (ys.map V.str)) ∧
      (ys.map (·.length)).sum + ys.length * a_1.length ≤ 16777216 ∧ DQ X.K H Q (.str (Txt.join a_1 ys)) H2 := fun p hp e => by
      subst e
      exact ⟨a, p, ys, rfl, rfl, hp, hz, i1.trans i2, _, M2, R2, .str _, by rw [TL.join_eq]; exact q⟩
    rcases hy with ⟨p, rfl, ep⟩ | rfl | rfl
    · obtain ⟨_, ea, us, rfl, ha⟩ := R2 p _ ep
      obtain rfl := tps_strs ha
      cases t2
      exact fin p (.inl (SqL.of ea)) rfl
    · cases t2 with
      | tup hs ha => obtain rfl := tps_strs ha; exact fin _ (.inr hs) rfl
    · cases t2 with
      | rol hs ha => obtain rfl := tps_strs ha; exact fin _ (.inl hs.sq) rfl
/-- a text, n times -/
def mulS (x : Str) (n : Nat) : Str := if (n : Int) < 1 then Str.empty else if ((n : Int) == 1 || x.length == 0) = true then x else ⟨(List.replicate n x.cps).foldl (· ++ ·) #[]⟩
theorem mulS_len (x : Str) (n : Nat) : (mulS x n).length ≤ x.length * n := by
  have key : ∀ (m : Nat) (acc : Array Nat), ((List.replicate m x.cps).foldl (· ++ ·) acc).size = acc.size + x.length * m := by
    intro m
    induction m with
    | zero => intro acc; simp
    | succ m ih =>
      intro acc
      rw [List.replicate_succ, List.foldl_cons, ih, Array.size_append, Nat.mul_succ]
      simp only [Str.length]
      omega
  unfold mulS
  split
  · exact Nat.zero_le _
  · split
    · rename_i h1 h2
      exact Nat.le_mul_of_pos_right _ (by omega)
    · rw [Str.length]
      dsimp only
      rw [key]
      simp
def RMulS : R3 := fun x y M Q => ∃ (a : Str) (n : Nat), x = .str a ∧ y = .int (n : Int) ∧ a.length ≤ 1000 ∧ n ≤ 1000 ∧ Q (.str (mulS a n)) M
theorem op_mulS : OpR X (binaryOp .Mult) (fun x y H Q => ∃ (a : Str) (n : Nat), x = .str a ∧ y = .int (n : Int) ∧ a.length ≤ 1000 ∧ n ≤ 1000 ∧ Q (.str (mulS a n)) H) := by
  intro pins s σ H x y v u Q I rx ry h
  obtain ⟨a, n, rfl, rfl, h1, h2, q⟩ := h
  obtain ⟨t, rfl⟩ := rx
  obtain ⟨t', rfl⟩ := ry
  have hp : a.length * n ≤ 1000000 := by
    have := Nat.mul_le_mul h1 h2
    omega
  have hl := mulS_len a n
  refine PySem.P.mul_str (by rw [Bool.or_eq_false_iff, decide_eq_false_iff_not, decide_eq_false_iff_not]; omega) (fun h3 h4 => ?_) (fun _ _ => ?_) ?_
  · have hp' : (a.length : Int) * (n : Int) ≤ 2 ^ 63 - 1 := by rw [← Int.natCast_mul]; omega
    have := Int.le_ediv_of_mul_le (c := (n : Int)) (by omega) hp'
    omega
  · unfold Builtin.Str.tooLong
    rw [decide_eq_false_iff_not, sizeLine_eq]
    rw [Int.toNat_natCast]
    omega
  · unfold mulS at q hl
    split
    · rename_i h3
      rw [if_pos h3] at q
      exact ⟨by decide, ⟨V.str Str.empty, H, I.tok _, ⟨_, rfl⟩, q⟩⟩
    · rename_i h3
      rw [if_neg h3] at q hl
      split
      · rename_i h4
        rw [if_pos h4] at q
        exact ⟨V.str a, H, I, ⟨_, rfl⟩, q⟩
      · rename_i h4
        rw [if_neg h4] at q hl
        rw [Int.toNat_natCast]
        exact ⟨by rw [sizeLine_eq]; omega, ⟨V.str ⟨(List.replicate n a.cps).foldl (· ++ ·) #[]⟩, H, I.tok _, ⟨_, rfl⟩, q⟩⟩
theorem rd_mulS {K : PySem.W.Frag} : RD K (fun x y H Q => ∃ (a : Str) (n : Nat), x = .str a ∧ y = .int (n : Int) ∧ a.length ≤ 1000 ∧ n ≤ 1000 ∧ Q (.str (mulS a n)) H) RMulS := by
  intro H0 H M vx vy x y Q Q' i R tx ty k q
  obtain ⟨a, n, rfl, rfl, h1, h2, q⟩ := q
  cases tx
  cases ty
  exact ⟨a, n, rfl, rfl, h1, h2, k _ _ _ _ i R (.str _) q⟩
theorem e_mulS (h : ES X a σ M fun x M1 => ES X b σ M1 fun y M2 => RMulS x y M2 Q) : ES X (.BinOp a .Mult b pos) σ M Q := e_op op_mulS rd_mulS h
/-- one sign in a text -/
def RInSg (neg : Bool) : R3 := fun x y M Q => ∃ (c : Nat) (z : Str), x = .str ⟨#[c]⟩ ∧ y = .str z ∧ Q (.bl (if neg then !decide (c ∈ z.cps.toList) else decide (c ∈ z.cps.toList))) M
theorem rd_inSg {K : PySem.W.Frag} : RD K (fun x y H Q => ∃ (c : Nat) (z : Str), x = .str ⟨#[c]⟩ ∧ y = .str z ∧ Q (.bl (decide (c ∈ z.cps.toList))) H) (RInSg false) := by
  intro H0 H M vx vy x y Q Q' i R tx ty k q
  obtain ⟨c, z, rfl, rfl, q⟩ := q
  cases tx
  cases ty
  exact ⟨c, z, rfl, rfl, k _ _ _ _ i R (.bl _) q⟩
theorem e_inSg (h : ES X a σ M fun x M1 => ES X b σ M1 fun y M2 => RInSg false x y M2 Q) (hm : behindInMarks .In b = false := by rfl) : ES X (.Compare a [.In] [b] pos) σ M Q := e_cmp op_in_sign rd_inSg hm h
theorem t_inSg (h : ES X a σ M fun x M1 => ES X b σ M1 fun y M2 => RInSg false x y M2 (QBl QB)) (hm : behindInMarks .In b = false := by rfl) : TT3 X (.Compare a [.In] [b] pos) σ M QB := t_cmp op_in_sign rd_inSg hm h
end
end DL
set_option maxHeartbeats 1000000
namespace DL
open PySem L2 PySem.Spec PyProof.Rows
/-! ### str of an int or of a text -/
def strD : D → Str
  | .int i => ((toString i : String) : Str)
  | .str x => x
  | _ => ""
def RStrD : RA3 := fun ds M Q => match ds with
  | [.int i] => i.natAbs.log2 < 1920 ∧ Q (.str (strD (.int i))) M
  | [.str x] => Q (.str x) M
  | _ => False
section
variable {X : Cx} {K : PySem.W.Frag} {e : Expr} {σ : Sd} {M : Mp} {Q : QD} {pos p : Pos}
theorem call_str_any : CallR X (.type "str") (fun xs H Q => (∃ i : Int, xs = [.int i] ∧ i.natAbs.log2 < 1920 ∧ Q (.str (toString i)) H) ∨ ∃ a, xs = [.str a] ∧ Q (.str a) H) := by
  intro pins s σ H xs us Q I r h
  rcases h with h | h
  · exact call_str_int pins s σ H xs us Q I r h
  · exact SkE.call_str_str pins s σ H xs us Q I r h
theorem rd_strD : RDA K (fun xs H Q => (∃ i : Int, xs = [.int i] ∧ i.natAbs.log2 < 1920 ∧ Q (.str (toString i)) H) ∨ ∃ a, xs = [.str a] ∧ Q (.str a) H) RStrD := by
  intro H0 H M vs ds Q Q' i R t k q
  match ds, t, q with
  | [.int n], t, q =>
    obtain ⟨v, rfl, r⟩ := t.one
    cases r
    exact .inl ⟨_, rfl, q.1, k _ _ _ _ i R (.str _) q.2⟩
  | [.str x], t, q =>
    obtain ⟨v, rfl, r⟩ := t.one
    cases r
    exact .inr ⟨_, rfl, k _ _ _ _ i R (.str _) q⟩
theorem e_strD (hm : X.mg "str" = none) (h : AS X [e] σ M fun ds M1 => RStrD ds M1 Q) (hg : Gl X "str" := by rfl) (he : starEach [e] X.env = (false, eval e X.env) :: starEach [] X.env := by rfl) : ES X (.Call (.Name "str" p) [e] [] pos) σ M Q := e_ct call_str_any rd_strD hm (by decide +kernel) h hg (by decide) (by decide) he rfl
end
/-- // by a larger divisor -/
theorem e_fdivW {X : Cx} {a b : Expr} {σ : Sd} {M : Mp} {Q : QD} {pos : Pos} (h : ES X a σ M fun x M1 => ES X b σ M1 fun y M2 => RInt CDivW (fun i j => .int (i / j)) x y M2 Q) : ES X (.BinOp a .FloorDiv b pos) σ M Q := e_op op_fdivW rd_int h
theorem divW {j : Int} (h0 : 0 < j) (h : j < 20000000000) (i : Int) : CDivW i j := by
  refine ⟨h0, ?_⟩
  have : j.natAbs.log2 < 40 := (Nat.log2_lt (by omega)).mpr (by omega)
  omega
/-- a number's text -/
theorem num_text (i : Int) : (∃ c cs, (strD (.int i)).cps.toList = c :: cs ∧ (c = 45 ∨ (48 ≤ c ∧ c ≤ 57))) := by
  have nat : ∀ n : Nat, ∃ c cs, TL.tl (Str.ofString (Nat.repr n)) = c :: cs ∧ (48 ≤ c ∧ c ≤ 57) := fun n => by
    have e : TL.tl (Str.ofString (Nat.repr n)) = TL.numL n := TL.tl_num n
    have hd := TL.numL_digits n
    have hne : TL.numL n ≠ [] := by
      unfold TL.numL
      intro h
      exact Nat.toDigits_ne_nil (List.map_eq_nil_iff.mp h)
    rw [e]
    cases h : TL.numL n with
    | nil => exact absurd h hne
    | cons c cs => exact ⟨c, cs, rfl, hd c (by rw [h]; exact List.mem_cons_self)⟩
  cases i with
  | ofNat n =>
    obtain ⟨c, cs, e, h⟩ := nat n
    exact ⟨c, cs, e, .inr h⟩
  | negSucc m =>
    refine ⟨45, ((Nat.repr (m + 1)).toList.map Char.toNat), ?_, .inl rfl⟩
    show TL.tl (Str.ofString ("-" ++ Nat.repr (m + 1))) = _
    rw [TL.tl_ofString, String.toList_append, List.map_append]
    rfl
theorem num_len {i : Int} (h : i.natAbs < 10 ^ 20) : (strD (.int i)).length ≤ 21 := by
  have := int_text_length_le10 (a := i) (k := 20) (by decide) h
  have e : (Str.ofString (toString i)).length = (toString i).length := by
    rw [TL.len_tl, TL.tl_ofString, List.length_map, String.length_toList]
  show (Str.ofString (toString i)).length ≤ 21
  omega
end DL
set_option maxHeartbeats 1000000
namespace DL
open PySem L2 PySem.Spec PyProof.Rows
/-! ### o.f += e; the signs of a text walked; int(text); texts, numbers and tuples of texts of a module -/
section
variable {X : Cx} {e o value a : Expr} {es : List Expr} {σ : Sd} {M : Mp} {Q : QD} {E : DE} {pos pos' p apos tpos : Pos} {f x : Str}
theorem s_faug (h : ES X o σ M fun x M1 => ∃ a C dx fs d, x = .ref a ∧ M1 a = some (.ins C dx fs) ∧ Cls X.K C ∧ NoAttr X.K C f ∧ fs.lookup f = some d ∧
      ES X value σ M1 fun y M2 => RInt0 (fun i j => .int (i + j)) d y M2 fun z M3 => ∃ dx' fs', M3 a = some (.ins C dx' fs') ∧ fs'.length < 1000 ∧ SetM M3 a (.ins C dx' (putFD f z fs')) fun M4 => E.nx σ M4) : SS X (.AugAssign (.Attribute o f tpos) .Add value pos) σ M E :=
  SS.of (ps_fldaug pe_sem pe_sem in_add) fun σv H S R => h.go (H0 := H) S R fun v H1 x M1 i1 R1 t1 ⟨a, C, dx, fs, d, ex, ea, c, n, l, q1⟩ => by
    subst ex
    obtain ⟨_, eh, gs, rfl, hk⟩ := R1 a _ ea
    obtain ⟨u, lu, tu⟩ := (hk.look (f := f)).1 d l
    cases t1
    refine ⟨a, C, dx, gs, u, rfl, eh, c, n, lu, q1.go (H0 := H1) (S.mono i1) R1 fun y H2 yd M2 i2 R2 t2 q2 => ?_⟩
    cases tu <;> first | exact False.elim q2 | skip
    case int i =>
      cases t2 <;> first | exact False.elim q2 | skip
      case int j =>
        obtain ⟨dx', fs', ea', l', q⟩ := q2
        obtain ⟨_, eh', gs', rfl, hk'⟩ := R2 a _ ea'
        have im : Imm H2 (upd H2 a (.ins C dx' (L2.putF f (.int (i + j)) gs'))) := Imm.set eh' (fun z => z)
        have ii := (i1.trans i2).trans im
        exact ⟨i, j, rfl, rfl, dx', gs', eh', by rw [hk'.length]; exact l', ii, σ, _, S.mono ii, R2.set (m := .ins C dx' (putFD f (.int (i + j)) fs')) eh' (fun z => z) ⟨_, rfl, KVs.putF (.int _) (hk'.mono im)⟩, SetM.at q⟩
def chD (x : Str) : List D := x.cps.toList.map fun c => .str ⟨#[c]⟩
theorem wk_S {K : PySem.W.Frag} {H1 : Hp} {x : Str} : WalkD K H1 (Its x) (chD x) (fun _ => True) where
  goes := fun i H M im R _ hi => by
    unfold chD at hi
    rw [List.length_map, Array.length_toList] at hi
    exact hi
  stops := fun H M im R _ => by
    unfold chD
    rw [List.length_map, Array.length_toList]
    exact Nat.le_refl _
  yields := fun i H M y H' d im R _ hd z => by
    obtain ⟨e, c, hc, ey⟩ := z
    subst e ey
    unfold chD at hd
    rw [List.getElem?_map] at hd
    have : x.cps.toList[i]? = some c := by simpa using hc
    rw [this] at hd
    cases hd
    exact ⟨Imm.refl _, R, .str _⟩
theorem i_str {tg : Expr} {R : List D → (Mp → Prop) → Mp → Prop} (h : ES X a σ M fun d M1 => ∃ x, d = .str x ∧ R (chD x) (fun _ => True) M1) : IS X tg a σ M R :=
  IS.of (pi_str pe_sem) fun σv H S RM => h.go (H0 := H) S RM fun v H1 d M1 i1 R1 t1 ⟨x, e, q⟩ => by
    subst e
    cases t1
    exact ⟨x, rfl, i1, _, _, M1, R1, wk_S, q⟩
theorem chD_get {x : Str} {i : Nat} {d : D} (h : (chD x)[i]? = some d) : ∃ c, x.cps.toList[i]? = some c ∧ d = .str ⟨#[c]⟩ := by
  unfold chD at h
  rw [List.getElem?_map] at h
  cases hx : x.cps.toList[i]? with
  | none => rw [hx] at h; cases h
  | some c => rw [hx] at h; cases h; exact ⟨c, rfl, rfl⟩
theorem chD_len (x : Str) : (chD x).length = x.length := by
  unfold chD
  rw [List.length_map, Array.length_toList]
  rfl
theorem rd_notInSg {K : PySem.W.Frag} : RD K (fun x y H Q => ∃ (c : Nat) (z : Str), x = .str ⟨#[c]⟩ ∧ y = .str z ∧ Q (.bl (!decide (c ∈ z.cps.toList))) H) (RInSg true) := by
  intro H0 H M vx vy x y Q Q' i R tx ty k q
  obtain ⟨c, z, rfl, rfl, q⟩ := q
  cases tx
  cases ty
  exact ⟨c, z, rfl, rfl, k _ _ _ _ i R (.bl _) q⟩
theorem t_notInSg {b : Expr} {QB : Bool → Mp → Prop} (h : ES X a σ M fun x M1 => ES X b σ M1 fun y M2 => RInSg true x y M2 (QBl QB)) (hm : behindInMarks .NotIn b = false := by rfl) : TT3 X (.Compare a [.NotIn] [b] pos) σ M QB := t_cmp op_notIn_sign rd_notInSg hm h
/-- int(text) -/
def RIntS : RA3 := fun ds M Q => match ds with
  | [.str x] => ∃ n, PySem.intText? x = some n ∧ x.length ≤ 640 ∧ Q (.int n) M
  | _ => False
theorem rd_intS {K : PySem.W.Frag} : RDA K (fun xs H Q => ∃ a n, xs = [.str a] ∧ PySem.intText? a = some n ∧ a.length ≤ 640 ∧ Q (.int n) H) RIntS := by
  intro H0 H M vs ds Q Q' i R t k q
  match ds, t, q with
  | [.str x], t, ⟨n, h1, h2, q⟩ =>
    obtain ⟨v, rfl, r⟩ := t.one
    cases r
    exact ⟨x, n, rfl, h1, h2, k _ _ _ _ i R (.int _) q⟩
theorem e_intS (hm : X.mg "int" = none) (h : AS X [e] σ M fun ds M1 => RIntS ds M1 Q) (hg : Gl X "int" := by rfl) (he : starEach [e] X.env = (false, eval e X.env) :: starEach [] X.env := by rfl) : ES X (.Call (.Name "int" p) [e] [] pos) σ M Q := e_ct call_int_str rd_intS hm (by decide +kernel) h hg (by decide) (by decide) he rfl
/-- a module's text, a module's number -/
def ConS (mg : Str → Option Value) (x : Str) (y : Str) : Prop := ∃ u, mg x = some (.str y u)
def ConI (mg : Str → Option Value) (x : Str) (y : Int) : Prop := ∃ u, mg x = some (.int y u)
theorem e_conS {y : Str} (C : ConS X.mg x y) (q : Q (.str y) M) (hg : Gl X x := by rfl) (hdb : (x == ("__debug__" : Str)) = false := by decide) : ES X (.Name x pos) σ M Q := by
  obtain ⟨u, hm⟩ := C
  exact e_glob (v := .str y) hm ⟨_, rfl⟩ (fun H => .str y) q hg hdb
theorem e_conI {y : Int} (C : ConI X.mg x y) (q : Q (.int y) M) (hg : Gl X x := by rfl) (hdb : (x == ("__debug__" : Str)) = false := by decide) : ES X (.Name x pos) σ M Q := by
  obtain ⟨u, hm⟩ := C
  exact e_glob (v := .int y) hm ⟨_, rfl⟩ (fun H => .int y) q hg hdb
end
theorem vals_strs : ∀ {ps : List (Str × Nat)}, Vals (ps.map fun p => V.str p.1) (ps.map fun p => Value.str p.1 p.2)
  | [] => .nil
  | p :: r => .cons (show RelV (.str p.1) _ from ⟨_, rfl⟩) vals_strs
/-- a module's tuple of texts, of any length -/
theorem conT {K : PySem.W.Frag} {mg : Str → Option Value} {x : Str} {a : Addr} {dd : Option Addr} {ps : List (Str × Nat)} {vs : Array Value} {n : Nat} {sl : Array (Option Value)} (hm : mg x = some (.ref a)) (hk : K.lookup a = some ⟨.type "tuple", dd, .seq vs n, sl⟩)
    (hv : vs.toList = ps.map fun p => Value.str p.1 p.2) (hl : ps.length ≤ 1000) : ConT K mg x (.tup (ps.map fun p => D.str p.1)) := by
  have e : (ps.map fun p => D.str p.1) = (ps.map (·.1)).map D.str := by rw [List.map_map]; rfl
  have e2 : (ps.map fun p => V.str p.1) = (ps.map (·.1)).map V.str := by rw [List.map_map]; rfl
  refine ⟨a, hm, fun H => .tup (xs := ps.map fun p => V.str p.1) (.inr ⟨_, _, _, hk, rfl, rfl, ?_, ?_⟩) ?_⟩
  · rw [← Array.length_toList, hv, List.length_map]
    exact sz (by omega)
  · rw [hv]
    exact vals_strs
  · rw [e, e2]
    exact Tps.strs _
end DL
set_option maxHeartbeats 4000000
namespace DL
open PySem L2 PySem.Spec PyProof.Rows
/-! ### a tuple, repeated -/
theorem tuple_mul1 (l : Addr) (items : Array Value) (n : Nat) (dd : Option Addr) (sl : Array (Option Value)) (x : Int) (u : PySem.Tok) (c0 : (decide (x < -(2 ^ 63)) || decide (x ≥ 2 ^ 63)) = false) (c1 : (items.isEmpty || x == 1) = true) :
    Meets (Builtin.«tuple.__mul__» ⟨[.ref l, .int x u], []⟩) (fun _ R s => s.heap.get? l = some { cls := .type "tuple", dict := dd, data := .seq items n, slots := sl } ∧ R (.ok (.ret (Value.ref l))) { s with heap := s.heap, toks := s.toks }) :=
  .of_wp fun prog w A R s h => by
    obtain ⟨hp, g, d, tk, os⟩ := s
    obtain ⟨hl, h⟩ := h
    have f1 := AutoSeq1.idx_int
    have f2 := AutoSeq1.sub_tuple_tuple
    wp_walk using wpAny_loadPart' hl
    repeat (first
      | (refine wpAny_ite_false (decide_eq_false (by rw [c0]; exact Bool.false_ne_true)) ?_; wp_walk using wpAny_loadPart' hl)
      | (refine wpAny_ite_true (decide_eq_true c1) ?_; wp_walk using wpAny_loadPart' hl))
    exact ⟨_, rfl, h⟩
def rRep1 (K : PySem.W.Frag) : R2 := fun x y H Q => ∃ l k xs, x = .ref l ∧ y = .int k ∧ SqT K H l xs ∧ (xs = [] ∨ k = 1) ∧ 0 ≤ k ∧ k ≤ 1000 ∧ xs.length ≤ 1000 ∧ Q (.ref l) H
section
variable {X : Cx}
theorem op_rep1 : OpR X (binaryOp .Mult) (rRep1 X.K) := by
  intro pins s σ H x y v u Q I rx ry h
  obtain ⟨l, k, xs, rfl, rfl, hT, hne, h1, h2, hz, q⟩ := h
  cases rx
  obtain ⟨t, rfl⟩ := ry
  obtain ⟨its, r, ⟨⟨cls, dd, data, sl⟩, ho, hc, n, hd⟩, hs⟩ := I.tuple hT
  simp only at hc hd
  subst hc hd
  have c0 : (decide (k < -(2 ^ 63)) || decide (k ≥ 2 ^ 63)) = false := by
    rw [decide_eq_false (by omega), decide_eq_false (by omega)] <;> rfl
  have c1 : (its.toArray.isEmpty || k == 1) = true := by
    rcases hne with rfl | rfl
    · cases r
      rfl
    · rw [Bool.or_eq_true]
      exact .inr rfl
  refine wpAny_binaryOp_repeat_ref (T := "tuple") (U := "int") (by decide) ⟨_, ho, rfl⟩ (fun s' => typeIs_int s' k t) noFill_tuple_mul F.fills_int_mul F.slot_int_rmul repeat_tuple F.slot_int_index.lookup
    (call_meets F.slot_int_rmul (typeIs_int s k t) F.entry_int_rmul (F.args_int_rmul_2 _ _) (int_rmul_tuple k t l its.toArray n dd sl)
      ⟨ho, rfl, ⟨_, ho, rfl⟩, call_meets F.slot_tuple_mul ⟨_, ho, rfl⟩ F.entry_tuple_mul (F.args_tuple_mul_2 _ _) (tuple_mul1 l its.toArray n dd sl k t c0 c1) ⟨ho, ?_⟩⟩)
  exact ⟨.ref l, H, I.tok _, rfl, q⟩
def RRep : R3 := fun x y M Q => ∃ (ds : List D) (k : Nat), x = .tup ds ∧ y = .int (k : Int) ∧ 1 ≤ k ∧ k ≤ 1000 ∧ ds.length ≤ 1000 ∧ Q (.tup (List.replicate k ds).flatten) M
theorem rep_nil : ∀ k : Nat, (List.replicate k ([] : List D)).flatten = []
  | 0 => rfl
  | k + 1 => by rw [List.replicate_succ, List.flatten_cons, rep_nil k]; rfl
theorem tps_rep {K : PySem.W.Frag} {H : Hp} {xs : List V} {ds : List D} (h : Tps K H xs ds) : ∀ k : Nat, Tps K H (List.replicate k xs).flatten (List.replicate k ds).flatten
  | 0 => .nil
  | k + 1 => by
    rw [List.replicate_succ, List.flatten_cons, List.replicate_succ, List.flatten_cons]
    exact h.append (tps_rep h k)
theorem rd_rep {K : PySem.W.Frag} : RD K (fun x y H Q => rRepT K x y H Q ∨ rRep1 K x y H Q) RRep := by
  intro H0 H M vx vy x y Q Q' i R tx ty k q
  obtain ⟨ds, n, rfl, rfl, h1, h2, hz, q⟩ := q
  cases ty
  cases tx with
  | @tup a xs ds hs ha =>
    by_cases hc : xs = [] ∨ n = 1
    · refine .inr ⟨a, n, xs, rfl, rfl, hs, ?_, by omega, by omega, by rw [ha.length]; exact hz, ?_⟩
      · rcases hc with h | h
        · exact .inl h
        · exact .inr (by omega)
      · refine k _ _ _ _ i R (.tup hs ha) ?_
        rcases hc with h | h
        · subst h
          cases ha
          rw [rep_nil] at q
          exact q
        · subst h
          have : (List.replicate 1 ds).flatten = ds := by simp
          rw [this] at q
          exact q
    · have hn1 : n ≠ 1 := fun h => hc (.inr h)
      refine .inl ⟨a, n, xs, rfl, rfl, hs, fun h => hc (.inl h), by omega, by omega, by rw [ha.length]; exact hz, fun p hp => ?_⟩
      rw [Int.toNat_natCast]
      have im := Imm.new (o := .tup (List.replicate n xs).flatten) hp
      exact k _ _ _ _ (i.trans im) (R.skip hp) (.tup (SqT.of upd_same) (Tps.mono im _ _ (tps_rep ha n))) q
end
theorem e_rep {X : Cx} {a b : Expr} {σ : Sd} {M : Mp} {Q : QD} {pos : Pos} (h : ES X a σ M fun x M1 => ES X b σ M1 fun y M2 => RRep x y M2 Q) : ES X (.BinOp a .Mult b pos) σ M Q := e_op (OpR.or op_repT op_rep1) rd_rep h
end DL
set_option maxHeartbeats 4000000
namespace My
open PySem L2 DL
def top (i : Nat) : Stmt := PySem.Challenge.pw_lendback_k15_whole_written_programs_are.main.body.getD i (.Pass ⟨0, 0, 0, 0⟩)
abbrev st_consists_of : Stmt := top 12
theorem scope_consists_of : FnScope ["text", "chars", "char"] ["text", "chars"] (defScope st_consists_of) := ⟨rfl, rfl, rfl, by decide +kernel, rfl, by decide +kernel, by decide +kernel⟩
abbrev st_end_of : Stmt := top 13
theorem scope_end_of : FnScope ["text", "at", "chars"] ["text", "at", "chars"] (defScope st_end_of) := ⟨rfl, rfl, rfl, by decide +kernel, rfl, by decide +kernel, by decide +kernel⟩
abbrev st_is_name : Stmt := top 14
theorem scope_is_name : FnScope ["word"] ["word"] (defScope st_is_name) := ⟨rfl, rfl, rfl, by decide +kernel, rfl, by decide +kernel, by decide +kernel⟩
abbrev st_is_record_name : Stmt := top 15
theorem scope_is_record_name : FnScope ["word"] ["word"] (defScope st_is_record_name) := ⟨rfl, rfl, rfl, by decide +kernel, rfl, by decide +kernel, by decide +kernel⟩
abbrev st_form_of_word : Stmt := top 16
theorem scope_form_of_word : FnScope ["word"] ["word"] (defScope st_form_of_word) := ⟨rfl, rfl, rfl, by decide +kernel, rfl, by decide +kernel, by decide +kernel⟩
abbrev st_form_of_number : Stmt := top 17
theorem scope_form_of_number : FnScope ["digits"] ["digits"] (defScope st_form_of_number) := ⟨rfl, rfl, rfl, by decide +kernel, rfl, by decide +kernel, by decide +kernel⟩
abbrev st_token_at : Stmt := top 18
theorem scope_token_at : FnScope ["text", "at", "line", "column", "word", "digits", "sign"] ["text", "at", "line", "column"] (defScope st_token_at) := ⟨rfl, rfl, rfl, by decide +kernel, rfl, by decide +kernel, by decide +kernel⟩
abbrev st_tokens_of : Stmt := top 19
theorem scope_tokens_of : FnScope ["text", "tokens", "line", "start", "at", "token"] ["text"] (defScope st_tokens_of) := ⟨rfl, rfl, rfl, by decide +kernel, rfl, by decide +kernel, by decide +kernel⟩
abbrev st_parse_program : Stmt := top 25
theorem scope_parse_program : FnScope ["text"] ["text"] (defScope st_parse_program) := ⟨rfl, rfl, rfl, by decide +kernel, rfl, by decide +kernel, by decide +kernel⟩
abbrev st_write_kind : Stmt := top 27
theorem scope_write_kind : FnScope ["kind", "item"] ["kind"] (defScope st_write_kind) := ⟨rfl, rfl, rfl, by decide +kernel, rfl, by decide +kernel, by decide +kernel⟩
abbrev st_write_fields : Stmt := top 28
theorem scope_write_fields : FnScope ["fields", "name", "kind"] ["fields"] (defScope st_write_fields) := ⟨rfl, rfl, rfl, by decide +kernel, rfl, by decide +kernel, by decide +kernel⟩
abbrev st_write_place : Stmt := top 29
theorem scope_write_place : FnScope ["place", "text", "step"] ["place"] (defScope st_write_place) := ⟨rfl, rfl, rfl, by decide +kernel, rfl, by decide +kernel, by decide +kernel⟩
abbrev st_write_expressions : Stmt := top 30
theorem scope_write_expressions : FnScope ["expressions", "part"] ["expressions"] (defScope st_write_expressions) := ⟨rfl, rfl, rfl, by decide +kernel, rfl, by decide +kernel, by decide +kernel⟩
abbrev st_write_literal : Stmt := top 31
theorem scope_write_literal : FnScope ["expression"] ["expression"] (defScope st_write_literal) := ⟨rfl, rfl, rfl, by decide +kernel, rfl, by decide +kernel, by decide +kernel⟩
abbrev st_write_expression : Stmt := top 32
theorem scope_write_expression : FnScope ["expression", "word", "mark", "left"] ["expression"] (defScope st_write_expression) := ⟨rfl, rfl, rfl, by decide +kernel, rfl, by decide +kernel, by decide +kernel⟩
abbrev st_write_block : Stmt := top 33
theorem scope_write_block : FnScope ["block", "depth", "lines", "statement"] ["block", "depth"] (defScope st_write_block) := ⟨rfl, rfl, rfl, by decide +kernel, rfl, by decide +kernel, by decide +kernel⟩
abbrev st_write_statement : Stmt := top 34
theorem scope_write_statement : FnScope ["statement", "depth", "margin", "word", "lines"] ["statement", "depth"] (defScope st_write_statement) := ⟨rfl, rfl, rfl, by decide +kernel, rfl, by decide +kernel, by decide +kernel⟩
abbrev st_write_function : Stmt := top 35
theorem scope_write_function : FnScope ["function", "name", "parameters", "result", "sources", "block", "head", "lines"] ["function"] (defScope st_write_function) := ⟨rfl, rfl, rfl, by decide +kernel, rfl, by decide +kernel, by decide +kernel⟩
abbrev st_write_program : Stmt := top 36
theorem scope_write_program : FnScope ["program", "records", "functions", "lines", "name", "fields", "function", "line"] ["program"] (defScope st_write_program) := ⟨rfl, rfl, rfl, by decide +kernel, rfl, by decide +kernel, by decide +kernel⟩
abbrev st__law_pick : Stmt := top 38
theorem scope__law_pick : FnScope ["_law_state", "_law_script", "_law_many", "_law_number_here", "_law_place_here", "_law_cell"] ["_law_state", "_law_script", "_law_many"] (defScope st__law_pick) := ⟨rfl, rfl, rfl, by decide +kernel, rfl, by decide +kernel, by decide +kernel⟩
abbrev st__law_words : Stmt := top 39
theorem scope__law_words : FnScope ["_law_words_here"] [] (defScope st__law_words) := ⟨rfl, rfl, rfl, by decide +kernel, rfl, by decide +kernel, by decide +kernel⟩
abbrev st__law_name : Stmt := top 40
theorem scope__law_name : FnScope ["_law_state", "_law_script", "_law_letters", "_law_chars", "_law_size", "_law_word", "_law_k"] ["_law_state", "_law_script"] (defScope st__law_name) := ⟨rfl, rfl, rfl, by decide +kernel, rfl, by decide +kernel, by decide +kernel⟩
abbrev st__law_big : Stmt := top 41
theorem scope__law_big : FnScope ["_law_state", "_law_script", "_law_letters", "_law_chars", "_law_size", "_law_word", "_law_k"] ["_law_state", "_law_script"] (defScope st__law_big) := ⟨rfl, rfl, rfl, by decide +kernel, rfl, by decide +kernel, by decide +kernel⟩
abbrev st__law_same : Stmt := top 42
theorem scope__law_same : FnScope ["_law_actual", "_law_due", "_law_k"] ["_law_actual", "_law_due"] (defScope st__law_same) := ⟨rfl, rfl, rfl, by decide +kernel, rfl, by decide +kernel, by decide +kernel⟩
abbrev st__law_tree_kind : Stmt := top 43
theorem scope__law_tree_kind : FnScope ["_law_state", "_law_script", "_law_room", "_law_choice", "_law_items", "_law_k"] ["_law_state", "_law_script", "_law_room"] (defScope st__law_tree_kind) := ⟨rfl, rfl, rfl, by decide +kernel, rfl, by decide +kernel, by decide +kernel⟩
abbrev st__law_number : Stmt := top 44
theorem scope__law_number : FnScope ["_law_state", "_law_script", "_law_choice", "_law_edges"] ["_law_state", "_law_script"] (defScope st__law_number) := ⟨rfl, rfl, rfl, by decide +kernel, rfl, by decide +kernel, by decide +kernel⟩
abbrev st__law_place : Stmt := top 45
theorem scope__law_place : FnScope ["_law_state", "_law_script", "_law_steps", "_law_size", "_law_k", "_law_choice"] ["_law_state", "_law_script"] (defScope st__law_place) := ⟨rfl, rfl, rfl, by decide +kernel, rfl, by decide +kernel, by decide +kernel⟩
abbrev st__law_expression : Stmt := top 46
theorem scope__law_expression : FnScope ["_law_state", "_law_script", "_law_room", "_law_choice", "_law_word", "_law_sign", "_law_left", "_law_parts", "_law_size", "_law_k"] ["_law_state", "_law_script", "_law_room"] (defScope st__law_expression) := ⟨rfl, rfl, rfl, by decide +kernel, rfl, by decide +kernel, by decide +kernel⟩
abbrev st__law_block : Stmt := top 47
theorem scope__law_block : FnScope ["_law_state", "_law_script", "_law_room", "_law_many", "_law_statements", "_law_k"] ["_law_state", "_law_script", "_law_room", "_law_many"] (defScope st__law_block) := ⟨rfl, rfl, rfl, by decide +kernel, rfl, by decide +kernel, by decide +kernel⟩
abbrev st__law_statement : Stmt := top 48
theorem scope__law_statement : FnScope ["_law_state", "_law_script", "_law_room", "_law_choice", "_law_expression_here", "_law_block_here"] ["_law_state", "_law_script", "_law_room"] (defScope st__law_statement) := ⟨rfl, rfl, rfl, by decide +kernel, rfl, by decide +kernel, by decide +kernel⟩
abbrev st__law_fields : Stmt := top 49
theorem scope__law_fields : FnScope ["_law_state", "_law_script", "_law_many", "_law_fields_here", "_law_k"] ["_law_state", "_law_script", "_law_many"] (defScope st__law_fields) := ⟨rfl, rfl, rfl, by decide +kernel, rfl, by decide +kernel, by decide +kernel⟩
abbrev st__law_function : Stmt := top 50
theorem scope__law_function : FnScope ["_law_state", "_law_script", "_law_block_here", "_law_name_here", "_law_fields_here", "_law_result", "_law_sources", "_law_k"] ["_law_state", "_law_script", "_law_block_here"] (defScope st__law_function) := ⟨rfl, rfl, rfl, by decide +kernel, rfl, by decide +kernel, by decide +kernel⟩
abbrev st__law_deep : Stmt := top 51
theorem scope__law_deep : FnScope ["_law_state", "_law_script", "_law_block_here", "_law_tree", "_law_k"] ["_law_state", "_law_script", "_law_block_here"] (defScope st__law_deep) := ⟨rfl, rfl, rfl, by decide +kernel, rfl, by decide +kernel, by decide +kernel⟩
abbrev st__law_program : Stmt := top 52
theorem scope__law_program : FnScope ["_law_state", "_law_script", "_law_records", "_law_k", "_law_trees", "_law_block_here"] ["_law_state", "_law_script"] (defScope st__law_program) := ⟨rfl, rfl, rfl, by decide +kernel, rfl, by decide +kernel, by decide +kernel⟩
abbrev st_law : Stmt := top 53
theorem scope_law : FnScope ["_law_script", "_law_state", "_law_program_here", "_law_text", "_law_back"] ["_law_script"] (defScope st_law) := ⟨rfl, rfl, rfl, by decide +kernel, rfl, by decide +kernel, by decide +kernel⟩
abbrev st_Token___init__ : Stmt := inClass (top 11) 0
theorem scope_Token___init__ : FnScope ["self", "form", "text", "line", "column"] ["self", "form", "text", "line", "column"] (defScope st_Token___init__) := ⟨rfl, rfl, rfl, by decide +kernel, rfl, by decide +kernel, by decide +kernel⟩
abbrev st_Parser___init__ : Stmt := inClass (top 24) 0
theorem scope_Parser___init__ : FnScope ["self", "text"] ["self", "text"] (defScope st_Parser___init__) := ⟨rfl, rfl, rfl, by decide +kernel, rfl, by decide +kernel, by decide +kernel⟩
abbrev st_Parser_token : Stmt := inClass (top 24) 1
theorem scope_Parser_token : FnScope ["self"] ["self"] (defScope st_Parser_token) := ⟨rfl, rfl, rfl, by decide +kernel, rfl, by decide +kernel, by decide +kernel⟩
abbrev st_Parser_fail : Stmt := inClass (top 24) 2
theorem scope_Parser_fail : FnScope ["self", "token"] ["self", "token"] (defScope st_Parser_fail) := ⟨rfl, rfl, rfl, by decide +kernel, rfl, by decide +kernel, by decide +kernel⟩
abbrev st_Parser_sees : Stmt := inClass (top 24) 3
theorem scope_Parser_sees : FnScope ["self", "text", "token"] ["self", "text"] (defScope st_Parser_sees) := ⟨rfl, rfl, rfl, by decide +kernel, rfl, by decide +kernel, by decide +kernel⟩
abbrev st_Parser_takes : Stmt := inClass (top 24) 4
theorem scope_Parser_takes : FnScope ["self", "text"] ["self", "text"] (defScope st_Parser_takes) := ⟨rfl, rfl, rfl, by decide +kernel, rfl, by decide +kernel, by decide +kernel⟩
abbrev st_Parser_expect : Stmt := inClass (top 24) 5
theorem scope_Parser_expect : FnScope ["self", "text"] ["self", "text"] (defScope st_Parser_expect) := ⟨rfl, rfl, rfl, by decide +kernel, rfl, by decide +kernel, by decide +kernel⟩
abbrev st_Parser_take_form : Stmt := inClass (top 24) 6
theorem scope_Parser_take_form : FnScope ["self", "form", "token"] ["self", "form"] (defScope st_Parser_take_form) := ⟨rfl, rfl, rfl, by decide +kernel, rfl, by decide +kernel, by decide +kernel⟩
abbrev st_Parser_parse_program : Stmt := inClass (top 24) 7
theorem scope_Parser_parse_program : FnScope ["self", "records", "functions"] ["self"] (defScope st_Parser_parse_program) := ⟨rfl, rfl, rfl, by decide +kernel, rfl, by decide +kernel, by decide +kernel⟩
abbrev st_Parser_parse_record : Stmt := inClass (top 24) 8
theorem scope_Parser_parse_record : FnScope ["self", "name", "fields"] ["self"] (defScope st_Parser_parse_record) := ⟨rfl, rfl, rfl, by decide +kernel, rfl, by decide +kernel, by decide +kernel⟩
abbrev st_Parser_parse_field : Stmt := inClass (top 24) 9
theorem scope_Parser_parse_field : FnScope ["self", "name"] ["self"] (defScope st_Parser_parse_field) := ⟨rfl, rfl, rfl, by decide +kernel, rfl, by decide +kernel, by decide +kernel⟩
abbrev st_Parser_parse_function : Stmt := inClass (top 24) 10
theorem scope_Parser_parse_function : FnScope ["self", "name", "parameters", "result", "sources"] ["self"] (defScope st_Parser_parse_function) := ⟨rfl, rfl, rfl, by decide +kernel, rfl, by decide +kernel, by decide +kernel⟩
abbrev st_Parser_parse_kind : Stmt := inClass (top 24) 11
theorem scope_Parser_parse_kind : FnScope ["self", "word", "mode", "kinds"] ["self"] (defScope st_Parser_parse_kind) := ⟨rfl, rfl, rfl, by decide +kernel, rfl, by decide +kernel, by decide +kernel⟩
abbrev st_Parser_parse_block : Stmt := inClass (top 24) 12
theorem scope_Parser_parse_block : FnScope ["self", "statements"] ["self"] (defScope st_Parser_parse_block) := ⟨rfl, rfl, rfl, by decide +kernel, rfl, by decide +kernel, by decide +kernel⟩
abbrev st_Parser_parse_statement : Stmt := inClass (top 24) 13
theorem scope_Parser_parse_statement : FnScope ["self", "test", "block", "statement"] ["self"] (defScope st_Parser_parse_statement) := ⟨rfl, rfl, rfl, by decide +kernel, rfl, by decide +kernel, by decide +kernel⟩
abbrev st_Parser_parse_simple : Stmt := inClass (top 24) 14
theorem scope_Parser_parse_simple : FnScope ["self", "name", "word", "place"] ["self"] (defScope st_Parser_parse_simple) := ⟨rfl, rfl, rfl, by decide +kernel, rfl, by decide +kernel, by decide +kernel⟩
abbrev st_Parser_parse_place : Stmt := inClass (top 24) 15
theorem scope_Parser_parse_place : FnScope ["self"] ["self"] (defScope st_Parser_parse_place) := ⟨rfl, rfl, rfl, by decide +kernel, rfl, by decide +kernel, by decide +kernel⟩
abbrev st_Parser_parse_steps : Stmt := inClass (top 24) 16
theorem scope_Parser_parse_steps : FnScope ["self", "name", "steps"] ["self", "name"] (defScope st_Parser_parse_steps) := ⟨rfl, rfl, rfl, by decide +kernel, rfl, by decide +kernel, by decide +kernel⟩
abbrev st_Parser_parse_expression : Stmt := inClass (top 24) 17
theorem scope_Parser_parse_expression : FnScope ["self", "token", "mode"] ["self"] (defScope st_Parser_parse_expression) := ⟨rfl, rfl, rfl, by decide +kernel, rfl, by decide +kernel, by decide +kernel⟩
abbrev st_Parser_parse_integer : Stmt := inClass (top 24) 18
theorem scope_Parser_parse_integer : FnScope ["self", "first", "sign", "number"] ["self"] (defScope st_Parser_parse_integer) := ⟨rfl, rfl, rfl, by decide +kernel, rfl, by decide +kernel, by decide +kernel⟩
abbrev st_Parser_parse_named : Stmt := inClass (top 24) 19
theorem scope_Parser_parse_named : FnScope ["self", "name", "place"] ["self"] (defScope st_Parser_parse_named) := ⟨rfl, rfl, rfl, by decide +kernel, rfl, by decide +kernel, by decide +kernel⟩
abbrev st_Parser_parse_arguments : Stmt := inClass (top 24) 20
theorem scope_Parser_parse_arguments : FnScope ["self", "expressions"] ["self"] (defScope st_Parser_parse_arguments) := ⟨rfl, rfl, rfl, by decide +kernel, rfl, by decide +kernel, by decide +kernel⟩
abbrev st_Parser_parse_group : Stmt := inClass (top 24) 21
theorem scope_Parser_parse_group : FnScope ["self", "left", "sign", "right", "expressions"] ["self"] (defScope st_Parser_parse_group) := ⟨rfl, rfl, rfl, by decide +kernel, rfl, by decide +kernel, by decide +kernel⟩
abbrev st_Parser_parse_word : Stmt := inClass (top 24) 22
theorem scope_Parser_parse_word : FnScope ["self", "kind", "place", "word"] ["self"] (defScope st_Parser_parse_word) := ⟨rfl, rfl, rfl, by decide +kernel, rfl, by decide +kernel, by decide +kernel⟩
/-! ### kinds -/
inductive Kd where
  | int | bool | unit
  | box (k : Kd) | maybe (k : Kd) | shared (k : Kd) | excl (k : Kd)
  | tup (l : List Kd)
  | rcd (n : Str)
mutual
def Kd.d : Kd → D
  | .int => .tup [.str "int"]
  | .bool => .tup [.str "bool"]
  | .unit => .tup [.str "unit"]
  | .box k => .tup [.str "box", k.d]
  | .maybe k => .tup [.str "maybe", k.d]
  | .shared k => .tup [.str "shared", k.d]
  | .excl k => .tup [.str "exclusive", k.d]
  | .tup l => .tup [.str "tuple", .tup (Kd.ds l)]
  | .rcd n => .tup [.str "record", .str n]
def Kd.ds : List Kd → List D
  | [] => []
  | k :: r => k.d :: Kd.ds r
end
theorem Kd.ds_map : ∀ l : List Kd, Kd.ds l = l.map Kd.d
  | [] => by simp only [Kd.ds, List.map_nil]
  | k :: r => by simp only [Kd.ds, List.map_cons, Kd.ds_map r]
def Kd.tag : Kd → Str
  | .int => "int"
  | .bool => "bool"
  | .unit => "unit"
  | .box _ => "box"
  | .maybe _ => "maybe"
  | .shared _ => "shared"
  | .excl _ => "exclusive"
  | .tup _ => "tuple"
  | .rcd _ => "record"
def Kd.tl : Kd → List D
  | .int => []
  | .bool => []
  | .unit => []
  | .box k => [k.d]
  | .maybe k => [k.d]
  | .shared k => [k.d]
  | .excl k => [k.d]
  | .tup l => [.tup (l.map Kd.d)]
  | .rcd n => [.str n]
theorem Kd.d_eq (k : Kd) : k.d = .tup (.str k.tag :: k.tl) := by
  cases k <;> simp only [Kd.d, Kd.tag, Kd.tl, Kd.ds_map]
theorem tag_box {k : Kd} (h : k.tag = "box") : ∃ x, k = .box x := by cases k <;> first | exact ⟨_, rfl⟩ | (exfalso; simp only [Kd.tag] at h; revert h; decide +kernel)
theorem tag_maybe {k : Kd} (h : k.tag = "maybe") : ∃ x, k = .maybe x := by cases k <;> first | exact ⟨_, rfl⟩ | (exfalso; simp only [Kd.tag] at h; revert h; decide +kernel)
theorem tag_shared {k : Kd} (h : k.tag = "shared") : ∃ x, k = .shared x := by cases k <;> first | exact ⟨_, rfl⟩ | (exfalso; simp only [Kd.tag] at h; revert h; decide +kernel)
theorem tag_excl {k : Kd} (h : k.tag = "exclusive") : ∃ x, k = .excl x := by cases k <;> first | exact ⟨_, rfl⟩ | (exfalso; simp only [Kd.tag] at h; revert h; decide +kernel)
theorem tag_tup {k : Kd} (h : k.tag = "tuple") : ∃ x, k = .tup x := by cases k <;> first | exact ⟨_, rfl⟩ | (exfalso; simp only [Kd.tag] at h; revert h; decide +kernel)
theorem tag_rcd {k : Kd} (h : k.tag = "record") : ∃ x, k = .rcd x := by cases k <;> first | exact ⟨_, rfl⟩ | (exfalso; simp only [Kd.tag] at h; revert h; decide +kernel)
theorem inD_strs (x : Str) (ys : List Str) : inD (.str x) (ys.map D.str) = decide (x ∈ ys) := by
  unfold inD
  rw [List.any_map, Bool.eq_iff_iff]
  simp only [List.any_eq_true, Function.comp, eqv_str, decide_eq_true_eq]
  exact ⟨fun ⟨y, hy, e⟩ => e ▸ hy, fun h => ⟨x, h, rfl⟩⟩
/-! widths of tuples -/
mutual
def Kd.wf : Kd → Bool
  | .box k => k.wf
  | .maybe k => k.wf
  | .shared k => k.wf
  | .excl k => k.wf
  | .tup l => decide (2 ≤ l.length) && decide (l.length ≤ 6) && Kd.wfs l
  | _ => true
def Kd.wfs : List Kd → Bool
  | [] => true
  | k :: r => k.wf && Kd.wfs r
end
theorem Kd.wfs_iff : ∀ l : List Kd, Kd.wfs l = true ↔ ∀ k ∈ l, k.wf = true
  | [] => by simp [Kd.wfs]
  | k :: r => by simp [Kd.wfs, Kd.wfs_iff r]
mutual
def Kd.lev : Kd → Nat
  | .box k => k.lev + 1
  | .maybe k => k.lev + 1
  | .shared k => k.lev + 1
  | .excl k => k.lev + 1
  | .tup l => Kd.levs l + 1
  | _ => 1
def Kd.levs : List Kd → Nat
  | [] => 0
  | k :: r => max k.lev (Kd.levs r)
end
theorem Kd.lev_pos (k : Kd) : 1 ≤ k.lev := by cases k <;> simp [Kd.lev]
theorem Kd.levs_le : ∀ (l : List Kd) (n : Nat), Kd.levs l ≤ n ↔ ∀ k ∈ l, k.lev ≤ n
  | [], n => by simp [Kd.levs]
  | k :: r, n => by simp [Kd.levs, Nat.max_le, Kd.levs_le r n]
theorem Kd.levs_mem : ∀ (l : List Kd), l ≠ [] → ∃ k ∈ l, k.lev = Kd.levs l
  | [], h => absurd rfl h
  | [k], _ => ⟨k, by simp, by simp [Kd.levs]⟩
  | k :: k2 :: r, _ => by
    obtain ⟨x, hx, e⟩ := Kd.levs_mem (k2 :: r) (by simp)
    by_cases h : Kd.levs (k2 :: r) ≤ k.lev
    · refine ⟨k, by simp, ?_⟩
      show k.lev = max k.lev (Kd.levs (k2 :: r))
      omega
    · refine ⟨x, List.mem_cons_of_mem _ hx, ?_⟩
      show x.lev = max k.lev (Kd.levs (k2 :: r))
      omega
mutual
def Kd.plain : Kd → Bool
  | .box k => k.plain
  | .maybe k => k.plain
  | .shared _ => false
  | .excl _ => false
  | .tup l => Kd.plains l
  | _ => true
def Kd.plains : List Kd → Bool
  | [] => true
  | k :: r => k.plain && Kd.plains r
end
theorem Kd.plains_all : ∀ l : List Kd, Kd.plains l = l.all Kd.plain
  | [] => by simp only [Kd.plains, List.all_nil]
  | k :: r => by simp only [Kd.plains, List.all_cons, Kd.plains_all r]
mutual
def Kd.val : Kd → Bool
  | .box k => k.plain && k.val
  | .maybe k => k.val
  | .shared k => k.plain && k.val
  | .excl k => k.plain && k.val
  | .tup l => Kd.vals l
  | _ => true
def Kd.vals : List Kd → Bool
  | [] => true
  | k :: r => k.val && Kd.vals r
end
theorem Kd.vals_iff : ∀ l : List Kd, Kd.vals l = true ↔ ∀ k ∈ l, k.val = true
  | [] => by simp [Kd.vals]
  | k :: r => by simp [Kd.vals, Kd.vals_iff r]
theorem Kd.plains_iff (l : List Kd) : Kd.plains l = true ↔ ∀ k ∈ l, k.plain = true := by rw [Kd.plains_all, List.all_eq_true]
mutual
def Kd.rn : Kd → List Str
  | .box k => k.rn
  | .maybe k => k.rn
  | .shared k => k.rn
  | .excl k => k.rn
  | .tup l => Kd.rns l
  | .rcd n => [n]
  | _ => []
def Kd.rns : List Kd → List Str
  | [] => []
  | k :: r => k.rn ++ Kd.rns r
end
theorem Kd.rns_mem : ∀ (l : List Kd) (x : Str), x ∈ Kd.rns l ↔ ∃ k ∈ l, x ∈ k.rn
  | [], x => by simp [Kd.rns]
  | k :: r, x => by simp [Kd.rns, Kd.rns_mem r x]
structure Good (names : List Str) (plain : Bool) (n : Nat) (k : Kd) : Prop where
  wf : k.wf = true
  lev : k.lev ≤ n
  pl : plain = true → k.plain = true
  val : k.val = true
  rn : ∀ x ∈ k.rn, x ∈ names
theorem Callee.none {P : Program} {w : World} {K : PySem.W.Frag} {mg : Str → Option Value} {base : Heap} {x : Str} {k : Nat} {ps : List Str} {sp3 : Sp3} {f : Addr} {fd : FuncData}
    (hm : mg x = some (.ref f)) (hk : PySem.W.keepIn K (.ref f) = true) (hb : Binds K fd ps []) (h : ∀ ds M Q, ¬ sp3 ds M Q) : Callee P w K mg base x k ps sp3 :=
  ⟨f, fd, ⟨fun vs H Q E ⟨ds, M, Q3, _, _, q, _⟩ => absurd q (h ds M Q3), fun A outer s H args us vs Q E _ _ _ _ ⟨ds, M, Q3, _, _, q, _⟩ => absurd q (h ds M Q3)⟩, hm, hk, hb⟩
/-! ### the state and its draws -/
def StT (M : Mp) (a : Addr) (t : Int) : Prop := ∃ p r s : Int, M a = some (.lst [.int p, .int r, .int s, .int t]) ∧ 0 ≤ p ∧ 0 ≤ r ∧ 0 ≤ s ∧ s < 2147483648
theorem StT.le {M M' : Mp} {a : Addr} {t : Int} (h : StT M a t) (l : Mle M M') : StT M' a t := by
  obtain ⟨p, r, s, e, h'⟩ := h
  exact ⟨p, r, s, l _ _ e, h'⟩
theorem StT.some {M : Mp} {a : Addr} {t : Int} (h : StT M a t) : ∃ m, M a = some m := by
  obtain ⟨p, r, s, e, _⟩ := h
  exact ⟨_, e⟩
theorem StT.apart {M : Mp} {a p : Addr} {t : Int} (h : StT M a t) (hp : M p = none) : p ≠ a := by
  obtain ⟨_, e⟩ := h.some
  exact Ne.symm (mne e hp)
theorem StT.keep {M M' : Mp} {a p : Addr} {t : Int} (h : StT M a t) (k : Keep p M M') (n : p ≠ a) : StT M' a t := by
  obtain ⟨x, r, s, e, h'⟩ := h
  exact ⟨x, r, s, k _ _ (Ne.symm n) e, h'⟩
section
variable {P : Program} {w : World} {K : PySem.W.Frag} {mg : Str → Option Value} {base : Heap} {f : Addr} {fd : FuncData}
def spPick : Sp3 := fun ds M Q => ∃ (a : Addr) (ns : List Int) (many : Int), ds = [.ref a, .rol (ns.map D.int), .int many] ∧ ∃ t0 : Int, StT M a t0 ∧ 0 < many ∧ many < 20000000000 ∧ ∀ n M', 0 ≤ n → n < many → StT M' a t0 → Keep a M M' → Q (.int n) M'
theorem ok_pick (F : Fun K "_law_pick" "_law_pick" st__law_pick f fd) (b : Binds K fd ["_law_state", "_law_script", "_law_many"] []) (g : mg "_law_pick" = some (.ref f)) (m_len : mg "len" = none) (m_int : mg "int" = none) (m_abs : mg "abs" = none) :
    Callee P w K mg base "_law_pick" 1 ["_law_state", "_law_script", "_law_many"] spPick := by
  refine callee F scope__law_pick g b (fun ds M Q ⟨a, ns, many, e, _⟩ => by rw [e]; rfl) (fun cdv A outer s H E hr ds M Q ⟨a, ns, many, e, t, ⟨p, r, s, ep, hp, hr0, hs, hs2⟩, hm0, hm, q⟩ => ?_)
  subst e
  have bd : ∀ x : Int, 0 ≤ x % many ∧ x % many < many := fun x => ⟨Int.emod_nonneg _ (by omega), Int.emod_lt_of_pos _ hm0⟩
  refine ss_if (t_gt (e_ix (e_var 0 rfl (e_int ⟨_, _, ep, rfl, e_int ?_⟩))))
  refine ⟨fun hc => ?_, fun hc => ?_⟩
  · refine ss_cons (s_asg 3 scope__law_pick.nd (e_mod (e_intc m_int (a_cons (e_ix (e_var 0 rfl (e_int ⟨_, _, ep, rfl, a_nil (e_var 2 rfl ⟨hm0, ?_⟩)⟩)))))))
    refine ss_cons (s_asgG (e_fdivW (e_ix (e_var 0 rfl (e_int ⟨_, _, ep, rfl, e_var 2 rfl ⟨divW hm0 hm _, ?_⟩⟩)))))
    refine g_sub (e_var 0 rfl (e_int ⟨_, _, ep, rfl, fun M1 e1 k1 => ?_⟩))
    refine ss_one (s_ret (e_var 3 rfl ?_))
    exact Wk.here (q _ _ (bd _).1 (bd _).2 ⟨p, _, s, e1, hp, Int.ediv_nonneg hr0 (by omega), hs, hs2⟩ k1)
  refine ss_cons (s_asg 4 scope__law_pick.nd (e_ix (e_var 0 rfl (e_int ⟨_, _, ep, rfl, ?_⟩))))
  refine ss_cons (s_asgG (e_add (e_var 4 rfl (e_int (g_sub (e_var 0 rfl (e_int ⟨_, _, ep, rfl, fun M1 e1 k1 => ?_⟩)))))))
  refine ss_cut (fun σ' M' => ∃ (s' : Int) (c : Option D), σ' = [some (.ref a), some (.rol (ns.map D.int)), some (.int many), none, some (.int p), c] ∧ Keep a M M' ∧ M' a = some (.lst [.int (p + 1), .int r, .int s', .int t]) ∧ 0 ≤ s' ∧ s' < 2147483648) (s_if (t_lt (e_var 4 rfl (e_len m_len (a_cons (e_var 1 rfl (a_nil ?_))))))) ?_
  · refine ⟨fun hc => ?_, fun hc => ss_nil ⟨_, _, rfl, k1, e1, hs, hs2⟩⟩
    obtain ⟨dv, hdv, _⟩ := atI_lt hp (of_decide_eq_true hc)
    obtain ⟨cell, _, rfl⟩ := atI_mapP hdv
    refine ss_cons (s_asg 5 scope__law_pick.nd (e_abs m_abs (a_cons (e_intc m_int (a_cons (e_ix (e_var 1 rfl (e_var 4 rfl ⟨_, hdv, a_nil (a_nil ?_)⟩))))))))
    refine ss_if (t_ge (e_var 5 rfl (e_pow (e_int (e_int ⟨⟨by decide, by decide, by decide⟩, ?_⟩)))))
    refine ⟨fun hc => ?_, fun hc => ?_⟩
    · refine ss_cons (s_asgG (e_fdivW (e_var 5 rfl (e_var 2 rfl ⟨divW hm0 hm _, ?_⟩))))
      refine g_sub (e_var 0 rfl (e_int ⟨_, _, e1, rfl, fun M2 e2 k2 => ?_⟩))
      refine ss_one (s_ret (e_mod (e_intc m_int (a_cons (e_var 5 rfl (a_nil (e_var 2 rfl ⟨hm0, ?_⟩)))))))
      exact Wk.here (q _ _ (bd _).1 (bd _).2 ⟨_, _, _, e2, by omega, Int.ediv_nonneg (by split <;> omega) (by omega), hs, hs2⟩ (k1.trans k2))
    refine ss_one (s_asgG (e_mod (e_intc m_int (a_cons (e_add (e_add (e_mul (e_ix (e_var 0 rfl (e_int ⟨_, _, e1, rfl, ?_⟩))))))))))
    refine e_int ⟨.inr ⟨by decide, by decide⟩, ?_⟩
    refine e_mul (e_var 5 rfl (e_int ⟨.inr ⟨by decide, by decide⟩, ?_⟩))
    refine e_int (a_nil (e_int ⟨by show (0 : Int) < _; decide, ?_⟩))
    refine g_sub (e_var 0 rfl (e_int ⟨_, _, e1, rfl, fun M2 e2 k2 => ?_⟩))
    exact ⟨_, _, rfl, k1.trans k2, e2, Int.emod_nonneg _ (by decide), Int.lt_trans (Int.emod_lt_of_pos _ (by decide)) (by decide)⟩
  rintro σ' M' ⟨s', c, rfl, k', ep', hs', hs2'⟩
  refine ss_cons (s_asgG (e_mod (e_intc m_int (a_cons (e_add (e_add (e_mul (e_ix (e_var 0 rfl (e_int ⟨_, _, ep', rfl, ?_⟩))))))))))
  refine e_int ⟨.inr ⟨by decide, by decide⟩, ?_⟩
  refine e_mul (e_int (e_var 4 rfl ⟨.inl ⟨by decide, by decide⟩, ?_⟩))
  refine e_int (a_nil (e_int ⟨by show (0 : Int) < _; decide, ?_⟩))
  refine g_sub (e_var 0 rfl (e_int ⟨_, _, ep', rfl, fun M2 e2 k2 => ?_⟩))
  have h1 : 0 ≤ (s' * 48271 + 11 * p + 5) % 2147483647 := Int.emod_nonneg _ (by decide)
  have h2 : (s' * 48271 + 11 * p + 5) % 2147483647 < 2147483647 := Int.emod_lt_of_pos _ (by decide)
  refine ss_one (s_ret (e_mod (e_intc m_int (a_cons (e_fdiv (e_mul (e_ix (e_var 0 rfl (e_int ⟨_, _, e2, rfl, ?_⟩)))))))))
  refine e_ix (e_var 0 rfl (e_int ⟨_, _, e2, rfl, ?_⟩))
  refine ⟨.inl ⟨by omega, by omega⟩, ?_⟩
  refine e_int ⟨⟨by decide, by decide⟩, ?_⟩
  refine a_nil (e_var 2 rfl ⟨hm0, ?_⟩)
  exact Wk.here (q _ _ (bd _).1 (bd _).2 ⟨_, _, _, e2, by omega, hr0, h1, by omega⟩ (k'.trans k2))
end
/-- a capital letter ahead -/
structure BigS (x : Str) : Prop where
  sok : Sok 20 x
  hd : ∃ c cs, x.cps.toList = c :: cs ∧ 65 ≤ c ∧ c ≤ 90
  al : ∀ c ∈ x.cps.toList, c ∈ ("ABCDEFGHIJKLMNOPQRSTUVWXYZabcdefghijklmnopqrstuvwxyz0123456789" : Str).cps.toList
section
variable {P : Program} {w : World} {K : PySem.W.Frag} {mg : Str → Option Value} {base : Heap} {f : Addr} {fd : FuncData}
def spBig : Sp3 := fun ds M Q => ∃ (a : Addr) (ns : List Int), ds = [.ref a, .rol (ns.map D.int)] ∧ ∃ t0 : Int, StT M a t0 ∧ ∀ x M', BigS x → StT M' a t0 → Keep a M M' → Q (.str x) M'
theorem ok_big (F : Fun K "_law_big" "_law_big" st__law_big f fd) (b : Binds K fd ["_law_state", "_law_script"] []) (g : mg "_law_big" = some (.ref f)) (m_range : mg "range" = none)
    (C__law_pick : Callee P w K mg base "_law_pick" 1 ["_law_state", "_law_script", "_law_many"] spPick) :
    Callee P w K mg base "_law_big" 2 ["_law_state", "_law_script"] spBig := by
  refine callee F scope__law_big g b (fun ds M Q ⟨a, ns, e, _⟩ => by rw [e]; rfl) (fun cdv A outer s H E hr ds M Q ⟨a, ns, e, t0, hp, q⟩ => ?_)
  subst e
  refine ss_cons (s_asg 2 scope__law_big.nd (e_str ?_))
  refine ss_cons (s_asg 3 scope__law_big.nd (e_add (e_var 2 rfl (e_str ⟨by decide, ?_⟩))))
  refine ss_cons (s_asg 4 scope__law_big.nd (e_add (e_int (e_call C__law_pick hr (a_cons (e_var 0 rfl (a_cons (e_var 1 rfl (a_cons (e_int (a_nil ?_)))))))))))
  refine ⟨a, ns, 4, rfl, _, hp, by decide, by decide, fun n1 M1 h1 h2 hp1 k1 => ?_⟩
  refine ss_cut (fun σ' M' => ∃ n : Int, σ' = [some (.ref a), some (.rol (ns.map D.int)), some (.str "ABCDEFGHIJKLMNOPQRSTUVWXYZ"), some (.str "ABCDEFGHIJKLMNOPQRSTUVWXYZabcdefghijklmnopqrstuvwxyz0123456789"), some (.int n), none, none] ∧ 1 ≤ n ∧ n ≤ 20 ∧ StT M' a t0 ∧ Keep a M M') (s_if (t_eq ⟨_, hr⟩ (e_var 4 rfl (e_int ⟨trivial, ?_⟩)))) ?_
  · refine ⟨fun hc => ?_, fun hc => ss_nil ⟨_, rfl, by omega, by omega, hp1, k1⟩⟩
    refine ss_one (s_asg 4 scope__law_big.nd (e_add (e_int (e_call C__law_pick hr (a_cons (e_var 0 rfl (a_cons (e_var 1 rfl (a_cons (e_int (a_nil ?_)))))))))))
    exact ⟨a, ns, 20, rfl, _, hp1, by decide, by decide, fun n2 M2 h3 h4 hp2 k2 => ⟨_, rfl, by omega, by omega, hp2, k1.trans k2⟩⟩
  rintro σ' M' ⟨n, rfl, hn1, hn2, hp2, k2⟩
  refine ss_cons (s_asg 5 scope__law_big.nd (e_ix (e_var 2 rfl (e_call C__law_pick hr (a_cons (e_var 0 rfl (a_cons (e_var 1 rfl (a_cons (e_int (a_nil ?_)))))))))))
  refine ⟨a, ns, 26, rfl, _, hp2, by decide, by decide, fun n3 M3 h3 h4 hp3 k3 => ?_⟩
  have okl : PyData.strOk ("ABCDEFGHIJKLMNOPQRSTUVWXYZ" : Str) = true := by decide +kernel
  have okc : PyData.strOk ("ABCDEFGHIJKLMNOPQRSTUVWXYZabcdefghijklmnopqrstuvwxyz0123456789" : Str) = true := by decide +kernel
  have ll : (("ABCDEFGHIJKLMNOPQRSTUVWXYZ" : Str).cps.toList.length : Int) = 26 := by decide +kernel
  have lc : (("ABCDEFGHIJKLMNOPQRSTUVWXYZabcdefghijklmnopqrstuvwxyz0123456789" : Str).cps.toList.length : Int) = 62 := by decide +kernel
  obtain ⟨c, hc, _⟩ := atI_lt (xs := ("ABCDEFGHIJKLMNOPQRSTUVWXYZ" : Str).cps.toList) h3 (by rw [ll]; exact h4)
  refine ⟨by decide, c, hc, ?_⟩
  have so := strOk_sign okl hc
  have hcc : 65 ≤ c ∧ c ≤ 90 := by
    have al : ("ABCDEFGHIJKLMNOPQRSTUVWXYZ" : Str).cps.toList.all (fun c => decide (65 ≤ c) && decide (c ≤ 90)) = true := by decide +kernel
    have := List.all_eq_true.mp al c (atI_mem hc)
    simpa using this
  have cin : c ∈ ("ABCDEFGHIJKLMNOPQRSTUVWXYZabcdefghijklmnopqrstuvwxyz0123456789" : Str).cps.toList := by
    have al : ("ABCDEFGHIJKLMNOPQRSTUVWXYZ" : Str).cps.toList.all (fun c => decide (c ∈ ("ABCDEFGHIJKLMNOPQRSTUVWXYZabcdefghijklmnopqrstuvwxyz0123456789" : Str).cps.toList)) = true := by decide +kernel
    exact of_decide_eq_true (List.all_eq_true.mp al c (atI_mem hc))
  refine ss_cons (s_for PassesOwn.never (i_rng1 m_range (e_sub (e_var 4 rfl (e_int ⟨by omega, by omega, ?_⟩)))))
  refine ⟨fun i σ' M' => ∃ (x : Str) (c : Option D), σ' = [some (.ref a), some (.rol (ns.map D.int)), some (.str "ABCDEFGHIJKLMNOPQRSTUVWXYZ"), some (.str "ABCDEFGHIJKLMNOPQRSTUVWXYZabcdefghijklmnopqrstuvwxyz0123456789"), some (.int n), some (.str x), c] ∧ (Sok (1 + i) x ∧ (∃ c cs, x.cps.toList = c :: cs ∧ 65 ≤ c ∧ c ≤ 90) ∧ ∀ c ∈ x.cps.toList, c ∈ ("ABCDEFGHIJKLMNOPQRSTUVWXYZabcdefghijklmnopqrstuvwxyz0123456789" : Str).cps.toList) ∧ StT M' a t0 ∧ Keep a M M', ⟨_, none, rfl, ⟨so, ⟨c, [], rfl, hcc⟩, fun d hd => by rw [show d = c by simpa using hd]; exact cin⟩, hp3, k2.trans k3⟩, fun _ _ _ _ _ => trivial, ?_, ?_⟩
  · rintro i d σ' M' hd ⟨x, c', rfl, ⟨sx, ⟨cx, csx, ex, hcx⟩, hal⟩, hp4, k4⟩
    obtain ⟨hi, rfl⟩ := rgD_get hd
    refine g_name 6 scope__law_big.nd ?_
    refine ss_one (s_asg 5 scope__law_big.nd (e_add (e_var 5 rfl (e_ix (e_var 3 rfl (e_call C__law_pick hr (a_cons (e_var 0 rfl (a_cons (e_var 1 rfl (a_cons (e_int (a_nil ?_)))))))))))))
    refine ⟨a, ns, 62, rfl, _, hp4, by decide, by decide, fun n5 M5 h5 h6 hp5 k5 => ?_⟩
    obtain ⟨c5, hc5, _⟩ := atI_lt (xs := ("ABCDEFGHIJKLMNOPQRSTUVWXYZabcdefghijklmnopqrstuvwxyz0123456789" : Str).cps.toList) h5 (by rw [lc]; exact h6)
    refine ⟨by decide, c5, hc5, ?_⟩
    have s5 := sx.app (strOk_sign okc hc5)
    refine ⟨?_, _, _, rfl, ⟨s5.mono (by omega), ⟨cx, csx ++ [c5], by rw [cps_app, ex]; rfl, hcx⟩, fun d hd => by
      rw [cps_app] at hd
      rcases List.mem_append.mp hd with hd | hd
      · exact hal d hd
      · rw [show d = c5 by simpa using hd]; exact atI_mem hc5⟩, hp5, k4.trans k5⟩
    have h7 := s5.1
    rw [str_len_app] at h7
    exact sz (by omega)
  · rintro σ' M' ⟨x, c', rfl, ⟨sx, hdx, hal⟩, hp4, k4⟩
    rw [rgD_length] at sx
    exact ss_one (s_ret (e_var 5 rfl (Wk.here (q _ _ ⟨sx.mono (by omega), hdx, hal⟩ hp4 k4))))
end
/-! ### names -/
def lowC (c : Nat) : Bool := decide (97 ≤ c) && decide (c ≤ 122)
def wordC (c : Nat) : Bool := lowC c || (decide (48 ≤ c) && decide (c ≤ 57)) || decide (c = 95)
def words : List Str := ["and", "bool", "box", "do", "else", "false", "fn", "from", "if", "int", "is", "let", "maybe", "mut", "none", "not", "or", "print", "record", "return", "some", "swap", "true", "unbox", "unit", "while", "with"]
/-- n signs at most, a small letter ahead -/
structure NameS (n : Nat) (x : Str) : Prop where
  len : x.length ≤ n
  ok : PyData.strOk x = true
  hd : ∃ c cs, x.cps.toList = c :: cs ∧ lowC c = true ∧ ∀ d ∈ cs, wordC d = true
theorem NameS.app {n : Nat} {x : Str} {c : Nat} (h : NameS n x) (hc : wordC c = true) (ho : Sok 1 ⟨#[c]⟩) : NameS (n + 1) (x ++ ⟨#[c]⟩) := by
  refine ⟨by rw [str_len_app]; have := h.len; have := ho.1; omega, strOk_app h.ok ho.2, ?_⟩
  obtain ⟨a, as, e, ha, hs⟩ := h.hd
  refine ⟨a, as ++ [c], by rw [cps_app, e]; rfl, ha, fun d hd => ?_⟩
  rcases List.mem_append.mp hd with hd | hd
  · exact hs d hd
  · rw [List.mem_singleton.mp hd]; exact hc
theorem NameS.mono {n m : Nat} {x : Str} (h : NameS n x) (l : n ≤ m) : NameS m x := ⟨Nat.le_trans h.len l, h.ok, h.hd⟩
theorem all_mem {α : Type} {p : α → Bool} {l : List α} {i : Int} {c : α} (hp : l.all p = true) (h : atI l i = some c) : p c = true := List.all_eq_true.mp hp c (atI_mem h)
section
variable {P : Program} {w : World} {K : PySem.W.Frag} {mg : Str → Option Value} {base : Heap} {f : Addr} {fd : FuncData}
def spWords : Sp3 := fun ds M Q => ds = [] ∧ ∀ p M', M p = none → Mle M M' → M' p = some (.lst (words.map D.str)) → Q (.ref p) M'
theorem ok_words (F : Fun K "_law_words" "_law_words" st__law_words f fd) (b : Binds K fd [] []) (g : mg "_law_words" = some (.ref f)) :
    Callee P w K mg base "_law_words" 1 [] spWords := by
  refine callee F scope__law_words g b (fun ds M Q ⟨e, _⟩ => by rw [e]; rfl) (fun cdv A outer s H E hr ds M Q ⟨e, q⟩ => ?_)
  subst e
  refine ss_cons (s_asg 0 scope__law_words.nd (e_lst (a_cons (e_str (a_cons (e_str (a_cons (e_str (a_cons (e_str (a_cons (e_str (a_cons (e_str (a_cons (e_str (a_cons (e_str (a_cons (e_str (a_cons (e_str (a_cons (e_str (a_cons (e_str (a_cons (e_str (a_cons (e_str (a_nil ⟨by show 14 ≤ sizeLine; decide, fun p1 M1 f1 e1 l1 => ?_⟩)))))))))))))))))))))))))))))))
  refine ss_cons (s_asg 0 scope__law_words.nd (e_add (e_var 0 rfl (e_lst (a_cons (e_str (a_cons (e_str (a_cons (e_str (a_cons (e_str (a_cons (e_str (a_cons (e_str (a_cons (e_str (a_cons (e_str (a_cons (e_str (a_cons (e_str (a_nil ⟨by show 10 ≤ sizeLine; decide, fun p2 M2 f2 e2 l2 => ⟨_, _, l2.at e1, e2, by show 24 ≤ sizeLine; decide, fun p3 M3 f3 e3 l3 => ?_⟩⟩)))))))))))))))))))))))))
  refine ss_one (s_ret (e_add (e_var 0 rfl (e_lst (a_cons (e_str (a_cons (e_str (a_cons (e_str (a_nil ⟨by show 3 ≤ sizeLine; decide, fun p4 M4 f4 e4 l4 => ⟨_, _, l4.at e3, e4, by show 27 ≤ sizeLine; decide, fun p5 M5 f5 e5 l5 => Wk.here (q p5 M5 ((((l1.trans l2).trans l3).trans l4).fresh f5) ((((l1.trans l2).trans l3).trans l4).trans l5) e5)⟩⟩)))))))))))
def spName : Sp3 := fun ds M Q => ∃ (a : Addr) (ns : List Int), ds = [.ref a, .rol (ns.map D.int)] ∧ ∃ t0 : Int, StT M a t0 ∧ ∀ x M', NameS 20 x → x ∉ words → StT M' a t0 → Keep a M M' → Q (.str x) M'
theorem word_end {x : Str} : (x ++ "_") ∉ words := by
  intro h
  have key : ∀ y ∈ words, y.cps.toList.all (fun c => decide (c ≠ 95)) = true := by decide +kernel
  have h2 := key _ h
  rw [cps_app, List.all_append] at h2
  have h3 : (("_" : Str).cps.toList.all fun c => decide (c ≠ 95)) = false := by decide +kernel
  rw [h3, Bool.and_false] at h2
  cases h2
theorem ok_name (F : Fun K "_law_name" "_law_name" st__law_name f fd) (b : Binds K fd ["_law_state", "_law_script"] []) (g : mg "_law_name" = some (.ref f)) (m_range : mg "range" = none)
    (C__law_pick : Callee P w K mg base "_law_pick" 1 ["_law_state", "_law_script", "_law_many"] spPick) (C__law_words : Callee P w K mg base "_law_words" 1 [] spWords) :
    Callee P w K mg base "_law_name" 2 ["_law_state", "_law_script"] spName := by
  refine callee F scope__law_name g b (fun ds M Q ⟨a, ns, e, _⟩ => by rw [e]; rfl) (fun cdv A outer s H E hr ds M Q ⟨a, ns, e, t0, hp, q⟩ => ?_)
  subst e
  refine ss_cons (s_asg 2 scope__law_name.nd (e_str ?_))
  refine ss_cons (s_asg 3 scope__law_name.nd (e_add (e_var 2 rfl (e_str ⟨by decide, ?_⟩))))
  refine ss_cons (s_asg 4 scope__law_name.nd (e_add (e_int (e_call C__law_pick hr (a_cons (e_var 0 rfl (a_cons (e_var 1 rfl (a_cons (e_int (a_nil ?_)))))))))))
  refine ⟨a, ns, 4, rfl, _, hp, by decide, by decide, fun n1 M1 h1 h2 hp1 k1 => ?_⟩
  refine ss_cut (fun σ' M' => ∃ n : Int, σ' = [some (.ref a), some (.rol (ns.map D.int)), some (.str "abcdefghijklmnopqrstuvwxyz"), some (.str "abcdefghijklmnopqrstuvwxyz0123456789_"), some (.int n), none, none] ∧ 1 ≤ n ∧ n ≤ 20 ∧ StT M' a t0 ∧ Keep a M M') (s_if (t_eq ⟨_, hr⟩ (e_var 4 rfl (e_int ⟨trivial, ?_⟩)))) ?_
  · refine ⟨fun hc => ?_, fun hc => ss_nil ⟨_, rfl, by omega, by omega, hp1, k1⟩⟩
    refine ss_one (s_asg 4 scope__law_name.nd (e_add (e_int (e_call C__law_pick hr (a_cons (e_var 0 rfl (a_cons (e_var 1 rfl (a_cons (e_int (a_nil ?_)))))))))))
    exact ⟨a, ns, 20, rfl, _, hp1, by decide, by decide, fun n2 M2 h3 h4 hp2 k2 => ⟨_, rfl, by omega, by omega, hp2, k1.trans k2⟩⟩
  rintro σ' M' ⟨n, rfl, hn1, hn2, hp2, k2⟩
  refine ss_cons (s_asg 5 scope__law_name.nd (e_ix (e_var 2 rfl (e_call C__law_pick hr (a_cons (e_var 0 rfl (a_cons (e_var 1 rfl (a_cons (e_int (a_nil ?_)))))))))))
  refine ⟨a, ns, 26, rfl, _, hp2, by decide, by decide, fun n3 M3 h3 h4 hp3 k3 => ?_⟩
  have okl : PyData.strOk ("abcdefghijklmnopqrstuvwxyz" : Str) = true := by decide +kernel
  have okc : PyData.strOk ("abcdefghijklmnopqrstuvwxyz0123456789_" : Str) = true := by decide +kernel
  have ll : (("abcdefghijklmnopqrstuvwxyz" : Str).cps.toList.length : Int) = 26 := by decide +kernel
  have lc : (("abcdefghijklmnopqrstuvwxyz0123456789_" : Str).cps.toList.length : Int) = 37 := by decide +kernel
  have al : ("abcdefghijklmnopqrstuvwxyz" : Str).cps.toList.all lowC = true := by decide +kernel
  have ac : ("abcdefghijklmnopqrstuvwxyz0123456789_" : Str).cps.toList.all wordC = true := by decide +kernel
  obtain ⟨c, hc, _⟩ := atI_lt (xs := ("abcdefghijklmnopqrstuvwxyz" : Str).cps.toList) h3 (by rw [ll]; exact h4)
  refine ⟨by decide, c, hc, ?_⟩
  have so := strOk_sign okl hc
  have n0 : NameS 1 ⟨#[c]⟩ := ⟨so.1, so.2, c, [], rfl, all_mem al hc, fun d hd => nomatch hd⟩
  refine ss_cons (s_for PassesOwn.never (i_rng1 m_range (e_sub (e_var 4 rfl (e_int ⟨by omega, by omega, ?_⟩)))))
  refine ⟨fun i σ' M' => ∃ (x : Str) (c : Option D), σ' = [some (.ref a), some (.rol (ns.map D.int)), some (.str "abcdefghijklmnopqrstuvwxyz"), some (.str "abcdefghijklmnopqrstuvwxyz0123456789_"), some (.int n), some (.str x), c] ∧ NameS (1 + i) x ∧ StT M' a t0 ∧ Keep a M M', ⟨_, none, rfl, n0, hp3, k2.trans k3⟩, fun _ _ _ _ _ => trivial, ?_, ?_⟩
  · rintro i d σ' M' hd ⟨x, c', rfl, sx, hp4, k4⟩
    obtain ⟨hi, rfl⟩ := rgD_get hd
    refine g_name 6 scope__law_name.nd ?_
    refine ss_one (s_asg 5 scope__law_name.nd (e_add (e_var 5 rfl (e_ix (e_var 3 rfl (e_call C__law_pick hr (a_cons (e_var 0 rfl (a_cons (e_var 1 rfl (a_cons (e_int (a_nil ?_)))))))))))))
    refine ⟨a, ns, 37, rfl, _, hp4, by decide, by decide, fun n5 M5 h5 h6 hp5 k5 => ?_⟩
    obtain ⟨c5, hc5, _⟩ := atI_lt (xs := ("abcdefghijklmnopqrstuvwxyz0123456789_" : Str).cps.toList) h5 (by rw [lc]; exact h6)
    refine ⟨by decide, c5, hc5, ?_⟩
    have s5 := sx.app (all_mem ac hc5) (strOk_sign okc hc5)
    refine ⟨?_, _, _, rfl, s5.mono (by omega), hp5, k4.trans k5⟩
    have h7 := s5.len
    rw [str_len_app] at h7
    exact sz (by omega)
  · rintro σ' M' ⟨x, c', rfl, sx, hp4, k4⟩
    rw [rgD_length] at sx
    have sx20 : NameS 20 x := sx.mono (by omega)
    refine ss_if (t_in (e_var 5 rfl (e_call0 C__law_words hr ⟨rfl, fun p M5 f5 l5 e5 => ⟨_, e5, rfl, by decide +kernel, ?_⟩⟩)))
    rw [if_neg Bool.false_ne_true, inD_strs]
    refine ⟨fun h => ?_, fun h => ?_⟩
    · refine ss_one (s_ret (e_add (e_var 5 rfl (e_str ⟨sz ?_, Wk.here (q _ _ ?_ word_end (hp4.le l5) (k4.to l5))⟩))))
      · have := sx20.len
        have h1 : ("_" : Str).length = 1 := by decide
        omega
      · have h6 : x.length ≤ 19 := by
          have key : ∀ y ∈ words, y.length ≤ 19 := by decide +kernel
          exact key x (of_decide_eq_true h)
        exact NameS.app (n := 19) ⟨h6, sx20.ok, sx20.hd⟩ (c := 95) (by decide) ⟨by decide, by decide +kernel⟩
    · exact ss_one (s_ret (e_var 5 rfl (Wk.here (q _ _ (sx20.mono (by omega)) (of_decide_eq_false h) (hp4.le l5) (k4.to l5)))))
end
end My
set_option maxHeartbeats 4000000
namespace My
open PySem L2 DL
/-! ### rows of tokens -/
def inA : List Str := [",", ";", ":", ".", "?", "^", ")", "]", "["]
def inB : List Str := [".", "(", "[", "&"]
def lets : Str := "abcdefghijklmnopqrstuvwxyzABCDEFGHIJKLMNOPQRSTUVWXYZ"
def named (t : Str) : Bool := match t.cps.toList with
  | [] => false
  | c :: _ => decide (c ∈ lets.cps.toList) && !decide (t ∈ words)
def gap (p t : Str) : Str := if t ∈ inA ∨ p ∈ inB ∨ (t = "(" ∧ named p = true) then "" else " "
def rest (p : Str) : List Str → Str
  | [] => ""
  | t :: r => gap p t ++ t ++ rest t r
def lineS : List Str → Str
  | [] => ""
  | t :: r => t ++ rest t r
def lastD (p : Str) : List Str → Str
  | [] => p
  | t :: r => lastD t r
theorem s_nil (x : Str) : x ++ ("" : Str) = x := by
  apply Str.ext'
  rw [Str.cps_append]
  show x.cps ++ #[] = x.cps
  simp
theorem nil_s (x : Str) : ("" : Str) ++ x = x := by
  apply Str.ext'
  rw [Str.cps_append]
  show #[] ++ x.cps = x.cps
  simp
theorem rest_app : ∀ (a b : List Str) (p : Str), rest p (a ++ b) = rest p a ++ rest (lastD p a) b
  | [], b, p => by rw [List.nil_append, rest, lastD, nil_s]
  | t :: a, b, p => by
    rw [List.cons_append, rest, rest, lastD, rest_app a b t]
    simp only [Str.append_assoc]
theorem lastD_app : ∀ (a b : List Str) (p : Str), lastD p (a ++ b) = lastD (lastD p a) b
  | [], b, p => rfl
  | t :: a, b, p => by rw [List.cons_append, lastD, lastD, lastD_app a b t]
/-- the gap ahead of a word, a name or an open bracket behind a token that is no name -/
def pre (p : Str) : Str := if p ∈ inB then "" else " "
theorem gap_A {p t : Str} (h : t ∈ inA) : gap p t = "" := by unfold gap; rw [if_pos (.inl h)]
theorem gap_pre {p t : Str} (h : t ∉ inA) (h2 : t = "(" → named p = false) : gap p t = pre p := by
  unfold gap pre
  by_cases hb : p ∈ inB
  · rw [if_pos (.inr (.inl hb)), if_pos hb]
  · rw [if_neg hb, if_neg]
    rintro (h3 | h3 | ⟨h3, h4⟩)
    · exact h h3
    · exact hb h3
    · rw [h2 h3] at h4; cases h4
theorem pre_no {p : Str} (h : p ∉ inB) : pre p = " " := if_neg h
/-- a part of a row that reads x -/
structure RT (ρ : List Str) (x : Str) : Prop where
  line : ∀ p, named p = false → rest p ρ = pre p ++ x
  last : ∀ p, lastD p ρ ∉ inB
  ne : ρ ≠ []
def sepL : List (List Str) → List Str
  | [] => []
  | [x] => x
  | x :: y :: r => x ++ ("," : Str) :: sepL (y :: r)
theorem sepL_snoc : ∀ (l : List (List Str)) (x : List Str), sepL (l ++ [x]) = sepL l ++ (if l = [] then [] else [("," : Str)]) ++ x
  | [], x => by simp [sepL]
  | [y], x => by simp [sepL]
  | y :: z :: r, x => by
    have := sepL_snoc (z :: r) x
    rw [List.cons_append, List.cons_append, sepL, sepL, ← List.cons_append, this]
    simp
theorem comma : ("," : Str) ++ " " = ", " := by decide +kernel
theorem RT.seps : ∀ (ls : List (List Str × Str)), ls ≠ [] → (∀ q ∈ ls, RT q.1 q.2) → RT (sepL (ls.map (·.1))) (Str.join ", " (ls.map (·.2)))
  | [], h, _ => absurd rfl h
  | [q], _, h => h q List.mem_cons_self
  | q :: q2 :: r, _, h => by
    have h1 := h q List.mem_cons_self
    have h2 := RT.seps (q2 :: r) (by simp) fun x hx => h x (List.mem_cons_of_mem _ hx)
    rw [List.map_cons, List.map_cons, List.map_cons, List.map_cons, sepL]
    rw [List.map_cons, List.map_cons] at h2
    refine ⟨fun p hp => ?_, fun p => ?_, by simp [h1.ne]⟩
    · rw [rest_app, h1.line p hp, rest, gap_A (by decide +kernel), h2.line "," (by decide +kernel), pre_no (p := ",") (by decide +kernel)]
      show pre p ++ q.2 ++ ("" ++ "," ++ (" " ++ _)) = pre p ++ (q.2 ++ ", " ++ Str.join ", " (q2.2 :: r.map (·.2)))
      rw [nil_s, ← comma]
      simp only [Str.append_assoc]
    · rw [lastD_app, lastD]
      exact h2.last ","
/-- a word or a name -/
theorem RT.one {t : Str} (h : t ∉ inA) (h2 : t ∉ inB) : RT [t] t where
  line := fun p hp => by
    rw [rest, rest, s_nil, gap_pre h]
    rintro rfl
    exact absurd (by decide +kernel) h2
  last := fun p => h2
  ne := by simp
/-! ### kinds -/
mutual
def Kd.wk : Kd → Str
  | .int => "int"
  | .bool => "bool"
  | .unit => "unit"
  | .box k => "box" ++ " " ++ k.wk
  | .maybe k => "maybe" ++ " " ++ k.wk
  | .shared k => "&" ++ k.wk
  | .excl k => "&mut " ++ k.wk
  | .tup l => "(" ++ Str.join ", " (Kd.wks l) ++ ")"
  | .rcd n => n
def Kd.wks : List Kd → List Str
  | [] => []
  | k :: r => k.wk :: Kd.wks r
end
theorem Kd.wks_map : ∀ l : List Kd, Kd.wks l = l.map Kd.wk
  | [] => by simp only [Kd.wks, List.map_nil]
  | k :: r => by simp only [Kd.wks, List.map_cons, Kd.wks_map r]
mutual
def Kd.kr : Kd → List Str
  | .int => ["int"]
  | .bool => ["bool"]
  | .unit => ["unit"]
  | .box k => "box" :: k.kr
  | .maybe k => "maybe" :: k.kr
  | .shared k => "&" :: k.kr
  | .excl k => "&mut" :: k.kr
  | .tup l => ("(" : Str) :: sepL (Kd.krs l) ++ [(")" : Str)]
  | .rcd n => [n]
def Kd.krs : List Kd → List (List Str)
  | [] => []
  | k :: r => k.kr :: Kd.krs r
end
theorem Kd.krs_map : ∀ l : List Kd, Kd.krs l = l.map Kd.kr
  | [] => by simp only [Kd.krs, List.map_nil]
  | k :: r => by simp only [Kd.krs, List.map_cons, Kd.krs_map r]
/-- the kinds that are drawn -/
structure Tk (n : Nat) (k : Kd) : Prop where
  wf : k.wf = true
  lev : k.lev ≤ n
  rn : ∀ x ∈ k.rn, BigS x
theorem Tk.mono {n m : Nat} {k : Kd} (h : Tk n k) (l : n ≤ m) : Tk m k := ⟨h.wf, Nat.le_trans h.lev l, h.rn⟩
theorem Tk.part {n : Nat} {l : List Kd} (h : Tk n (.tup l)) : ∀ k ∈ l, Tk (n - 1) k := fun k hk => by
  have hw := h.wf
  simp only [Kd.wf, Bool.and_eq_true] at hw
  have hl := h.lev
  simp only [Kd.lev] at hl
  exact ⟨(Kd.wfs_iff l).mp hw.2 k hk, (Kd.levs_le l _).mp (by omega) k hk, fun x hx => h.rn x (by simp only [Kd.rn]; exact (Kd.rns_mem l x).mpr ⟨k, hk, hx⟩)⟩
theorem Tk.len {n : Nat} {l : List Kd} (h : Tk n (.tup l)) : 2 ≤ l.length ∧ l.length ≤ 6 := by
  have hw := h.wf
  simp only [Kd.wf, Bool.and_eq_true, decide_eq_true_eq] at hw
  exact hw.1
theorem big_head {x : Str} (h : BigS x) {l : List Str} (hl : ∀ t ∈ l, t.cps.toList.head?.all (fun c => decide (c < 65) || decide (90 < c)) = true) : x ∉ l := by
  intro hm
  obtain ⟨c, cs, e, h1, h2⟩ := h.hd
  have := hl x hm
  rw [e] at this
  simp at this
  omega
theorem big_A {x : Str} (h : BigS x) : x ∉ inA := big_head h (by decide +kernel)
theorem big_B {x : Str} (h : BigS x) : x ∉ inB := big_head h (by decide +kernel)
theorem name_head {n : Nat} {x : Str} (h : NameS n x) {l : List Str} (hl : ∀ t ∈ l, t.cps.toList.head?.all (fun c => decide (c < 97) || decide (122 < c)) = true) : x ∉ l := by
  intro hm
  obtain ⟨c, cs, e, h1, _⟩ := h.hd
  have := hl x hm
  rw [e] at this
  simp [lowC] at this h1
  omega
theorem name_A {n : Nat} {x : Str} (h : NameS n x) : x ∉ inA := name_head h (by decide +kernel)
theorem name_B {n : Nat} {x : Str} (h : NameS n x) : x ∉ inB := name_head h (by decide +kernel)
theorem name_named {n : Nat} {x : Str} (h : NameS n x) (hw : x ∉ words) : named x = true := by
  obtain ⟨c, cs, e, h1, _⟩ := h.hd
  unfold named
  rw [e]
  have hc : ∀ c, 97 ≤ c → c ≤ 122 → c ∈ lets.cps.toList := by
    intro c h1 h2
    have key : (List.range 123).all (fun c => decide (c < 97) || decide (c ∈ lets.cps.toList)) = true := by decide +kernel
    have := List.all_eq_true.mp key c (by simp; omega)
    simp at this
    rcases this with h | h
    · omega
    · simpa using h
  simp [lowC] at h1
  simp [hw, hc c h1.1 h1.2]
theorem RT.word {ρ : List Str} {x w : Str} (h : RT ρ x) (hA : w ∉ inA) (hB : w ∉ inB) (hn : named w = false) (hp : w ≠ "(") : RT (w :: ρ) (w ++ " " ++ x) where
  line := fun p _ => by
    rw [rest, gap_pre hA (fun h => absurd h hp), h.line w hn, pre_no hB]
    simp only [Str.append_assoc]
  last := fun p => h.last w
  ne := by simp
theorem kr_rt : ∀ (n : Nat) (k : Kd), Tk n k → RT k.kr k.wk
  | 0, k, h => by have := h.lev; have := k.lev_pos; omega
  | n + 1, k, h => by
    have sub : ∀ x : Kd, k.wf = x.wf → k.lev = x.lev + 1 → k.rn = x.rn → RT x.kr x.wk := fun x h1 h2 h3 => kr_rt n x ⟨h1.symm.trans h.wf, by have := h.lev; omega, fun y hy => h.rn y (by rw [h3]; exact hy)⟩
    cases k with
    | int => simp only [Kd.kr, Kd.wk]; exact RT.one (by decide +kernel) (by decide +kernel)
    | bool => simp only [Kd.kr, Kd.wk]; exact RT.one (by decide +kernel) (by decide +kernel)
    | unit => simp only [Kd.kr, Kd.wk]; exact RT.one (by decide +kernel) (by decide +kernel)
    | rcd x => simp only [Kd.kr, Kd.wk]; have := h.rn x (by simp [Kd.rn]); exact RT.one (big_A this) (big_B this)
    | box x =>
      simp only [Kd.kr, Kd.wk]
      exact (sub x (by simp only [Kd.wf]) rfl (by simp only [Kd.rn])).word (by decide +kernel) (by decide +kernel) (by decide +kernel) (by decide +kernel)
    | maybe x =>
      simp only [Kd.kr, Kd.wk]
      exact (sub x (by simp only [Kd.wf]) rfl (by simp only [Kd.rn])).word (by decide +kernel) (by decide +kernel) (by decide +kernel) (by decide +kernel)
    | excl x =>
      simp only [Kd.kr, Kd.wk]
      have e : ("&mut " : Str) = "&mut" ++ " " := by decide +kernel
      rw [e]
      exact (sub x (by simp only [Kd.wf]) rfl (by simp only [Kd.rn])).word (by decide +kernel) (by decide +kernel) (by decide +kernel) (by decide +kernel)
    | shared x =>
      simp only [Kd.kr, Kd.wk]
      have hx := sub x (by simp only [Kd.wf]) rfl (by simp only [Kd.rn])
      refine ⟨fun p hp => ?_, fun p => hx.last _, by simp⟩
      rw [rest, gap_pre (by decide +kernel) (fun h => absurd h (by decide +kernel)), hx.line "&" (by decide +kernel)]
      rw [show pre "&" = "" from if_pos (by decide +kernel), nil_s]
      simp only [Str.append_assoc]
    | tup l =>
      have hl := h.len
      have hq := RT.seps (l.map fun k => (k.kr, k.wk)) (by intro h; rw [List.map_eq_nil_iff] at h; subst h; simp at hl) fun q hq => by
        obtain ⟨k, hk, rfl⟩ := List.mem_map.mp hq
        exact kr_rt n k (h.part k hk)
      rw [List.map_map, List.map_map] at hq
      simp only [Kd.kr, Kd.wk, Kd.krs_map, Kd.wks_map]
      refine ⟨fun p hp => ?_, fun p => ?_, by simp⟩
      · rw [List.cons_append, rest, gap_pre (by decide +kernel) (fun _ => hp), rest_app]
        have h1 : rest "(" (sepL (l.map Kd.kr)) = pre "(" ++ Str.join ", " (l.map Kd.wk) := hq.line "(" (by decide +kernel)
        rw [h1, show pre "(" = "" from if_pos (by decide +kernel), nil_s, rest, gap_A (by decide +kernel), nil_s, rest, s_nil]
        simp only [Str.append_assoc]
      · rw [lastD_app]
        show (")" : Str) ∉ inB
        decide +kernel
theorem get_map {α : Type} {f : α → D} {l : List α} {i : Nat} {d : D} (h : (l.map f)[i]? = some d) : ∃ x, l[i]? = some x ∧ d = f x := by
  rw [List.getElem?_map] at h
  cases hx : l[i]? with
  | none => rw [hx] at h; cases h
  | some x => rw [hx] at h; cases h; exact ⟨x, rfl, rfl⟩
/-! ### lengths -/
theorem join_len {s : Str} {B : Nat} : ∀ {l : List Str}, (∀ x ∈ l, x.length ≤ B) → (Str.join s l).length ≤ l.length * (B + s.length)
  | [], _ => Nat.zero_le _
  | [x], h => by
    have := h x List.mem_cons_self
    show x.length ≤ _
    simp
    omega
  | x :: y :: r, h => by
    have h1 := h x List.mem_cons_self
    have h2 := join_len (s := s) (B := B) (l := y :: r) fun z hz => h z (List.mem_cons_of_mem _ hz)
    show (x ++ s ++ Str.join s (y :: r)).length ≤ _
    rw [str_len_app, str_len_app, List.length_cons, Nat.add_mul, Nat.one_mul]
    omega
theorem sepL_len {B : Nat} : ∀ {l : List (List Str)}, (∀ x ∈ l, x.length ≤ B) → (sepL l).length ≤ l.length * (B + 1)
  | [], _ => Nat.zero_le _
  | [x], h => by
    have := h x List.mem_cons_self
    simp [sepL]
    omega
  | x :: y :: r, h => by
    have h1 := h x List.mem_cons_self
    have h2 := sepL_len (B := B) (l := y :: r) fun z hz => h z (List.mem_cons_of_mem _ hz)
    rw [sepL, List.length_append, List.length_cons, List.length_cons, Nat.add_mul, Nat.one_mul]
    omega
theorem sepL_mem {t : Str} : ∀ {l : List (List Str)}, t ∈ sepL l → t = "," ∨ ∃ ρ ∈ l, t ∈ ρ
  | [], h => nomatch h
  | [x], h => .inr ⟨x, List.mem_cons_self, h⟩
  | x :: y :: r, h => by
    rw [sepL] at h
    rcases List.mem_append.mp h with h | h
    · exact .inr ⟨x, List.mem_cons_self, h⟩
    · rcases List.mem_cons.mp h with h | h
      · exact .inl h
      · rcases sepL_mem h with h | ⟨ρ, h1, h2⟩
        · exact .inl h
        · exact .inr ⟨ρ, List.mem_cons_of_mem _ h1, h2⟩
theorem kr_bnd : ∀ (n : Nat) (k : Kd), Tk n k → k.wk.length ≤ 30 * 7 ^ n ∧ k.kr.length ≤ 8 * 7 ^ n ∧ ∀ t ∈ k.kr, t.cps.toList ≠ []
  | 0, k, h => by have := h.lev; have := k.lev_pos; omega
  | n + 1, k, h => by
    have p7 : 1 ≤ 7 ^ n := Nat.one_le_pow _ _ (by decide)
    rw [Nat.pow_succ]
    have sub : ∀ x : Kd, k.wf = x.wf → k.lev = x.lev + 1 → k.rn = x.rn → x.wk.length ≤ 30 * 7 ^ n ∧ x.kr.length ≤ 8 * 7 ^ n ∧ ∀ t ∈ x.kr, t.cps.toList ≠ [] := fun x h1 h2 h3 => kr_bnd n x ⟨h1.symm.trans h.wf, by have := h.lev; omega, fun y hy => h.rn y (by rw [h3]; exact hy)⟩
    have one : ∀ (t : Str), t.length ≤ 30 → t.cps.toList ≠ [] → t.length ≤ 30 * (7 ^ n * 7) ∧ [t].length ≤ 8 * (7 ^ n * 7) ∧ ∀ x ∈ [t], x.cps.toList ≠ [] := fun t h1 h2 => by
      refine ⟨by omega, by simp; omega, fun x hx => by rw [List.mem_singleton] at hx; subst hx; exact h2⟩
    have two : ∀ (t w : Str) (x : Kd), k.wf = x.wf → k.lev = x.lev + 1 → k.rn = x.rn → w.length ≤ 10 → t.cps.toList ≠ [] → (w ++ x.wk).length ≤ 30 * (7 ^ n * 7) ∧ (t :: x.kr).length ≤ 8 * (7 ^ n * 7) ∧ ∀ y ∈ t :: x.kr, y.cps.toList ≠ [] := fun t w x h1 h2 h3 hw ht => by
      obtain ⟨a, b, c⟩ := sub x h1 h2 h3
      rw [str_len_app, List.length_cons]
      refine ⟨by omega, by omega, fun y hy => ?_⟩
      rcases List.mem_cons.mp hy with rfl | hy
      · exact ht
      · exact c y hy
    cases k with
    | int => simp only [Kd.kr, Kd.wk]; exact one _ (by decide +kernel) (by decide +kernel)
    | bool => simp only [Kd.kr, Kd.wk]; exact one _ (by decide +kernel) (by decide +kernel)
    | unit => simp only [Kd.kr, Kd.wk]; exact one _ (by decide +kernel) (by decide +kernel)
    | rcd x =>
      have hb := h.rn x (by simp [Kd.rn])
      simp only [Kd.kr, Kd.wk]
      obtain ⟨c, cs, e, _⟩ := hb.hd
      exact one _ (by have := hb.sok.1; omega) (by rw [e]; simp)
    | box x => simp only [Kd.kr, Kd.wk]; exact two _ _ x (by simp only [Kd.wf]) rfl (by simp only [Kd.rn]) (by decide +kernel) (by decide +kernel)
    | maybe x => simp only [Kd.kr, Kd.wk]; exact two _ _ x (by simp only [Kd.wf]) rfl (by simp only [Kd.rn]) (by decide +kernel) (by decide +kernel)
    | shared x => simp only [Kd.kr, Kd.wk]; exact two _ _ x (by simp only [Kd.wf]) rfl (by simp only [Kd.rn]) (by decide +kernel) (by decide +kernel)
    | excl x => simp only [Kd.kr, Kd.wk]; exact two _ _ x (by simp only [Kd.wf]) rfl (by simp only [Kd.rn]) (by decide +kernel) (by decide +kernel)
    | tup l =>
      have hl := h.len
      have hp := fun k hk => kr_bnd n k (h.part k hk)
      simp only [Kd.kr, Kd.wk, Kd.krs_map, Kd.wks_map]
      have hj := join_len (s := ", ") (B := 30 * 7 ^ n) (l := l.map Kd.wk) fun x hx => by
        obtain ⟨k, hk, rfl⟩ := List.mem_map.mp hx
        exact (hp k hk).1
      have hs := sepL_len (B := 8 * 7 ^ n) (l := l.map Kd.kr) fun x hx => by
        obtain ⟨k, hk, rfl⟩ := List.mem_map.mp hx
        exact (hp k hk).2.1
      rw [List.length_map] at hj hs
      have e2 : (", " : Str).length = 2 := by decide +kernel
      have e1 : ("(" : Str).length = 1 := by decide +kernel
      have e3 : (")" : Str).length = 1 := by decide +kernel
      rw [e2] at hj
      have hj' : l.length * (30 * 7 ^ n + 2) ≤ 6 * (30 * 7 ^ n + 2) := Nat.mul_le_mul_right _ hl.2
      have hs' : l.length * (8 * 7 ^ n + 1) ≤ 6 * (8 * 7 ^ n + 1) := Nat.mul_le_mul_right _ hl.2
      rw [str_len_app, str_len_app, e1, e3]
      refine ⟨by omega, by simp; omega, fun t ht => ?_⟩
      rw [List.cons_append] at ht
      rcases List.mem_cons.mp ht with rfl | ht
      · decide +kernel
      · rcases List.mem_append.mp ht with ht | ht
        · rcases sepL_mem ht with rfl | ⟨ρ, hρ, ht⟩
          · decide +kernel
          · obtain ⟨k, hk, rfl⟩ := List.mem_map.mp hρ
            exact (hp k hk).2.2 t ht
        · rw [List.mem_singleton] at ht; subst ht; decide +kernel
/-! ### fields, functions, programs -/
def fD (p : Str × Kd) : D := .tup [.str p.1, p.2.d]
abbrev Rw := List (Str × List (Str × Kd))
def rowD (r : Str × List (Str × Kd)) : D := .tup [.str r.1, .tup (r.2.map fD)]
def fS (p : Str × Kd) : Str := p.1 ++ ": " ++ p.2.wk
def fsS (fs : List (Str × Kd)) : Str := Str.join ", " (fs.map fS)
def fR (p : Str × Kd) : List Str := p.1 :: ":" :: p.2.kr
def fsR (fs : List (Str × Kd)) : List Str := sepL (fs.map fR)
structure Nm (x : Str) : Prop where
  nm : NameS 20 x
  nw : x ∉ words
structure Fd (p : Str × Kd) : Prop where
  nm : Nm p.1
  k : Tk 3 p.2
theorem Nm.rt {x : Str} (h : Nm x) : RT [x] x := RT.one (name_A h.nm) (name_B h.nm)
theorem Nm.ne {x : Str} (h : Nm x) : x.cps.toList ≠ [] := by
  obtain ⟨c, cs, e, _⟩ := h.nm.hd
  rw [e]; simp
theorem Nm.par {x : Str} (h : Nm x) : x ≠ "(" := by
  rintro rfl
  exact absurd (show ("(" : Str) ∈ inB by decide +kernel) (name_B h.nm)
theorem fR_rt {p : Str × Kd} (h : Fd p) : RT (fR p) (fS p) := by
  have hk := kr_rt 3 p.2 h.k
  refine ⟨fun q hq => ?_, fun q => hk.last _, by simp [fR]⟩
  rw [fR, rest, rest, gap_pre (name_A h.nm.nm) (fun e => absurd e h.nm.par), gap_A (by decide +kernel), hk.line ":" (by decide +kernel), pre_no (p := ":") (by decide +kernel), nil_s, fS, show (": " : Str) = ":" ++ " " by decide +kernel]
  simp only [Str.append_assoc]
theorem fsR_rt {fs : List (Str × Kd)} (hn : fs ≠ []) (h : ∀ p ∈ fs, Fd p) : RT (fsR fs) (fsS fs) := by
  have := RT.seps (fs.map fun p => (fR p, fS p)) (by simpa using hn) fun q hq => by
    obtain ⟨p, hp, rfl⟩ := List.mem_map.mp hq
    exact fR_rt (h p hp)
  rw [List.map_map, List.map_map] at this
  exact this
theorem fS_len {p : Str × Kd} (h : Fd p) : (fS p).length ≤ 10313 := by
  have h1 := (kr_bnd 3 p.2 h.k).1
  have h2 := h.nm.nm.len
  have e : (": " : Str).length = 2 := by decide +kernel
  rw [fS, str_len_app, str_len_app, e]
  omega
theorem fR_len {p : Str × Kd} (h : Fd p) : (fR p).length ≤ 2746 := by
  have h1 := (kr_bnd 3 p.2 h.k).2.1
  rw [fR, List.length_cons, List.length_cons]
  omega
theorem fR_ne {p : Str × Kd} (h : Fd p) : ∀ t ∈ fR p, t.cps.toList ≠ [] := fun t ht => by
  rcases List.mem_cons.mp ht with rfl | ht
  · exact h.nm.ne
  · rcases List.mem_cons.mp ht with rfl | ht
    · decide +kernel
    · exact (kr_bnd 3 p.2 h.k).2.2 t ht
theorem fsS_len {fs : List (Str × Kd)} (h : ∀ p ∈ fs, Fd p) : (fsS fs).length ≤ fs.length * 10315 := by
  have := join_len (s := ", ") (B := 10313) (l := fs.map fS) fun x hx => by
    obtain ⟨p, hp, rfl⟩ := List.mem_map.mp hx
    exact fS_len (h p hp)
  rwa [List.length_map] at this
theorem fsR_len {fs : List (Str × Kd)} (h : ∀ p ∈ fs, Fd p) : (fsR fs).length ≤ fs.length * 2747 := by
  have := sepL_len (B := 2746) (l := fs.map fR) fun x hx => by
    obtain ⟨p, hp, rfl⟩ := List.mem_map.mp hx
    exact fR_len (h p hp)
  rwa [List.length_map] at this
theorem fsR_ne {fs : List (Str × Kd)} (h : ∀ p ∈ fs, Fd p) : ∀ t ∈ fsR fs, t.cps.toList ≠ [] := fun t ht => by
  rcases sepL_mem ht with rfl | ⟨ρ, hρ, ht⟩
  · decide +kernel
  · obtain ⟨p, hp, rfl⟩ := List.mem_map.mp hρ
    exact fR_ne (h p hp) t ht
/-- a record -/
structure Rc (r : Str × List (Str × Kd)) : Prop where
  nm : BigS r.1
  fl : ∀ p ∈ r.2, Fd p
  l1 : 1 ≤ r.2.length
  l7 : r.2.length ≤ 7
def rcS (r : Str × List (Str × Kd)) : Str := "record " ++ r.1 ++ " { " ++ fsS r.2 ++ " }"
def rcR (r : Str × List (Str × Kd)) : List Str := (["record", r.1, "{"] : List Str) ++ fsR r.2 ++ (["}"] : List Str)
theorem rc_line {r : Str × List (Str × Kd)} (h : Rc r) : lineS (rcR r) = rcS r := by
  have hf := fsR_rt (fs := r.2) (by intro e; have := h.l1; rw [e] at this; simp at this) h.fl
  rw [rcR, List.append_assoc, List.cons_append, lineS, List.cons_append, List.cons_append, List.nil_append, rest, rest, rest_app, hf.line "{" (by decide +kernel), rest, rest, s_nil]
  rw [gap_pre (p := "record") (big_A h.nm) (fun _ => by decide +kernel), pre_no (p := "record") (by decide +kernel)]
  rw [gap_pre (t := "{") (by decide +kernel) (fun e => absurd e (by decide +kernel)), pre_no (big_B h.nm), pre_no (p := "{") (by decide +kernel)]
  rw [gap_pre (t := "}") (by decide +kernel) (fun e => absurd e (by decide +kernel)), pre_no (hf.last _)]
  rw [rcS, show ("record " : Str) = "record" ++ " " by decide +kernel, show (" { " : Str) = " " ++ ("{" ++ " ") by decide +kernel, show (" }" : Str) = " " ++ "}" by decide +kernel]
  simp only [Str.append_assoc]
structure Fu where
  nm : Str
  ps : List (Str × Kd)
  res : Kd
  src : List Str
structure FuOk (x : Fu) : Prop where
  nm : Nm x.nm
  ps : ∀ p ∈ x.ps, Fd p
  l3 : x.ps.length ≤ 3
  res : Tk 3 x.res
  src : ∀ s ∈ x.src, Nm s
  l2 : x.src.length ≤ 2
def fuH (x : Fu) : Str := "fn " ++ x.nm ++ "(" ++ fsS x.ps ++ ") -> " ++ x.res.wk
def fuS (x : Fu) : Str := if x.src = [] then fuH x else fuH x ++ " from " ++ Str.join ", " x.src
def srcR (l : List Str) : List Str := if l = [] then [] else "from" :: sepL (l.map fun s => [s])
theorem srcR_snoc (l : List Str) (s : Str) : srcR (l ++ [s]) = srcR l ++ ([if l = [] then "from" else ",", s] : List Str) := by
  unfold srcR
  rw [if_neg (by simp), List.map_append, List.map_cons, List.map_nil, sepL_snoc]
  by_cases h : l = []
  · subst h
    simp [sepL]
  · rw [if_neg h, if_neg h, if_neg (by simpa using h)]
    simp
def hdR (x : Fu) : List Str := (["fn", x.nm, "("] : List Str) ++ fsR x.ps ++ ([")", "->"] : List Str) ++ x.res.kr ++ srcR x.src
theorem fu_line {x : Fu} (h : FuOk x) : lineS (hdR x ++ (["{"] : List Str)) = fuS x ++ " {" := by
  have hk := kr_rt 3 x.res h.res
  have hfs : rest "(" (fsR x.ps) = fsS x.ps := by
    by_cases e : x.ps = []
    · rw [e]
      rfl
    · rw [(fsR_rt e h.ps).line "(" (by decide +kernel), show pre "(" = "" from if_pos (by decide +kernel), nil_s]
  have hsrc : ∀ p, p ∉ inB → rest p (srcR x.src ++ (["{"] : List Str)) = (if x.src = [] then ("" : Str) else (" from " : Str) ++ Str.join ", " x.src) ++ " {" := by
    intro p hp
    have eb : (" {" : Str) = " " ++ "{" := by decide +kernel
    by_cases e : x.src = []
    · rw [e, if_pos rfl, nil_s]
      show rest p (["{"] : List Str) = _
      rw [rest, rest, s_nil, gap_pre (t := "{") (by decide +kernel) (fun e => absurd e (by decide +kernel)), pre_no hp, eb]
    · have hq := RT.seps (x.src.map fun s => ([s], s)) (by simpa using e) fun q hq => by
        obtain ⟨s, hs, rfl⟩ := List.mem_map.mp hq
        exact (h.src s hs).rt
      rw [List.map_map, List.map_map] at hq
      have e3 : x.src.map ((fun x : List Str × Str => x.2) ∘ fun s => ([s], s)) = x.src := by
        rw [show ((fun x : List Str × Str => x.2) ∘ fun s : Str => ([s], s)) = id from rfl, List.map_id]
      rw [e3] at hq
      have hq' : RT (sepL (x.src.map fun s => [s])) (Str.join ", " x.src) := hq
      unfold srcR
      rw [if_neg e, if_neg e, List.cons_append, rest, rest_app, hq'.line "from" (by decide +kernel), pre_no (p := "from") (by decide +kernel), rest, rest, s_nil]
      rw [gap_pre (t := "from") (by decide +kernel) (fun e => absurd e (by decide +kernel)), pre_no hp, gap_pre (t := "{") (by decide +kernel) (fun e => absurd e (by decide +kernel)), pre_no (hq'.last _), eb, show (" from " : Str) = " " ++ ("from" ++ " ") by decide +kernel]
      simp only [Str.append_assoc]
  have e0 : hdR x ++ (["{"] : List Str) = ("fn" : Str) :: x.nm :: ("(" : Str) :: (fsR x.ps ++ ((")" : Str) :: ("->" : Str) :: (x.res.kr ++ (srcR x.src ++ (["{"] : List Str))))) := by simp [hdR]
  rw [e0, lineS, rest, rest, rest_app, hfs, rest, rest, rest_app, hk.line "->" (by decide +kernel), hsrc _ (hk.last _)]
  rw [gap_pre (name_A h.nm.nm) (fun e => absurd e h.nm.par), pre_no (p := "fn") (by decide +kernel)]
  rw [show gap x.nm "(" = "" from if_pos (.inr (.inr ⟨rfl, name_named h.nm.nm h.nm.nw⟩)), gap_A (t := ")") (by decide +kernel), gap_pre (t := "->") (by decide +kernel) (fun e => absurd e (by decide +kernel)), pre_no (p := ")") (by decide +kernel), pre_no (p := "->") (by decide +kernel), nil_s, nil_s]
  unfold fuS fuH
  rw [show ("fn " : Str) = "fn" ++ " " by decide +kernel, show (") -> " : Str) = ")" ++ (" " ++ ("->" ++ " ")) by decide +kernel]
  by_cases e : x.src = []
  · rw [if_pos e, if_pos e, nil_s]
    simp only [Str.append_assoc]
  · rw [if_neg e, if_neg e]
    simp only [Str.append_assoc]
/-! ### expressions -/
def plcD (v : Str) (ss : List D) : D := .tup [.str v, .tup ss]
inductive Ex where
  | int (i : Int) | bool (b : Bool) | unit | none (k : Kd)
  | use (v : Str) (ss : List D) | is (v : Str) (ss : List D) | bor (m : Bool) (v : Str) (ss : List D)
  | un (w : Str) (e : Ex) | swap (v : Str) (ss : List D) (e : Ex) | op (s : Str) (l r : Ex)
  | tup (l : List Ex) | rcd (n : Str) (l : List Ex) | call (n : Str) (l : List Ex)
def borS (m : Bool) : Str := if m then "exclusive" else "shared"
mutual
def Ex.d : Ex → D
  | .int i => .tup [.str "int", .int i]
  | .bool b => .tup [.str "bool", .bl b]
  | .unit => .tup [.str "unit"]
  | .none k => .tup [.str "none", k.d]
  | .use v ss => .tup [.str "use", plcD v ss]
  | .is v ss => .tup [.str "is", plcD v ss]
  | .bor m v ss => .tup [.str "borrow", .str (borS m), plcD v ss]
  | .un w e => .tup [.str w, e.d]
  | .swap v ss e => .tup [.str "swap", plcD v ss, e.d]
  | .op s l r => .tup [.str "op", .str s, l.d, r.d]
  | .tup l => .tup [.str "tuple", .tup (Ex.ds l)]
  | .rcd n l => .tup [.str "record", .str n, .tup (Ex.ds l)]
  | .call n l => .tup [.str "call", .str n, .tup (Ex.ds l)]
def Ex.ds : List Ex → List D
  | [] => []
  | e :: r => e.d :: Ex.ds r
end
theorem Ex.ds_map : ∀ l : List Ex, Ex.ds l = l.map Ex.d
  | [] => by simp only [Ex.ds, List.map_nil]
  | k :: r => by simp only [Ex.ds, List.map_cons, Ex.ds_map r]
def stS : D → Str
  | .str x => if x = "?" ∨ x = "^" then x else "." ++ x
  | d => "." ++ strD d
def stR : D → List Str
  | .str x => if x = "?" ∨ x = "^" then [x] else [".", x]
  | d => [".", strD d]
def plS (v : Str) (ss : List D) : Str := v ++ Str.join "" (ss.map stS)
def plR (v : Str) (ss : List D) : List Str := v :: (ss.map stR).flatten
def StOk (s : D) : Prop := s = .str "?" ∨ s = .str "^" ∨ (∃ x, Nm x ∧ s = .str x) ∨ ∃ i : Nat, i < 10 ^ 10 ∧ s = .int (i : Int)
structure Pk (v : Str) (ss : List D) : Prop where
  nm : Nm v
  l13 : ss.length ≤ 13
  st : ∀ s ∈ ss, StOk s
def unW : List Str := ["some", "box", "unbox", "not"]
def opW : List Str := ["+", "-", "*", "<", "==", "and", "or"]
/-- an expression of a depth -/
inductive EOk : Nat → Ex → Prop
  | int {n : Nat} {i : Int} : -2147483648 ≤ i ∧ i ≤ 2147483647 → EOk (n + 1) (.int i)
  | bool {n : Nat} (b : Bool) : EOk (n + 1) (.bool b)
  | unit {n : Nat} : EOk (n + 1) .unit
  | none {n : Nat} {k : Kd} : Tk 3 k → EOk (n + 1) (.none k)
  | use {n : Nat} {v : Str} {ss : List D} : Pk v ss → EOk (n + 1) (.use v ss)
  | is {n : Nat} {v : Str} {ss : List D} : Pk v ss → EOk (n + 1) (.is v ss)
  | bor {n : Nat} {m : Bool} {v : Str} {ss : List D} : Pk v ss → EOk (n + 1) (.bor m v ss)
  | un {n : Nat} {w : Str} {e : Ex} : w ∈ unW → EOk n e → EOk (n + 1) (.un w e)
  | swap {n : Nat} {v : Str} {ss : List D} {e : Ex} : Pk v ss → EOk n e → EOk (n + 1) (.swap v ss e)
  | op {n : Nat} {s : Str} {l r : Ex} : s ∈ opW → EOk n l → EOk n r → EOk (n + 1) (.op s l r)
  | tup {n : Nat} {l : List Ex} : 2 ≤ l.length → l.length ≤ 6 → (∀ e ∈ l, EOk n e) → EOk (n + 1) (.tup l)
  | rcd {n : Nat} {x : Str} {l : List Ex} : BigS x → l.length ≤ 6 → (∀ e ∈ l, EOk n e) → EOk (n + 1) (.rcd x l)
  | call {n : Nat} {x : Str} {l : List Ex} : Nm x → l.length ≤ 6 → (∀ e ∈ l, EOk n e) → EOk (n + 1) (.call x l)
def parS (xs : List Str) : Str := "(" ++ Str.join ", " xs ++ ")"
def parR (ρs : List (List Str)) : List Str := ("(" : Str) :: sepL ρs ++ [(")" : Str)]
mutual
def Ex.we : Ex → Str
  | .int i => strD (.int i)
  | .bool b => if b then ("true" : Str) else ("false" : Str)
  | .unit => "unit"
  | .none k => "none[" ++ k.wk ++ "]"
  | .use v ss => plS v ss
  | .is v ss => plS v ss ++ " is some"
  | .bor m v ss => (if m then ("&mut " : Str) else ("&" : Str)) ++ plS v ss
  | .un w e => w ++ " " ++ e.we
  | .swap v ss e => "swap " ++ plS v ss ++ " with " ++ e.we
  | .op s l r => "(" ++ l.we ++ " " ++ s ++ " " ++ r.we ++ ")"
  | .tup l => parS (Ex.wes l)
  | .rcd n l => n ++ parS (Ex.wes l)
  | .call n l => n ++ parS (Ex.wes l)
def Ex.wes : List Ex → List Str
  | [] => []
  | e :: r => e.we :: Ex.wes r
end
theorem Ex.wes_map : ∀ l : List Ex, Ex.wes l = l.map Ex.we
  | [] => by simp only [Ex.wes, List.map_nil]
  | k :: r => by simp only [Ex.wes, List.map_cons, Ex.wes_map r]
mutual
def Ex.er : Ex → List Str
  | .int i => [strD (.int i)]
  | .bool b => [if b then ("true" : Str) else ("false" : Str)]
  | .unit => ["unit"]
  | .none k => ("none" : Str) :: ("[" : Str) :: (k.kr ++ [("]" : Str)])
  | .use v ss => plR v ss
  | .is v ss => plR v ss ++ (["is", "some"] : List Str)
  | .bor m v ss => (if m then ("&mut" : Str) else ("&" : Str)) :: plR v ss
  | .un w e => w :: e.er
  | .swap v ss e => ("swap" : Str) :: (plR v ss ++ (("with" : Str) :: e.er))
  | .op s l r => ("(" : Str) :: (l.er ++ (s :: (r.er ++ [(")" : Str)])))
  | .tup l => parR (Ex.ers l)
  | .rcd n l => n :: parR (Ex.ers l)
  | .call n l => n :: parR (Ex.ers l)
def Ex.ers : List Ex → List (List Str)
  | [] => []
  | e :: r => e.er :: Ex.ers r
end
theorem Ex.ers_map : ∀ l : List Ex, Ex.ers l = l.map Ex.er
  | [] => by simp only [Ex.ers, List.map_nil]
  | k :: r => by simp only [Ex.ers, List.map_cons, Ex.ers_map r]
theorem num_out {i : Int} {l : List Str} (hl : ∀ t ∈ l, t.cps.toList.head?.all (fun c => decide (c < 45) || decide (c = 46) || decide (57 < c)) = true) : strD (.int i) ∉ l := by
  intro hm
  obtain ⟨c, cs, e, h⟩ := num_text i
  have := hl _ hm
  rw [e] at this
  simp at this
  omega
theorem num_A {i : Int} : strD (.int i) ∉ inA := num_out (by decide +kernel)
theorem num_B {i : Int} : strD (.int i) ∉ inB := num_out (by decide +kernel)
theorem st_rt {s : D} (h : StOk s) (p : Str) : rest p (stR s) = stS s ∧ lastD p (stR s) ∉ inB := by
  have two : ∀ x : Str, x ∉ inB → rest p [".", x] = "." ++ x ∧ lastD p [".", x] ∉ inB := fun x hx => by
    refine ⟨?_, hx⟩
    rw [rest, rest, rest, gap_A (by decide +kernel), show gap "." x = "" from if_pos (.inr (.inl (by decide +kernel))), nil_s, nil_s, s_nil]
  have one : ∀ x : Str, x = "?" ∨ x = "^" → rest p [x] = x ∧ lastD p [x] ∉ inB := fun x hx => by
    rw [rest, rest, s_nil]
    rcases hx with rfl | rfl
    · exact ⟨by rw [gap_A (by decide +kernel), nil_s], by show ("?" : Str) ∉ inB; decide +kernel⟩
    · exact ⟨by rw [gap_A (by decide +kernel), nil_s], by show ("^" : Str) ∉ inB; decide +kernel⟩
  rcases h with rfl | rfl | ⟨x, hx, rfl⟩ | ⟨i, _, rfl⟩
  · simp only [stR, stS, true_or, if_true]
    exact one _ (.inl rfl)
  · simp only [stR, stS, or_true, if_true]
    exact one _ (.inr rfl)
  · have hq : ¬ (x = "?" ∨ x = "^") := fun h => by
      rcases h with rfl | rfl
      · exact name_A hx.nm (by decide +kernel)
      · exact name_A hx.nm (by decide +kernel)
    simp only [stR, stS, if_neg hq]
    exact two x (name_B hx.nm)
  · exact two _ num_B
theorem sts_rt : ∀ (ss : List D), (∀ s ∈ ss, StOk s) → ∀ p, p ∉ inB → rest p ((ss.map stR).flatten) = Str.join "" (ss.map stS) ∧ lastD p ((ss.map stR).flatten) ∉ inB
  | [], _, p, hp => ⟨rfl, hp⟩
  | s :: r, h, p, hp => by
    obtain ⟨h1, h2⟩ := st_rt (h s List.mem_cons_self) p
    obtain ⟨h3, h4⟩ := sts_rt r (fun x hx => h x (List.mem_cons_of_mem _ hx)) _ h2
    rw [List.map_cons, List.map_cons, List.flatten_cons, rest_app, lastD_app]
    refine ⟨?_, h4⟩
    rw [h1, h3]
    cases r with
    | nil => exact s_nil _
    | cons a r =>
      show stS s ++ _ = stS s ++ "" ++ _
      rw [s_nil]
theorem pl_rt {v : Str} {ss : List D} (h : Pk v ss) : RT (plR v ss) (plS v ss) := by
  obtain ⟨h1, h2⟩ := sts_rt ss h.st v (name_B h.nm.nm)
  refine ⟨fun p hp => ?_, fun p => h2, by simp [plR]⟩
  rw [plR, rest, gap_pre (name_A h.nm.nm) (fun e => absurd e h.nm.par), h1, plS]
  simp only [Str.append_assoc]
theorem par_rt (qs : List (List Str × Str)) (h : ∀ q ∈ qs, RT q.1 q.2) : ∀ p, rest p (parR (qs.map (·.1))) = gap p "(" ++ parS (qs.map (·.2)) := by
  intro p
  have h1 : rest "(" (sepL (qs.map (·.1))) = Str.join ", " (qs.map (·.2)) := by
    by_cases e : qs = []
    · rw [e]; rfl
    · rw [(RT.seps qs e h).line "(" (by decide +kernel), show pre "(" = "" from if_pos (by decide +kernel), nil_s]
  rw [parR, List.cons_append, rest, rest_app, h1, rest, rest, gap_A (t := ")") (by decide +kernel), nil_s, s_nil, parS]
  simp only [Str.append_assoc]
theorem par_last (ρs : List (List Str)) (p : Str) : lastD p (parR ρs) ∉ inB := by
  rw [parR, List.cons_append, lastD, lastD_app]
  show (")" : Str) ∉ inB
  decide +kernel
theorem un_p {w : Str} (h : w ∈ unW) : w ∉ inA ∧ w ∉ inB ∧ named w = false ∧ w ≠ "(" := by
  simp only [unW, List.mem_cons, List.not_mem_nil, or_false] at h
  rcases h with rfl | rfl | rfl | rfl <;> decide +kernel
theorem op_p {w : Str} (h : w ∈ opW) : w ∉ inA ∧ w ∉ inB ∧ named w = false ∧ w ≠ "(" := by
  simp only [opW, List.mem_cons, List.not_mem_nil, or_false] at h
  rcases h with rfl | rfl | rfl | rfl | rfl | rfl | rfl <;> decide +kernel
theorem er_rt : ∀ (n : Nat) (e : Ex), EOk n e → RT e.er e.we
  | 0, e, h => nomatch h
  | n + 1, e, h => by
    have parts : ∀ l : List Ex, (∀ e ∈ l, EOk n e) → ∀ p, rest p (parR (l.map Ex.er)) = gap p "(" ++ parS (l.map Ex.we) := fun l hl p => by
      have := par_rt (l.map fun e => (e.er, e.we)) (fun q hq => by
        obtain ⟨e, he, rfl⟩ := List.mem_map.mp hq
        exact er_rt n e (hl e he)) p
      rw [List.map_map, List.map_map] at this
      exact this
    have hd : ∀ (x : Str) (l : List Ex), x ∉ inA → x ≠ "(" → named x = true → (∀ e ∈ l, EOk n e) → RT (x :: parR (l.map Ex.er)) (x ++ parS (l.map Ex.we)) := fun x l hA hp hn hl => by
      refine ⟨fun p _ => ?_, fun p => par_last _ x, by simp⟩
      rw [rest, gap_pre hA (fun e => absurd e hp), parts l hl, show gap x "(" = "" from if_pos (.inr (.inr ⟨rfl, hn⟩)), nil_s]
      simp only [Str.append_assoc]
    cases h with
    | int h => simp only [Ex.er, Ex.we]; exact RT.one num_A num_B
    | bool b => simp only [Ex.er, Ex.we]; cases b <;> exact RT.one (by decide +kernel) (by decide +kernel)
    | unit => simp only [Ex.er, Ex.we]; exact RT.one (by decide +kernel) (by decide +kernel)
    | none h =>
      rename_i k
      have hk := kr_rt 3 k h
      simp only [Ex.er, Ex.we]
      refine ⟨fun p _ => ?_, fun p => ?_, by simp⟩
      · rw [rest, rest, rest_app, hk.line "[" (by decide +kernel), rest, rest, gap_pre (t := "none") (by decide +kernel) (fun e => absurd e (by decide +kernel)), gap_A (t := "[") (by decide +kernel), gap_A (t := "]") (by decide +kernel), show pre "[" = "" from if_pos (by decide +kernel), nil_s, nil_s, nil_s, s_nil, show ("none[" : Str) = "none" ++ "[" by decide +kernel]
        simp only [Str.append_assoc]
      · rw [lastD, lastD, lastD_app]
        show ("]" : Str) ∉ inB
        decide +kernel
    | use h => simp only [Ex.er, Ex.we]; exact pl_rt h
    | is h =>
      have hq := pl_rt h
      simp only [Ex.er, Ex.we]
      refine ⟨fun p hp => ?_, fun p => ?_, by simp⟩
      · rw [rest_app, hq.line p hp, rest, rest, rest, s_nil, gap_pre (t := "is") (by decide +kernel) (fun e => absurd e (by decide +kernel)), pre_no (hq.last p), gap_pre (t := "some") (by decide +kernel) (fun e => absurd e (by decide +kernel)), pre_no (p := "is") (by decide +kernel), show (" is some" : Str) = " " ++ ("is" ++ (" " ++ "some")) by decide +kernel]
        simp only [Str.append_assoc]
      · rw [lastD_app]
        show ("some" : Str) ∉ inB
        decide +kernel
    | bor h =>
      rename_i m v ss
      have hq := pl_rt h
      simp only [Ex.er, Ex.we]
      cases m
      · rw [if_neg Bool.false_ne_true, if_neg Bool.false_ne_true]
        refine ⟨fun p _ => ?_, fun p => hq.last "&", by simp⟩
        rw [rest, gap_pre (by decide +kernel) (fun h => absurd h (by decide +kernel)), hq.line "&" (by decide +kernel), show pre "&" = "" from if_pos (by decide +kernel), nil_s]
        simp only [Str.append_assoc]
      · rw [if_pos rfl, if_pos rfl, show ("&mut " : Str) = "&mut" ++ " " by decide +kernel]
        exact hq.word (by decide +kernel) (by decide +kernel) (by decide +kernel) (by decide +kernel)
    | un hw he =>
      obtain ⟨a, b, c, d⟩ := un_p hw
      simp only [Ex.er, Ex.we]
      exact (er_rt n _ he).word a b c d
    | swap h he =>
      have hq := pl_rt h
      have hr := er_rt n _ he
      simp only [Ex.er, Ex.we]
      refine ⟨fun p _ => ?_, fun p => ?_, by simp⟩
      · rw [rest, rest_app, hq.line "swap" (by decide +kernel), rest, hr.line "with" (by decide +kernel), gap_pre (t := "swap") (by decide +kernel) (fun e => absurd e (by decide +kernel)), gap_pre (t := "with") (by decide +kernel) (fun e => absurd e (by decide +kernel)), pre_no (hq.last _), pre_no (p := "swap") (by decide +kernel), pre_no (p := "with") (by decide +kernel), show ("swap " : Str) = "swap" ++ " " by decide +kernel, show (" with " : Str) = " " ++ ("with" ++ " ") by decide +kernel]
        simp only [Str.append_assoc]
      · rw [lastD, lastD_app, lastD]
        exact hr.last _
    | op hs hl hr =>
      rename_i s l r
      obtain ⟨a, b, c, d⟩ := op_p hs
      have h1 := er_rt n l hl
      have h2 := er_rt n r hr
      simp only [Ex.er, Ex.we]
      refine ⟨fun p hp => ?_, fun p => ?_, by simp⟩
      · rw [rest, rest_app, h1.line "(" (by decide +kernel), rest, rest_app, h2.line s c, rest, rest, gap_pre (t := "(") (by decide +kernel) (fun _ => hp), gap_pre a (fun e => absurd e d), pre_no (h1.last _), pre_no b, gap_A (t := ")") (by decide +kernel), show pre "(" = "" from if_pos (by decide +kernel), nil_s, nil_s, s_nil]
        simp only [Str.append_assoc]
      · rw [lastD, lastD_app, lastD, lastD_app]
        show (")" : Str) ∉ inB
        decide +kernel
    | tup hne _ hl =>
      simp only [Ex.er, Ex.we, Ex.ers_map, Ex.wes_map]
      refine ⟨fun p hp => ?_, fun p => par_last _ p, by simp [parR]⟩
      rw [parts _ hl, gap_pre (by decide +kernel) (fun _ => hp)]
    | rcd hx _ hl =>
      rename_i x l _
      simp only [Ex.er, Ex.we, Ex.ers_map, Ex.wes_map]
      refine hd x l (big_A hx) (fun e => by rw [e] at hx; exact absurd (show ("(" : Str) ∈ inB by decide +kernel) (big_B hx)) ?_ hl
      obtain ⟨c, cs, e, h1, h2⟩ := hx.hd
      have hw : x ∉ words := big_head hx (by decide +kernel)
      have hc : c ∈ lets.cps.toList := by
        have key : (List.range 91).all (fun c => decide (c < 65) || decide (c ∈ lets.cps.toList)) = true := by decide +kernel
        have := List.all_eq_true.mp key c (by simp; omega)
        simp at this
        rcases this with h | h
        · omega
        · simpa using h
      unfold named
      rw [e]
      simp [hw, hc]
    | call hx _ hl =>
      simp only [Ex.er, Ex.we, Ex.ers_map, Ex.wes_map]
      exact hd _ _ (name_A hx.nm) hx.par (name_named hx.nm hx.nw) hl
end My
set_option maxHeartbeats 4000000
namespace My
open PySem L2 DL
/-! ### tokens -/
abbrev Ls (x : Str) : List Nat := x.cps.toList
theorem ls_ext {x y : Str} (h : Ls x = Ls y) : x = y := Str.ext' (Array.toList_inj.mp h)
def ofL (l : List Nat) : Str := ⟨l.toArray⟩
theorem ls_ofL (l : List Nat) : Ls (ofL l) = l := by simp [ofL, Ls]
theorem ofL_ls (x : Str) : ofL (Ls x) = x := ls_ext (ls_ofL _)
theorem ls_len (x : Str) : (Ls x).length = x.length := Array.length_toList
theorem ls_app (x y : Str) : Ls (x ++ y) = Ls x ++ Ls y := cps_app x y
theorem ls_nil {x : Str} (h : Ls x = []) : x = "" := ls_ext h
def smallT : Str := "abcdefghijklmnopqrstuvwxyz"
def largeT : Str := "ABCDEFGHIJKLMNOPQRSTUVWXYZ"
def digT : Str := "0123456789"
def letCh : Str := "abcdefghijklmnopqrstuvwxyzABCDEFGHIJKLMNOPQRSTUVWXYZ"
def nameCh : Str := "abcdefghijklmnopqrstuvwxyz0123456789_"
def recCh : Str := "abcdefghijklmnopqrstuvwxyzABCDEFGHIJKLMNOPQRSTUVWXYZ0123456789"
def wordCh : Str := "abcdefghijklmnopqrstuvwxyzABCDEFGHIJKLMNOPQRSTUVWXYZ0123456789_"
def signs : List Str := ["->", "==", "{", "}", "(", ")", "[", "]", ",", ";", ":", ".", "?", "^", "&", "+", "-", "*", "<", "="]
def firstIn (x y : Str) : Bool := match Ls x with
  | [] => false
  | c :: _ => decide (c ∈ Ls y)
def allIn (x y : Str) : Bool := (Ls x).all fun c => decide (c ∈ Ls y)
def isNm (w : Str) : Bool := if w = "" ∨ 20 < w.length ∨ w ∈ words then false else firstIn w smallT && allIn w nameCh
def isRn (w : Str) : Bool := if w = "" ∨ 20 < w.length then false else firstIn w largeT && allIn w recCh
def formW (w : Str) : Str := if w ∈ words then "word" else if isNm w = true then "name" else if isRn w = true then "record" else "bad"
def formN (w : Str) : Str := if 10 < w.length ∨ ((Ls w).head? = some 48 ∧ 1 < w.length) then "bad" else "number"
def run (y : Str) (cs : List Nat) : List Nat := cs.takeWhile fun c => decide (c ∈ Ls y)
def tokAt : List Nat → Str × Str
  | [] => ("end", "")
  | c :: r => if c ∈ Ls letCh then (formW (ofL (run wordCh (c :: r))), ofL (run wordCh (c :: r)))
    else if c ∈ Ls digT then (formN (ofL (run digT (c :: r))), ofL (run digT (c :: r)))
    else match signs.find? fun s => (Ls s).isPrefixOf (c :: r) with
      | some s => ("sign", s)
      | none => ("bad", ofL [c])
theorem tokAt_cons (c : Nat) (r : List Nat) : tokAt (c :: r) = if c ∈ Ls letCh then (formW (ofL (run wordCh (c :: r))), ofL (run wordCh (c :: r)))
    else if c ∈ Ls digT then (formN (ofL (run digT (c :: r))), ofL (run digT (c :: r)))
    else match signs.find? fun s => (Ls s).isPrefixOf (c :: r) with
      | some s => ("sign", s)
      | none => ("bad", ofL [c]) := rfl
def formT (t : Str) : Str := (tokAt (Ls t)).1
structure Tok where
  form : Str
  text : Str
  line : Int
  col : Int
inductive Lex : List Nat → Int → Int → List Tok → Prop
  | nil {l c : Int} : Lex [] l c [⟨"end", "", l, c⟩]
  | nl {r : List Nat} {l c : Int} {ts : List Tok} : Lex r (l + 1) 1 ts → Lex (10 :: r) l c ts
  | sp {r : List Nat} {l c : Int} {ts : List Tok} : Lex r l (c + 1) ts → Lex (32 :: r) l c ts
  | bad {d : Nat} {r : List Nat} {l c : Int} {t : Str} : d ≠ 10 → d ≠ 32 → tokAt (d :: r) = (("bad" : Str), t) → Lex (d :: r) l c [⟨"bad", t, l, c⟩]
  | tok {d : Nat} {r r' : List Nat} {l c : Int} {f t : Str} {ts : List Tok} : d ≠ 10 → d ≠ 32 → tokAt (d :: r) = (f, t) → f ≠ "bad" → 0 < t.length → d :: r = Ls t ++ r' → Lex r' l (c + (t.length : Int)) ts → Lex (d :: r) l c (⟨f, t, l, c⟩ :: ts)
inductive WfT : Str → Prop
  | word {t : Str} : firstIn t letCh = true → (∀ c ∈ Ls t, c ∈ Ls wordCh) → formW t ≠ "bad" → WfT t
  | num {t : Str} : Ls t ≠ [] → (∀ c ∈ Ls t, c ∈ Ls digT) → formN t ≠ "bad" → WfT t
  | sign {t : Str} : t ∈ signs → WfT t
def lastIn (x y : Str) : Bool := match (Ls x).getLast? with
  | none => false
  | some c => decide (c ∈ Ls y)
structure Stop (t : Str) (s : List Nat) : Prop where
  w : lastIn t wordCh = true → ∀ c, s.head? = some c → c ∉ Ls wordCh
  m : t = "-" → s.head? ≠ some 62
  e : t = "=" → s.head? ≠ some 61
theorem takeW_app {p : Nat → Bool} : ∀ {a s : List Nat}, (∀ c ∈ a, p c = true) → (∀ c, s.head? = some c → p c = false) → (a ++ s).takeWhile p = a
  | [], [], _, _ => rfl
  | [], c :: s, _, h => by rw [List.nil_append, List.takeWhile_cons, h c rfl]; rfl
  | c :: a, s, h, h2 => by
    rw [List.cons_append, List.takeWhile_cons, h c List.mem_cons_self, if_pos rfl, takeW_app (fun d hd => h d (List.mem_cons_of_mem _ hd)) h2]
theorem dig_word : ∀ c ∈ Ls digT, c ∈ Ls wordCh := by
  have k : (Ls digT).all (fun c => decide (c ∈ Ls wordCh)) = true := by decide +kernel
  exact fun c hc => of_decide_eq_true (List.all_eq_true.mp k c hc)
theorem dig_let : ∀ c ∈ Ls digT, c ∉ Ls letCh := by
  have k : (Ls digT).all (fun c => decide (c ∉ Ls letCh)) = true := by decide +kernel
  exact fun c hc => of_decide_eq_true (List.all_eq_true.mp k c hc)
theorem getLast_mem {l : List Nat} (h : l ≠ []) : ∃ c ∈ l, l.getLast? = some c := ⟨_, List.getLast_mem h, List.getLast?_eq_some_getLast h⟩
theorem lastIn_all {t y : Str} (h : Ls t ≠ []) (ha : ∀ c ∈ Ls t, c ∈ Ls y) : lastIn t y = true := by
  obtain ⟨c, hc, e⟩ := getLast_mem h
  unfold lastIn
  rw [e]
  exact decide_eq_true (ha c hc)
theorem prefix_take {x a s : List Nat} (h : x.isPrefixOf (a ++ s) = true) : x.take a.length = a.take x.length := by
  rw [List.isPrefixOf_iff_prefix] at h
  obtain ⟨r, e⟩ := h
  have h1 : (a ++ s).take a.length = a := by simp
  by_cases hl : x.length ≤ a.length
  · have h2 : (x ++ r).take x.length = x := by simp
    rw [e] at h2
    rw [List.take_of_length_le hl]
    rw [List.take_append_of_le_length hl] at h2
    exact h2.symm
  · have hl : a.length ≤ x.length := by omega
    rw [List.take_of_length_le hl]
    rw [← e, List.take_append_of_le_length hl] at h1
    exact h1
theorem sign_find {t : Str} {s : List Nat} (h : t ∈ signs) (st : Stop t s) : signs.find? (fun x => (Ls x).isPrefixOf (Ls t ++ s)) = some t := by
  have hp : ∀ t : Str, (Ls t).isPrefixOf (Ls t ++ s) = true := fun t => by rw [List.isPrefixOf_iff_prefix]; exact List.prefix_append _ _
  have key : signs.all (fun t => signs.all fun x => decide (x = t) || decide (t = "-" ∧ x = "->") || decide (t = "=" ∧ x = "==") || decide (t = "->") || decide (t = "==") || !decide ((Ls x).take (Ls t).length = (Ls t).take (Ls x).length)) = true := by decide +kernel
  by_cases h1 : t = "->"
  · subst h1
    exact List.find?_cons_of_pos (p := fun x : Str => (Ls x).isPrefixOf (Ls "->" ++ s)) (hp _)
  by_cases h2 : t = "=="
  · subst h2
    refine (List.find?_cons_of_neg (p := fun x : Str => (Ls x).isPrefixOf (Ls "==" ++ s)) (fun hc => ?_)).trans (List.find?_cons_of_pos (p := fun x : Str => (Ls x).isPrefixOf (Ls "==" ++ s)) (hp _))
    have := prefix_take hc
    revert this
    decide +kernel
  cases hf : signs.find? (fun x => (Ls x).isPrefixOf (Ls t ++ s)) with
  | none =>
    rw [List.find?_eq_none] at hf
    exact absurd (hp t) (hf t h)
  | some x =>
    have hx := List.mem_of_find?_eq_some hf
    have hxp : (Ls x).isPrefixOf (Ls t ++ s) = true := List.find?_some (p := fun x : Str => (Ls x).isPrefixOf (Ls t ++ s)) hf
    have := List.all_eq_true.mp (List.all_eq_true.mp key t h) x hx
    simp only [Bool.or_eq_true, decide_eq_true_eq, Bool.not_eq_true', decide_eq_false_iff_not] at this
    rcases this with ((((e | ⟨e1, e2⟩) | ⟨e1, e2⟩) | e) | e) | e
    · rw [e]
    · subst e1 e2
      have h3 := st.m rfl
      rw [List.isPrefixOf_iff_prefix] at hxp
      obtain ⟨r, er⟩ := hxp
      have e4 : Ls "->" = [45, 62] := by decide +kernel
      have e5 : Ls "-" = [45] := by decide +kernel
      rw [e4, e5] at er
      have : s = 62 :: r := by simpa using er.symm
      rw [this] at h3
      exact absurd rfl h3
    · subst e1 e2
      have h3 := st.e rfl
      rw [List.isPrefixOf_iff_prefix] at hxp
      obtain ⟨r, er⟩ := hxp
      have e4 : Ls "==" = [61, 61] := by decide +kernel
      have e5 : Ls "=" = [61] := by decide +kernel
      rw [e4, e5] at er
      have : s = 61 :: r := by simpa using er.symm
      rw [this] at h3
      exact absurd rfl h3
    · exact absurd e h1
    · exact absurd e h2
    · exact absurd (prefix_take hxp) e
theorem sign_hd {t : Str} (h : t ∈ signs) : ∃ c r, Ls t = c :: r ∧ c ∉ Ls letCh ∧ c ∉ Ls digT ∧ c ∉ Ls wordCh ∧ c ≠ 10 ∧ c ≠ 32 ∧ c ≠ 62 := by
  have key : signs.all (fun t => match Ls t with | [] => false | c :: _ => decide (c ∉ Ls letCh) && decide (c ∉ Ls digT) && decide (c ∉ Ls wordCh) && decide (c ≠ 10) && decide (c ≠ 32) && decide (c ≠ 62)) = true := by decide +kernel
  have := List.all_eq_true.mp key t h
  cases e : Ls t with
  | nil => rw [e] at this; cases this
  | cons c r =>
    rw [e] at this
    simp only [Bool.and_eq_true, decide_eq_true_eq] at this
    exact ⟨c, r, rfl, this.1.1.1.1.1, this.1.1.1.1.2, this.1.1.1.2, this.1.1.2, this.1.2, this.2⟩
theorem firstIn_cons {t y : Str} (h : firstIn t y = true) : ∃ c r, Ls t = c :: r ∧ c ∈ Ls y := by
  unfold firstIn at h
  cases e : Ls t with
  | nil => rw [e] at h; cases h
  | cons c r => rw [e] at h; exact ⟨c, r, rfl, of_decide_eq_true h⟩
theorem stop_nil (t : Str) : Stop t [] := ⟨(fun _ c h => by cases h), (fun _ h => by cases h), (fun _ h => by cases h)⟩
theorem tok_any {t : Str} (h : WfT t) : ∃ f : Str, f ≠ "bad" ∧ ∀ s, Stop t s → tokAt (Ls t ++ s) = (f, t) := by
  cases h with
  | word h1 h2 h3 =>
    obtain ⟨c, r, e, hc⟩ := firstIn_cons h1
    refine ⟨formW t, h3, fun s st => ?_⟩
    have hr : run wordCh (Ls t ++ s) = Ls t := takeW_app (fun d hd => decide_eq_true (h2 d hd)) fun d hd => decide_eq_false (st.w (lastIn_all (by rw [e]; simp) h2) d hd)
    have e2 : Ls t ++ s = c :: (r ++ s) := by rw [e]; rfl
    rw [e2] at hr ⊢
    rw [tokAt_cons, if_pos hc, hr, ofL_ls]
  | num h1 h2 h3 =>
    refine ⟨formN t, h3, fun s st => ?_⟩
    have hr : run digT (Ls t ++ s) = Ls t := takeW_app (fun d hd => decide_eq_true (h2 d hd)) fun d hd => decide_eq_false fun hm => st.w (lastIn_all h1 fun c hc => dig_word c (h2 c hc)) d hd (dig_word d hm)
    cases e : Ls t with
    | nil => exact absurd e h1
    | cons c r =>
      have hc := h2 c (by rw [e]; exact List.mem_cons_self)
      have e2 : Ls t ++ s = c :: (r ++ s) := by rw [e]; rfl
      rw [e2] at hr
      rw [List.cons_append]
      rw [tokAt_cons, if_neg (dig_let c hc), if_pos hc, hr, ofL_ls]
  | sign h =>
    refine ⟨"sign", by decide +kernel, fun s st => ?_⟩
    obtain ⟨c, r, e, n1, n2, _⟩ := sign_hd h
    have hf := sign_find h st
    have e2 : Ls t ++ s = c :: (r ++ s) := by rw [e]; rfl
    rw [e2] at hf ⊢
    rw [tokAt_cons, if_neg n1, if_neg n2, hf]
theorem tok_app {t : Str} (h : WfT t) {s : List Nat} (st : Stop t s) : tokAt (Ls t ++ s) = (formT t, t) ∧ formT t ≠ "bad" := by
  obtain ⟨f, hf, k⟩ := tok_any h
  have e : formT t = f := by
    have := k [] (stop_nil t)
    rw [List.append_nil] at this
    unfold formT
    rw [this]
  exact ⟨by rw [k s st, e], by rw [e]; exact hf⟩
theorem let_hd : ∀ c ∈ Ls wordCh, c ≠ 10 ∧ c ≠ 32 ∧ c ≠ 62 ∧ c ≠ 61 := by
  have k : (Ls wordCh).all (fun c => decide (c ≠ 10 ∧ c ≠ 32 ∧ c ≠ 62 ∧ c ≠ 61)) = true := by decide +kernel
  exact fun c hc => of_decide_eq_true (List.all_eq_true.mp k c hc)
theorem wf_hd {t : Str} (h : WfT t) : ∃ c r, Ls t = c :: r ∧ c ≠ 10 ∧ c ≠ 32 ∧ c ≠ 62 ∧ (c = 61 → t = "=" ∨ t = "==") := by
  cases h with
  | word h1 h2 h3 =>
    obtain ⟨c, r, e, hc⟩ := firstIn_cons h1
    have := let_hd c (h2 c (by rw [e]; exact List.mem_cons_self))
    exact ⟨c, r, e, this.1, this.2.1, this.2.2.1, fun h => absurd h this.2.2.2⟩
  | num h1 h2 h3 =>
    cases e : Ls t with
    | nil => exact absurd e h1
    | cons c r =>
      have := let_hd c (dig_word c (h2 c (by rw [e]; exact List.mem_cons_self)))
      exact ⟨c, r, rfl, this.1, this.2.1, this.2.2.1, fun h => absurd h this.2.2.2⟩
  | sign h =>
    obtain ⟨c, r, e, _, _, _, n1, n2, n3⟩ := sign_hd h
    refine ⟨c, r, e, n1, n2, n3, fun hc => ?_⟩
    have key : signs.all (fun t => !decide ((Ls t).head? = some 61) || decide (t = "=") || decide (t = "==")) = true := by decide +kernel
    have := List.all_eq_true.mp key t h
    rw [e, hc] at this
    simpa using this
/-! ### tokens with gaps -/
def blankS (g : Str) : Prop := ∀ c ∈ Ls g, c = 32 ∨ c = 10
def apart (b t : Str) : Prop := ¬ (lastIn b wordCh = true ∧ firstIn t wordCh = true)
inductive Gaps : Str → List Str → List Str → Prop
  | nil {b g : Str} : blankS g → Gaps b [g] []
  | cons {b g t : Str} {gs ts : List Str} : blankS g → (g = "" → apart b t) → Gaps t gs ts → Gaps b (g :: gs) (t :: ts)
def weave : List Str → List Str → Str
  | g :: gs, t :: ts => g ++ (t ++ weave gs ts)
  | g :: _, [] => g
  | [], _ => ""
def EqF : List Str → Prop
  | a :: b :: r => (a = "=" → b ≠ "=" ∧ b ≠ "==") ∧ EqF (b :: r)
  | _ => True
theorem EqF.tl {a : Str} {r : List Str} (h : EqF (a :: r)) : EqF r := by
  cases r with
  | nil => trivial
  | cons b r => exact h.2
def advG : Int × Int → List Nat → Int × Int
  | p, [] => p
  | p, d :: g => advG (if d = 10 then (p.1 + 1, 1) else (p.1, p.2 + 1)) g
theorem advG_app : ∀ (a b : List Nat) (p : Int × Int), advG p (a ++ b) = advG (advG p a) b
  | [], _, _ => rfl
  | d :: a, b, p => by rw [List.cons_append]; exact advG_app a b _
/-- where the tokens stand -/
def places : Int × Int → List Str → List Str → List (Int × Int)
  | p, g :: gs, t :: ts => advG p (Ls g) :: places ((advG p (Ls g)).1, (advG p (Ls g)).2 + (t.length : Int)) gs ts
  | p, g :: _, [] => [advG p (Ls g)]
  | _, [], _ => []
theorem gap_go : ∀ (g : List Nat) {s : List Nat} {l c : Int} {toks : List Tok}, (∀ d ∈ g, d = 32 ∨ d = 10) → Lex s (advG (l, c) g).1 (advG (l, c) g).2 toks → Lex (g ++ s) l c toks
  | [], s, l, c, _, _, h => h
  | d :: g, s, l, c, toks, hg, h => by
    rcases hg d List.mem_cons_self with rfl | rfl
    · exact .sp (gap_go g (fun e he => hg e (List.mem_cons_of_mem _ he)) h)
    · exact .nl (gap_go g (fun e he => hg e (List.mem_cons_of_mem _ he)) h)
theorem blank_hd {g : Str} (h : blankS g) (hn : g ≠ "") (s : List Nat) : ∃ c, (Ls g ++ s).head? = some c ∧ (c = 32 ∨ c = 10) := by
  cases e : Ls g with
  | nil => exact absurd (ls_nil e) hn
  | cons c r => exact ⟨c, rfl, h c (by rw [e]; exact List.mem_cons_self)⟩
theorem blank_out : ∀ c, c = 32 ∨ c = 10 → c ∉ Ls wordCh ∧ c ≠ 62 ∧ c ≠ 61 := by
  rintro c (rfl | rfl) <;> decide +kernel
theorem stop_of {t : Str} {gs ts : List Str} (G : Gaps t gs ts) (W : ∀ x ∈ ts, WfT x) (q : EqF (t :: ts)) : Stop t (Ls (weave gs ts)) := by
  have blank : ∀ {g : Str} {s : List Nat}, blankS g → g ≠ "" → Stop t (Ls g ++ s) := fun {g s} hb hn => by
    obtain ⟨c, e, hc⟩ := blank_hd hb hn s
    obtain ⟨h1, h2, h3⟩ := blank_out c hc
    rw [show Ls g ++ s = Ls g ++ s from rfl]
    refine ⟨fun _ d hd => ?_, fun _ hd => ?_, fun _ hd => ?_⟩
    · rw [e] at hd; cases hd; exact h1
    · rw [e] at hd; cases hd; exact h2 rfl
    · rw [e] at hd; cases hd; exact h3 rfl
  cases G with
  | nil hb =>
    rename_i g
    simp only [weave]
    by_cases hg : g = ""
    · subst hg; exact stop_nil t
    · have := blank (s := []) hb hg
      rwa [List.append_nil] at this
  | cons hb ha G =>
    rename_i g t2 gs ts
    simp only [weave]
    rw [ls_app]
    by_cases hg : g = ""
    · subst hg
      rw [show Ls ("" : Str) ++ Ls (t2 ++ weave gs ts) = Ls (t2 ++ weave gs ts) from rfl, ls_app]
      obtain ⟨c, r, e, n1, n2, n3, n4⟩ := wf_hd (W t2 List.mem_cons_self)
      have hh : (Ls t2 ++ Ls (weave gs ts)).head? = some c := by rw [e]; rfl
      refine ⟨fun hl d hd hm => ?_, fun _ hd => ?_, fun ht hd => ?_⟩
      · rw [hh] at hd; cases hd
        exact ha rfl ⟨hl, by unfold firstIn; rw [e]; exact decide_eq_true hm⟩
      · rw [hh] at hd; cases hd; exact n3 rfl
      · rw [hh] at hd; cases hd
        have := q.1 ht
        rcases n4 rfl with h | h
        · exact this.1 h
        · exact this.2 h
    · exact blank hb hg
theorem lex_weave : ∀ (ts : List Str) {gs : List Str} {b : Str} {l c : Int}, Gaps b gs ts → (∀ t ∈ ts, WfT t) → EqF ts → ∃ toks, Lex (Ls (weave gs ts)) l c toks ∧ toks.map (·.text) = ts ++ [("" : Str)] ∧ (∀ tk ∈ toks, tk.form = formT tk.text) ∧ toks.map (fun tk => (tk.line, tk.col)) = places (l, c) gs ts
  | [], gs, b, l, c, G, _, _ => by
    cases G with
    | nil hb =>
      rename_i g
      simp only [weave]
      refine ⟨[⟨"end", "", (advG (l, c) (Ls g)).1, (advG (l, c) (Ls g)).2⟩], ?_, rfl, fun tk h => ?_, rfl⟩
      · have := gap_go (Ls g) (s := []) (l := l) (c := c) hb .nil
        rwa [List.append_nil] at this
      · rw [List.mem_singleton] at h
        subst h
        show ("end" : Str) = formT ""
        decide +kernel
  | t :: ts, gs, b, l, c, G, W, q => by
    cases G with
    | cons hb ha G =>
      rename_i g gs
      simp only [weave, places]
      rw [ls_app, ls_app]
      have hw := W t List.mem_cons_self
      have W' : ∀ x ∈ ts, WfT x := fun x hx => W x (List.mem_cons_of_mem _ hx)
      obtain ⟨h1, h2⟩ := tok_app hw (stop_of G W' q)
      obtain ⟨d, r, e, n1, n2, _⟩ := wf_hd hw
      obtain ⟨toks, h3, h4, h5, h6⟩ := lex_weave ts (l := (advG (l, c) (Ls g)).1) (c := (advG (l, c) (Ls g)).2 + (t.length : Int)) G W' q.tl
      refine ⟨⟨formT t, t, (advG (l, c) (Ls g)).1, (advG (l, c) (Ls g)).2⟩ :: toks, gap_go (Ls g) hb ?_, by rw [List.map_cons, h4]; rfl, fun tk hk => ?_, by rw [List.map_cons, h6]⟩
      · have e2 : Ls t ++ Ls (weave gs ts) = d :: (r ++ Ls (weave gs ts)) := by rw [e]; rfl
        rw [e2] at h1 ⊢
        exact .tok n1 n2 h1 h2 (by rw [← ls_len, e]; simp) e2.symm h3
      · rcases List.mem_cons.mp hk with rfl | hk
        · rfl
        · exact h5 tk hk
/-! a beginning of such a text -/
def pw : List Str → List Str → Str
  | g :: gs, t :: ts => g ++ (t ++ pw gs ts)
  | _, _ => ""
def lastT (b : Str) : List Str → Str
  | [] => b
  | t :: ts => lastT t ts
inductive GapsP : Str → List Str → List Str → Prop
  | nil {b : Str} : GapsP b [] []
  | cons {b g t : Str} {gs ts : List Str} : blankS g → (g = "" → apart b t) → GapsP t gs ts → GapsP b (g :: gs) (t :: ts)
theorem GapsP.snoc {g t : Str} : ∀ {gs ts : List Str} {b : Str}, GapsP b gs ts → blankS g → (g = "" → apart (lastT b ts) t) → GapsP b (gs ++ [g]) (ts ++ [t])
  | _, _, _, .nil, h1, h2 => .cons h1 h2 .nil
  | _, _, _, .cons a b c, h1, h2 => .cons a b (c.snoc h1 h2)
theorem GapsP.fin {g : Str} : ∀ {gs ts : List Str} {b : Str}, GapsP b gs ts → blankS g → Gaps b (gs ++ [g]) ts
  | _, _, _, .nil, h1 => .nil h1
  | _, _, _, .cons a b c, h1 => .cons a b (c.fin h1)
theorem GapsP.len : ∀ {gs ts : List Str} {b : Str}, GapsP b gs ts → gs.length = ts.length
  | _, _, _, .nil => rfl
  | _, _, _, .cons _ _ c => by rw [List.length_cons, List.length_cons, c.len]
theorem pw_snoc {g t : Str} : ∀ {gs ts : List Str} {b : Str}, GapsP b gs ts → pw (gs ++ [g]) (ts ++ [t]) = pw gs ts ++ (g ++ t)
  | _, _, _, .nil => by
    show g ++ (t ++ "") = "" ++ (g ++ t)
    rw [s_nil, nil_s]
  | _, _, _, .cons (gs := gs) (ts := ts) _ _ c => by
    rw [List.cons_append, List.cons_append, pw, pw_snoc c, pw]
    simp only [Str.append_assoc]
theorem weave_fin {g : Str} : ∀ {gs ts : List Str} {b : Str}, GapsP b gs ts → weave (gs ++ [g]) ts = pw gs ts ++ g
  | _, _, _, .nil => by
    show g = "" ++ g
    rw [nil_s]
  | _, _, _, .cons _ _ c => by
    rw [List.cons_append, weave, weave_fin c, pw]
    simp only [Str.append_assoc]
theorem lastT_snoc (t : Str) : ∀ (ts : List Str) (b : Str), lastT b (ts ++ [t]) = t
  | [], _ => rfl
  | _ :: ts, _ => lastT_snoc t ts _
def plP : Int × Int → List Str → List Str → List (Int × Int)
  | p, g :: gs, t :: ts => advG p (Ls g) :: plP ((advG p (Ls g)).1, (advG p (Ls g)).2 + (t.length : Int)) gs ts
  | _, _, _ => []
def cur : Int × Int → List Str → List Str → Int × Int
  | p, g :: gs, t :: ts => cur ((advG p (Ls g)).1, (advG p (Ls g)).2 + (t.length : Int)) gs ts
  | p, _, _ => p
theorem plP_snoc {g t : Str} : ∀ {gs ts : List Str} {b : Str} (p : Int × Int), GapsP b gs ts → plP p (gs ++ [g]) (ts ++ [t]) = plP p gs ts ++ [advG (cur p gs ts) (Ls g)]
  | _, _, _, p, .nil => rfl
  | _, _, _, p, .cons _ _ c => by
    rw [List.cons_append, List.cons_append, plP, plP_snoc _ c, plP, cur]
    rfl
theorem cur_snoc {g t : Str} : ∀ {gs ts : List Str} {b : Str} (p : Int × Int), GapsP b gs ts → cur p (gs ++ [g]) (ts ++ [t]) = ((advG (cur p gs ts) (Ls g)).1, (advG (cur p gs ts) (Ls g)).2 + (t.length : Int))
  | _, _, _, p, .nil => rfl
  | _, _, _, p, .cons _ _ c => by
    rw [List.cons_append, List.cons_append, cur, cur_snoc _ c, cur]
theorem places_fin {g : Str} : ∀ {gs ts : List Str} {b : Str} (p : Int × Int), GapsP b gs ts → places p (gs ++ [g]) ts = plP p gs ts ++ [advG (cur p gs ts) (Ls g)]
  | _, _, _, p, .nil => rfl
  | _, _, _, p, .cons _ _ c => by
    rw [List.cons_append, places, places_fin _ c, plP, cur]
    rfl
end My
set_option maxHeartbeats 4000000
namespace My
open PySem L2 DL
theorem szM {n : Nat} (h : n ≤ 16000000) : n ≤ sizeLine := by rw [sizeLine_eq]; omega
theorem szMlt {n : Nat} (h : n ≤ 16000000) : n < sizeLine := by rw [sizeLine_eq]; omega
theorem atI_ls {x : Str} {i : Nat} (h : i < x.length) : ∃ c, (Ls x)[i]? = some c ∧ atI (Ls x) (i : Int) = some c ∧ (Ls x).drop i = c :: (Ls x).drop (i + 1) := by
  have hi : i < (Ls x).length := by rw [ls_len]; exact h
  exact ⟨(Ls x)[i], List.getElem?_eq_getElem hi, atI_nat (List.getElem?_eq_getElem hi), List.drop_eq_getElem_cons hi⟩
def tokF (tk : Tok) : List (Str × D) := [("form", .str tk.form), ("text", .str tk.text), ("line", .int tk.line), ("column", .int tk.col)]
theorem fl_form {tk : Tok} : (tokF tk).lookup ("form" : Str) = some (.str tk.form) := by
  unfold tokF
  rw [List.lookup_cons_self]
theorem fl_text {tk : Tok} : (tokF tk).lookup ("text" : Str) = some (.str tk.text) := by
  unfold tokF
  have h : (("text" : Str) == "form") = false := by decide +kernel
  rw [List.lookup_cons, h, List.lookup_cons_self]
/-- what the walks ask of the class Token -/
structure TCls (K : PySem.W.Frag) (T : Addr) : Prop where
  cl : Cls K T
  n1 : NoAttr K T "form"
  n2 : NoAttr K T "text"
  n3 : NoAttr K T "line"
  n4 : NoAttr K T "column"
section
variable {P : Program} {w : World} {K : PySem.W.Frag} {mg : Str → Option Value} {base : Heap} {f : Addr} {fd : FuncData} {T : Addr}
def spCons : Sp3 := fun ds M Q => ∃ x y : Str, ds = [.str x, .str y] ∧ Q (.bl (allIn x y)) M
theorem ok_cons (F : Fun K "consists_of" "consists_of" st_consists_of f fd) (b : Binds K fd ["text", "chars"] []) (g : mg "consists_of" = some (.ref f)) :
    Callee P w K mg base "consists_of" 1 ["text", "chars"] spCons := by
  refine callee F scope_consists_of g b (fun ds M Q ⟨_, _, e, _⟩ => by rw [e]; rfl) (fun cdv A outer s H E hr ds M Q ⟨x, y, e, q⟩ => ?_)
  subst e
  refine ss_cons (s_for PassesOwn.never (i_str (e_var 0 rfl ⟨x, rfl, ?_⟩)))
  refine ⟨fun i σ' M' => ∃ d2 : Option D, σ' = [some (.str x), some (.str y), d2] ∧ M' = M ∧ (∀ c ∈ (Ls x).take i, c ∈ Ls y), ⟨none, rfl, rfl, by simp⟩, fun _ _ _ _ _ => trivial, ?_, ?_⟩
  · rintro i d σ' M' hd ⟨d2, rfl, rfl, ha⟩
    obtain ⟨c, hc, rfl⟩ := chD_get hd
    refine g_name 2 scope_consists_of.nd ?_
    refine ss_if (t_notInSg (e_var 2 rfl (e_var 1 rfl ⟨c, y, rfl, rfl, ?_⟩)))
    rw [if_pos rfl]
    refine ⟨fun hn => ?_, fun hn => ?_⟩
    · have hn : c ∉ Ls y := by simpa using hn
      have e : allIn x y = false := by
        unfold allIn
        rw [List.all_eq_false]
        exact ⟨c, List.mem_of_getElem? hc, by simpa using hn⟩
      rw [e] at q
      exact ss_one (s_ret (e_bl (Wk.here q)))
    · have hn : c ∈ Ls y := by simpa using hn
      refine ss_nil ⟨_, rfl, rfl, fun c2 h2 => ?_⟩
      rw [List.take_add_one, hc] at h2
      rcases List.mem_append.mp h2 with h2 | h2
      · exact ha c2 h2
      · rw [List.mem_singleton.mp h2]; exact hn
  · rintro σ' M' ⟨d2, rfl, rfl, ha⟩
    rw [chD_len, List.take_of_length_le (by rw [ls_len]; exact Nat.le_refl _)] at ha
    have e : allIn x y = true := by
      unfold allIn
      rw [List.all_eq_true]
      exact fun c hc => decide_eq_true (ha c hc)
    rw [e] at q
    exact ss_one (s_ret (e_bl (Wk.here q)))
def spEnd : Sp3 := fun ds M Q => ∃ (x y : Str) (a : Nat), ds = [.str x, .int (a : Int), .str y] ∧ a ≤ x.length ∧ x.length ≤ 16000000 ∧ Q (.int ((a + (run y ((Ls x).drop a)).length : Nat) : Int)) M
theorem ok_end (F : Fun K "end_of" "end_of" st_end_of f fd) (b : Binds K fd ["text", "at", "chars"] []) (g : mg "end_of" = some (.ref f)) (m_len : mg "len" = none) :
    Callee P w K mg base "end_of" 1 ["text", "at", "chars"] spEnd := by
  refine callee F scope_end_of g b (fun ds M Q ⟨_, _, _, e, _⟩ => by rw [e]; rfl) (fun cdv A outer s H E hr ds M Q ⟨x, y, a, e, hal, hx, q⟩ => ?_)
  subst e
  refine ss_cut (fun σ' M' => ∃ k : Nat, σ' = [some (.str x), some (.int (k : Int)), some (.str y)] ∧ M' = M ∧ a + (run y ((Ls x).drop a)).length = k)
    (s_while (fun m σ' M' => ∃ k : Nat, σ' = [some (.str x), some (.int (k : Int)), some (.str y)] ∧ M' = M ∧ m = x.length - k ∧ k ≤ x.length ∧ a + (run y ((Ls x).drop a)).length = k + (run y ((Ls x).drop k)).length) (x.length - a) ⟨a, rfl, rfl, rfl, hal, rfl⟩ PassesOwn.never ?_) ?_
  · rintro m σ' M' ⟨k, rfl, rfl, rfl, hk, hrun⟩
    refine t_w (w_and (t_lt (e_var 1 rfl (e_len m_len (a_cons (e_var 0 rfl (a_nil ⟨szM hx, ?_⟩)))))))
    refine ⟨fun hc => ?_, fun hc => BQ.f ?_⟩
    · have hc : k < x.length := by have := of_decide_eq_true hc; omega
      obtain ⟨c, h1, h2, h3⟩ := atI_ls hc
      refine w_and1 (t_inSg (e_ix (e_var 0 rfl (e_var 1 rfl ⟨szM hx, c, h2, e_var 2 rfl ⟨c, y, rfl, rfl, ?_⟩⟩))))
      rw [if_neg Bool.false_ne_true]
      refine ⟨fun hm => ?_, fun hm => ?_⟩
      · refine ss_one (s_augI 1 scope_end_of.nd rfl (e_int ?_))
        refine ⟨x.length - (k + 1), by omega, k + 1, rfl, rfl, rfl, hc, ?_⟩
        rw [hrun, h3]
        unfold run
        rw [List.takeWhile_cons, if_pos hm, List.length_cons]
        omega
      · refine ⟨k, rfl, rfl, ?_⟩
        rw [hrun, h3]
        unfold run
        rw [List.takeWhile_cons, hm]
        rfl
    · have hc : k = x.length := by have := of_decide_eq_false hc; omega
      refine ⟨k, rfl, rfl, ?_⟩
      rw [hrun, List.drop_eq_nil_of_le (by rw [ls_len]; omega)]
      rfl
  · rintro σ' M' ⟨k, rfl, rfl, e⟩
    rw [e] at q
    exact ss_one (s_ret (e_var 1 rfl (Wk.here q)))
theorem isNm_hd {w : Str} (h : w ≠ "") : ∃ c, atI (Ls w) 0 = some c ∧ ∀ y, firstIn w y = decide (c ∈ Ls y) := by
  cases e : Ls w with
  | nil => exact absurd (ls_nil e) h
  | cons c r => exact ⟨c, by rw [← e]; unfold firstIn; rw [e]; exact ⟨atI_hd, fun _ => rfl⟩⟩
theorem nameCh_eq : smallT ++ digT ++ "_" = nameCh := by decide +kernel
theorem recCh_eq : smallT ++ largeT ++ digT = recCh := by decide +kernel
theorem wordCh_eq : smallT ++ largeT ++ digT ++ "_" = wordCh := by decide +kernel
theorem letCh_eq : smallT ++ largeT = letCh := by decide +kernel
/-- the module's constants -/
structure Cons (K : PySem.W.Frag) (mg : Str → Option Value) : Prop where
  words : ConT K mg "WORDS" (.tup (words.map D.str))
  signs : ConT K mg "SIGNS" (.tup (signs.map D.str))
  small : ConS mg "SMALL" smallT
  large : ConS mg "LARGE" largeT
  digits : ConS mg "DIGITS" digT
  lnm : ConI mg "LONGEST_NAME" 20
  lnu : ConI mg "LONGEST_NUMBER" 10
theorem D_flat_strs (l : List Str) : (l.map D.str).all D.flat = true := by
  rw [List.all_eq_true]
  rintro d hd
  obtain ⟨x, _, rfl⟩ := List.mem_map.mp hd
  rfl
def spW1 (g : Str → D) : Sp3 := fun ds M Q => ∃ x : Str, ds = [.str x] ∧ x.length ≤ 16000000 ∧ Q (g x) M
theorem ok_isnm (c : Cons K mg) (F : Fun K "is_name" "is_name" st_is_name f fd) (b : Binds K fd ["word"] []) (g : mg "is_name" = some (.ref f)) (m_len : mg "len" = none) (C_consists_of : Callee P w K mg base "consists_of" 1 ["text", "chars"] spCons) :
    Callee P w K mg base "is_name" 2 ["word"] (spW1 fun x => .bl (isNm x)) := by
  refine callee F scope_is_name g b (fun ds M Q ⟨_, e, _⟩ => by rw [e]; rfl) (fun cdv A outer s H E hr ds M Q ⟨x, e, hx, q⟩ => ?_)
  subst e
  dsimp only at q
  have bad : (x = "" ∨ 20 < x.length ∨ x ∈ words) → Q (.bl false) M := fun h => by
    have e : isNm x = false := by unfold isNm; rw [if_pos h]
    rw [e] at q
    exact q
  refine ss_if (t_w (w_or (t_eq ⟨_, hr⟩ (e_var 0 rfl (e_str ⟨trivial, ?_⟩)))))
  rw [eqv_str]
  refine ⟨fun h1 => BQ.t (ss_one (s_ret (e_bl (Wk.here (bad (.inl (of_decide_eq_true h1))))))), fun h1 => ?_⟩
  have h1 := of_decide_eq_false h1
  refine w_or (t_gt (e_len m_len (a_cons (e_var 0 rfl (a_nil ⟨szM hx, e_conI c.lnm ?_⟩)))))
  refine ⟨fun h2 => BQ.t (ss_one (s_ret (e_bl (Wk.here (bad (.inr (.inl (by have := of_decide_eq_true h2; omega)))))))), fun h2 => ?_⟩
  have h2 : ¬ 20 < x.length := by have := of_decide_eq_false h2; omega
  refine w_or1 (t_in (e_var 0 rfl (e_con c.words ⟨rfl, D_flat_strs _, ?_⟩)))
  rw [if_neg Bool.false_ne_true, inD_strs]
  refine ⟨fun h3 => ss_one (s_ret (e_bl (Wk.here (bad (.inr (.inr (of_decide_eq_true h3))))))), fun h3 => ?_⟩
  have h3 := of_decide_eq_false h3
  obtain ⟨d, hd, hf⟩ := isNm_hd h1
  have e : isNm x = (decide (d ∈ Ls smallT) && allIn x nameCh) := by
    unfold isNm
    rw [if_neg (by rintro (h | h | h) <;> contradiction), hf]
  rw [e] at q
  refine ss_one (s_ret (v_and (e_inSg (e_ix (e_var 0 rfl (e_int ⟨szM hx, d, hd, e_conS c.small ⟨d, smallT, rfl, rfl, ?_⟩⟩))))))
  rw [if_neg Bool.false_ne_true]
  refine ⟨fun h4 => ?_, fun h4 => ?_⟩
  · refine v_one (e_call C_consists_of (hr.mono (by omega)) (a_cons (e_var 0 rfl (a_cons (e_add (e_add (e_conS c.small (e_conS c.digits ⟨by decide +kernel, e_str ⟨by decide +kernel, a_nil ⟨x, _, rfl, ?_⟩⟩⟩))))))))
    rw [nameCh_eq]
    rw [h4, Bool.true_and] at q
    exact Wk.here q
  · rw [h4, Bool.false_and] at q
    exact Wk.here q
theorem ok_isrn (c : Cons K mg) (F : Fun K "is_record_name" "is_record_name" st_is_record_name f fd) (b : Binds K fd ["word"] []) (g : mg "is_record_name" = some (.ref f)) (m_len : mg "len" = none) (C_consists_of : Callee P w K mg base "consists_of" 1 ["text", "chars"] spCons) :
    Callee P w K mg base "is_record_name" 2 ["word"] (spW1 fun x => .bl (isRn x)) := by
  refine callee F scope_is_record_name g b (fun ds M Q ⟨_, e, _⟩ => by rw [e]; rfl) (fun cdv A outer s H E hr ds M Q ⟨x, e, hx, q⟩ => ?_)
  subst e
  dsimp only at q
  have bad : (x = "" ∨ 20 < x.length) → Q (.bl false) M := fun h => by
    have e : isRn x = false := by unfold isRn; rw [if_pos h]
    rw [e] at q
    exact q
  refine ss_if (t_w (w_or (t_eq ⟨_, hr⟩ (e_var 0 rfl (e_str ⟨trivial, ?_⟩)))))
  rw [eqv_str]
  refine ⟨fun h1 => BQ.t (ss_one (s_ret (e_bl (Wk.here (bad (.inl (of_decide_eq_true h1))))))), fun h1 => ?_⟩
  have h1 := of_decide_eq_false h1
  refine w_or1 (t_gt (e_len m_len (a_cons (e_var 0 rfl (a_nil ⟨szM hx, e_conI c.lnm ?_⟩)))))
  refine ⟨fun h2 => ss_one (s_ret (e_bl (Wk.here (bad (.inr (by have := of_decide_eq_true h2; omega)))))), fun h2 => ?_⟩
  have h2 : ¬ 20 < x.length := by have := of_decide_eq_false h2; omega
  obtain ⟨d, hd, hf⟩ := isNm_hd h1
  have e : isRn x = (decide (d ∈ Ls largeT) && allIn x recCh) := by
    unfold isRn
    rw [if_neg (by rintro (h | h) <;> contradiction), hf]
  rw [e] at q
  refine ss_one (s_ret (v_and (e_inSg (e_ix (e_var 0 rfl (e_int ⟨szM hx, d, hd, e_conS c.large ⟨d, largeT, rfl, rfl, ?_⟩⟩))))))
  rw [if_neg Bool.false_ne_true]
  refine ⟨fun h4 => ?_, fun h4 => ?_⟩
  · refine v_one (e_call C_consists_of (hr.mono (by omega)) (a_cons (e_var 0 rfl (a_cons (e_add (e_add (e_conS c.small (e_conS c.large ⟨by decide +kernel, e_conS c.digits ⟨by decide +kernel, a_nil ⟨x, _, rfl, ?_⟩⟩⟩))))))))
    rw [recCh_eq]
    rw [h4, Bool.true_and] at q
    exact Wk.here q
  · rw [h4, Bool.false_and] at q
    exact Wk.here q
theorem ok_fword (c : Cons K mg) (F : Fun K "form_of_word" "form_of_word" st_form_of_word f fd) (b : Binds K fd ["word"] []) (g : mg "form_of_word" = some (.ref f))
    (C_is_name : Callee P w K mg base "is_name" 2 ["word"] (spW1 fun x => .bl (isNm x))) (C_is_record_name : Callee P w K mg base "is_record_name" 2 ["word"] (spW1 fun x => .bl (isRn x))) :
    Callee P w K mg base "form_of_word" 3 ["word"] (spW1 fun x => .str (formW x)) := by
  refine callee F scope_form_of_word g b (fun ds M Q ⟨_, e, _⟩ => by rw [e]; rfl) (fun cdv A outer s H E hr ds M Q ⟨x, e, hx, q⟩ => ?_)
  subst e
  dsimp only at q
  unfold formW at q
  refine ss_if (t_in (e_var 0 rfl (e_con c.words ⟨rfl, D_flat_strs _, ?_⟩)))
  rw [if_neg Bool.false_ne_true, inD_strs]
  refine ⟨fun h => ?_, fun h => ?_⟩
  · rw [if_pos (of_decide_eq_true h)] at q
    exact ss_one (s_ret (e_str (Wk.here q)))
  rw [if_neg (of_decide_eq_false h)] at q
  refine ss_if (t_truth (e_call C_is_name (hr.mono (by omega)) (a_cons (e_var 0 rfl (a_nil ⟨x, rfl, hx, ?_⟩)))))
  refine ⟨fun h => ?_, fun h => ?_⟩
  · rw [if_pos h] at q
    exact ss_one (s_ret (e_str (Wk.here q)))
  rw [h, if_neg Bool.false_ne_true] at q
  refine ss_if (t_truth (e_call C_is_record_name (hr.mono (by omega)) (a_cons (e_var 0 rfl (a_nil ⟨x, rfl, hx, ?_⟩)))))
  refine ⟨fun h => ?_, fun h => ?_⟩
  · rw [if_pos h] at q
    exact ss_one (s_ret (e_str (Wk.here q)))
  · rw [h, if_neg Bool.false_ne_true] at q
    exact ss_one (s_ret (e_str (Wk.here q)))
theorem ok_fnum (c : Cons K mg) (F : Fun K "form_of_number" "form_of_number" st_form_of_number f fd) (b : Binds K fd ["digits"] []) (g : mg "form_of_number" = some (.ref f)) (m_len : mg "len" = none) :
    Callee P w K mg base "form_of_number" 1 ["digits"] (fun ds M Q => ∃ x : Str, ds = [.str x] ∧ x.length ≤ 16000000 ∧ x ≠ "" ∧ Q (.str (formN x)) M) := by
  refine callee F scope_form_of_number g b (fun ds M Q ⟨_, e, _⟩ => by rw [e]; rfl) (fun cdv A outer s H E hr ds M Q ⟨x, e, hx, hne, q⟩ => ?_)
  subst e
  have bad : (10 < x.length ∨ ((Ls x).head? = some 48 ∧ 1 < x.length)) → Q (.str "bad") M := fun h => by
    unfold formN at q
    rw [if_pos h] at q
    exact q
  have good : ¬ (10 < x.length ∨ ((Ls x).head? = some 48 ∧ 1 < x.length)) → Q (.str "number") M := fun h => by
    unfold formN at q
    rw [if_neg h] at q
    exact q
  obtain ⟨d, hd, _⟩ := isNm_hd hne
  have hh : (Ls x).head? = some d := by
    cases e : Ls x with
    | nil => exact absurd (ls_nil e) hne
    | cons c r => rw [e, atI_hd] at hd; exact hd
  refine ss_if (t_w (w_or (t_gt (e_len m_len (a_cons (e_var 0 rfl (a_nil ⟨szM hx, e_conI c.lnu ?_⟩)))))))
  refine ⟨fun h => BQ.t (ss_one (s_ret (e_str (Wk.here (bad (.inl (by have := of_decide_eq_true h; omega))))))), fun h => ?_⟩
  have h1 : ¬ 10 < x.length := by have := of_decide_eq_false h; omega
  refine w_or1 (t_w (w_and (t_eq ⟨_, hr⟩ (e_ix (e_var 0 rfl (e_int ⟨szM hx, d, hd, e_str ⟨trivial, ?_⟩⟩))))))
  rw [eqv_str]
  have e48 : (⟨#[d]⟩ : Str) = "0" ↔ d = 48 := by
    rw [show ("0" : Str) = ⟨#[48]⟩ by decide +kernel]
    simp
  refine ⟨fun h => ?_, fun h => BQ.f (ss_one (s_ret (e_str (Wk.here (good ?_)))))⟩
  · have h2 : d = 48 := e48.mp (of_decide_eq_true h)
    refine w_and1 (t_gt (e_len m_len (a_cons (e_var 0 rfl (a_nil ⟨szM hx, e_int ?_⟩)))))
    refine ⟨fun h => ss_one (s_ret (e_str (Wk.here (bad (.inr ⟨by rw [hh, h2], by have := of_decide_eq_true h; omega⟩))))), fun h => ss_one (s_ret (e_str (Wk.here (good ?_))))⟩
    rintro (h3 | ⟨_, h3⟩)
    · exact h1 h3
    · have := of_decide_eq_false h
      omega
  · rintro (h3 | ⟨h3, _⟩)
    · exact h1 h3
    · rw [hh] at h3
      exact of_decide_eq_false h (e48.mpr (Option.some.inj h3))
def spTInit (T : Addr) : Sp3 := fun ds M Q => ∃ (t dx : Addr) (tk : Tok), ds = [.ref t, .str tk.form, .str tk.text, .int tk.line, .int tk.col] ∧ M t = some (.ins T dx []) ∧ ∀ M', M' t = some (.ins T dx (tokF tk)) → Keep t M M' → Q .non M'
theorem ok_tinit (c : TCls K T) (F : Fun K "__init__" "Token.__init__" st_Token___init__ f fd) (b : Binds K fd ["self", "form", "text", "line", "column"] []) (Mm : Mk K T f) (gC : mg "Token" = some (.ref T)) :
    CalleeI P w K mg base "Token" T 1 ["self", "form", "text", "line", "column"] (spTInit T) := by
  refine ⟨f, fd, fn3 F scope_Token___init__ (fun ds M Q ⟨_, _, _, e, _⟩ => by rw [e]; rfl) (fun cdv A outer sh H E hr ds M Q ⟨t, dx, tk, e, em, q⟩ => ?_), Mm, b, gC⟩
  subst e
  refine ss_cons (s_fld (e_var 1 rfl (e_var 0 rfl ⟨T, dx, [], em, c.cl, c.n1, by decide, fun M2 e2 k2 => ?_⟩)))
  refine ss_cons (s_fld (e_var 2 rfl (e_var 0 rfl ⟨T, dx, _, e2, c.cl, c.n2, by show 1 < 1000; decide, fun M3 e3 k3 => ?_⟩)))
  refine ss_cons (s_fld (e_var 3 rfl (e_var 0 rfl ⟨T, dx, _, e3, c.cl, c.n3, by show 2 < 1000; decide, fun M4 e4 k4 => ?_⟩)))
  refine ss_one (s_fld (e_var 4 rfl (e_var 0 rfl ⟨T, dx, _, e4, c.cl, c.n4, by show 3 < 1000; decide, fun M5 e5 k5 => ?_⟩)))
  refine Wk.here (q M5 ?_ (((k2.trans k3).trans k4).trans k5))
  rw [e5]
  rfl
theorem new_tok {M : Mp} {Q : QD} {tk : Tok} (h : ∀ t dx M', M t = none → M' t = some (.ins T dx (tokF tk)) → Mle M M' → Q (.ref t) M') : NewI (spTInit T) T [.str tk.form, .str tk.text, .int tk.line, .int tk.col] M Q :=
  fun a dx M' f1 f2 ne e1 e2 l => ⟨a, dx, tk, rfl, e1, fun M2 e3 k => ⟨rfl, h a dx M2 f1 e3 (l.other k f1)⟩⟩
def spTokAt (T : Addr) : Sp3 := fun ds M Q => ∃ (x : Str) (a : Nat) (l c : Int), ds = [.str x, .int (a : Int), .int l, .int c] ∧ a < x.length ∧ x.length ≤ 16000000 ∧
  ∀ t dx M', M t = none → M' t = some (.ins T dx (tokF ⟨(tokAt ((Ls x).drop a)).1, (tokAt ((Ls x).drop a)).2, l, c⟩)) → Mle M M' → Q (.ref t) M'
theorem sIx_in {n k d : Nat} (h : k ≤ n) : HT.sIx n d (some (k : Int)) = k := by rw [HT.sIx_nat, Nat.min_eq_left h]
theorem cutS_mid {x : Str} {i j : Nat} (h1 : i ≤ j) (h2 : i ≤ x.length) : cutS x (some (i : Int)) (some (j : Int)) = ofL (((Ls x).drop i).take (j - i)) := by
  unfold cutS ofL
  rw [sIx_in h2, HT.sIx_nat]
  congr 1
  by_cases hj : j ≤ x.length
  · rw [Nat.min_eq_left hj]
  · rw [Nat.min_eq_right (by omega), List.take_of_length_le (by rw [List.length_drop, ls_len]; omega), List.take_of_length_le (by rw [List.length_drop, ls_len]; omega)]
theorem run_le (y : Str) (cs : List Nat) : (run y cs).length ≤ cs.length := (List.takeWhile_prefix _).length_le
theorem run_take (y : Str) (cs : List Nat) : cs.take (run y cs).length = run y cs := (List.prefix_iff_eq_take.mp (List.takeWhile_prefix _)).symm
theorem find_at {α : Type} {p : α → Bool} : ∀ {l : List α} {i : Nat} {x : α}, (∀ s ∈ l.take i, p s = false) → l[i]? = some x → p x = true → l.find? p = some x
  | [], i, x, _, h, _ => by simp at h
  | a :: l, 0, x, _, h, hp => by
    have h : a = x := by simpa using h
    subst h
    exact List.find?_cons_of_pos hp
  | a :: l, i + 1, x, ha, h, hp => by
    have h1 := ha a (by simp)
    rw [List.find?_cons_of_neg (by rw [h1]; exact Bool.false_ne_true)]
    exact find_at (i := i) (fun s hs => ha s (by rw [List.take_succ_cons]; exact List.mem_cons_of_mem _ hs)) (by simpa using h) hp
theorem pre_take {s cs : List Nat} : s.isPrefixOf cs = decide (cs.take s.length = s) := by
  rw [Bool.eq_iff_iff, List.isPrefixOf_iff_prefix, List.prefix_iff_eq_take, decide_eq_true_eq]
  exact ⟨fun h => h.symm, fun h => h.symm⟩
theorem ofL_len (l : List Nat) : (ofL l).length = l.length := by rw [← ls_len, ls_ofL]
theorem ok_tokat (c : Cons K mg) (F : Fun K "token_at" "token_at" st_token_at f fd) (b : Binds K fd ["text", "at", "line", "column"] []) (g : mg "token_at" = some (.ref f)) (m_len : mg "len" = none)
    (C_end_of : Callee P w K mg base "end_of" 1 ["text", "at", "chars"] spEnd) (C_form_of_word : Callee P w K mg base "form_of_word" 3 ["word"] (spW1 fun x => .str (formW x)))
    (C_form_of_number : Callee P w K mg base "form_of_number" 1 ["digits"] (fun ds M Q => ∃ x : Str, ds = [.str x] ∧ x.length ≤ 16000000 ∧ x ≠ "" ∧ Q (.str (formN x)) M))
    (C_Token : CalleeI P w K mg base "Token" T 1 ["self", "form", "text", "line", "column"] (spTInit T)) :
    Callee P w K mg base "token_at" 4 ["text", "at", "line", "column"] (spTokAt T) := by
  refine callee F scope_token_at g b (fun ds M Q ⟨_, _, _, _, e, _⟩ => by rw [e]; rfl) (fun cdv A outer s H E hr ds M Q ⟨x, a, l, c0, e, ha, hx, q⟩ => ?_)
  subst e
  obtain ⟨d, h1, h2, h3⟩ := atI_ls ha
  have hrl : ∀ y, (run y ((Ls x).drop a)).length ≤ x.length := fun y => by
    have h := run_le y ((Ls x).drop a)
    rw [List.length_drop, ls_len] at h
    omega
  have cut : ∀ y, cutS x (some (a : Int)) (some ((a + (run y ((Ls x).drop a)).length : Nat) : Int)) = ofL (run y ((Ls x).drop a)) := fun y => by
    rw [cutS_mid (by omega) (by omega), Nat.add_sub_cancel_left, run_take]
  have hb : ∀ y, (ofL (run y ((Ls x).drop a))).length ≤ 16000000 := fun y => by rw [ofL_len]; exact Nat.le_trans (hrl y) hx
  have mk : ∀ (f t : Str), tokAt ((Ls x).drop a) = (f, t) → ∀ t' dx M', M t' = none → M' t' = some (.ins T dx (tokF ⟨f, t, l, c0⟩)) → Mle M M' → Q (.ref t') M' := fun f t e t' dx M' n1 n2 n3 => by
    have h := q t' dx M' n1
    rw [e] at h
    exact h n2 n3
  have tk0 := tokAt_cons d ((Ls x).drop (a + 1))
  rw [← h3] at tk0
  refine ss_if (t_inSg (e_ix (e_var 0 rfl (e_var 1 rfl ⟨szM hx, d, h2, e_add (e_conS c.small (e_conS c.large ⟨by decide +kernel, ?_⟩))⟩))))
  rw [letCh_eq]
  refine ⟨d, letCh, rfl, rfl, ?_⟩
  rw [if_neg Bool.false_ne_true]
  refine ⟨fun h => ?_, fun hl => ?_⟩
  · rw [if_pos (of_decide_eq_true h)] at tk0
    refine ss_cons (s_asg 4 scope_token_at.nd (e_sl (x := .str x) (l := some (a : Int)) (u := some ((a + (run wordCh ((Ls x).drop a)).length : Nat) : Int)) (M1 := M) (e_var 0 rfl ⟨rfl, rfl⟩) (o_some (e_var 1 rfl ⟨rfl, rfl⟩)) (o_some (e_call C_end_of (hr.mono (by omega)) (a_cons (e_var 0 rfl (a_cons (e_var 1 rfl (a_cons (e_add (e_add (e_add (e_conS c.small (e_conS c.large ⟨by decide +kernel, e_conS c.digits ⟨by decide +kernel, e_str ⟨by decide +kernel, a_nil ⟨x, wordCh, a, by rw [wordCh_eq], by omega, hx, rfl, rfl⟩⟩⟩⟩)))))))))))) ⟨szM hx, ?_⟩))
    rw [cut]
    exact ss_one (s_ret (e_make C_Token (hr.mono (by omega)) (a_cons (e_call C_form_of_word hr (a_cons (e_var 4 rfl (a_nil ⟨_, rfl, hb _, a_cons (e_var 4 rfl (a_cons (e_var 2 rfl (a_cons (e_var 3 rfl (a_nil (new_tok (tk := ⟨formW (ofL (run wordCh ((Ls x).drop a))), ofL (run wordCh ((Ls x).drop a)), l, c0⟩) fun t dx M' n1 n2 n3 => Wk.here (mk _ _ tk0 t dx M' n1 n2 n3))))))))⟩)))))))
  rw [if_neg (of_decide_eq_false hl)] at tk0
  refine ss_if (t_inSg (e_ix (e_var 0 rfl (e_var 1 rfl ⟨szM hx, d, h2, e_conS c.digits ⟨d, digT, rfl, rfl, ?_⟩⟩))))
  rw [if_neg Bool.false_ne_true]
  refine ⟨fun h => ?_, fun hd => ?_⟩
  · rw [if_pos (of_decide_eq_true h)] at tk0
    have hne : ofL (run digT ((Ls x).drop a)) ≠ "" := fun he => by
      have : run digT ((Ls x).drop a) = [] := by rw [← ls_ofL (run digT ((Ls x).drop a)), he]; rfl
      rw [h3] at this
      unfold run at this
      rw [List.takeWhile_cons, if_pos h] at this
      cases this
    refine ss_cons (s_asg 5 scope_token_at.nd (e_sl (x := .str x) (l := some (a : Int)) (u := some ((a + (run digT ((Ls x).drop a)).length : Nat) : Int)) (M1 := M) (e_var 0 rfl ⟨rfl, rfl⟩) (o_some (e_var 1 rfl ⟨rfl, rfl⟩)) (o_some (e_call C_end_of (hr.mono (by omega)) (a_cons (e_var 0 rfl (a_cons (e_var 1 rfl (a_cons (e_conS c.digits (a_nil ⟨x, digT, a, rfl, by omega, hx, rfl, rfl⟩))))))))) ⟨szM hx, ?_⟩))
    rw [cut]
    exact ss_one (s_ret (e_make C_Token (hr.mono (by omega)) (a_cons (e_call C_form_of_number (hr.mono (by omega)) (a_cons (e_var 5 rfl (a_nil ⟨_, rfl, hb _, hne, a_cons (e_var 5 rfl (a_cons (e_var 2 rfl (a_cons (e_var 3 rfl (a_nil (new_tok (tk := ⟨formN (ofL (run digT ((Ls x).drop a))), ofL (run digT ((Ls x).drop a)), l, c0⟩) fun t dx M' n1 n2 n3 => Wk.here (mk _ _ tk0 t dx M' n1 n2 n3))))))))⟩)))))))
  rw [if_neg (of_decide_eq_false hd)] at tk0
  refine ss_cons (s_for PassesOwn.never (i_tup (e_con c.signs ?_)))
  refine ⟨fun i σ' M' => ∃ d6 : Option D, σ' = [some (.str x), some (.int (a : Int)), some (.int l), some (.int c0), none, none, d6] ∧ M' = M ∧ ∀ s ∈ signs.take i, (Ls s).isPrefixOf ((Ls x).drop a) = false, ⟨none, rfl, rfl, by simp⟩, fun _ _ _ _ _ => trivial, ?_, ?_⟩
  · rintro i d' σ' M' hd' ⟨d6, rfl, rfl, hs⟩
    obtain ⟨sg, hsg, rfl⟩ := get_map hd'
    have hsl : sg.length ≤ 2 := by
      have key : ∀ y ∈ signs, y.length ≤ 2 := by decide +kernel
      exact key sg (List.mem_of_getElem? hsg)
    refine g_name 6 scope_token_at.nd ?_
    refine ss_if (t_eq ⟨_, hr⟩ (e_sl (x := .str x) (l := some (a : Int)) (u := some ((a + sg.length : Nat) : Int)) (M1 := M') (e_var 0 rfl ⟨rfl, rfl⟩) (o_some (e_var 1 rfl ⟨rfl, rfl⟩)) (o_some (e_add (e_var 1 rfl (e_len m_len (a_cons (e_var 6 rfl (a_nil ⟨szM (by omega), ⟨rfl, rfl⟩⟩))))))) ⟨szM hx, e_var 6 rfl ⟨trivial, ?_⟩⟩))
    rw [cutS_mid (by omega) (by omega), Nat.add_sub_cancel_left, eqv_str]
    have hpre : (Ls sg).isPrefixOf ((Ls x).drop a) = decide (ofL (((Ls x).drop a).take sg.length) = sg) := by
      rw [pre_take, ls_len, Bool.eq_iff_iff, decide_eq_true_eq, decide_eq_true_eq]
      exact ⟨fun h => by rw [h, ofL_ls], fun h => by rw [← ls_ofL (((Ls x).drop a).take sg.length), h]⟩
    rw [← hpre]
    refine ⟨fun h => ?_, fun h => ?_⟩
    · have hf := find_at hs hsg h
      rw [hf] at tk0
      exact ss_one (s_ret (e_make C_Token (hr.mono (by omega)) (a_cons (e_str (a_cons (e_var 6 rfl (a_cons (e_var 2 rfl (a_cons (e_var 3 rfl (a_nil (new_tok (tk := ⟨"sign", sg, l, c0⟩) fun t dx M' n1 n2 n3 => Wk.here (mk _ _ tk0 t dx M' n1 n2 n3)))))))))))))
    · refine ss_nil ⟨_, rfl, rfl, fun s' hs' => ?_⟩
      rw [List.take_add_one, hsg] at hs'
      rcases List.mem_append.mp hs' with h' | h'
      · exact hs s' h'
      · rw [List.mem_singleton.mp h']; exact h
  · rintro σ' M' ⟨d6, rfl, rfl, hs⟩
    rw [List.length_map, List.take_length] at hs
    have hf : signs.find? (fun s => (Ls s).isPrefixOf ((Ls x).drop a)) = none := by
      rw [List.find?_eq_none]
      intro s' hs'
      rw [hs s' hs']
      exact Bool.false_ne_true
    rw [hf] at tk0
    exact ss_one (s_ret (e_make C_Token (hr.mono (by omega)) (a_cons (e_str (a_cons (e_ix (e_var 0 rfl (e_var 1 rfl ⟨szM hx, d, h2, a_cons (e_var 2 rfl (a_cons (e_var 3 rfl (a_nil (new_tok (tk := ⟨"bad", ofL [d], l, c0⟩) fun t dx M' n1 n2 n3 => Wk.here (mk _ _ tk0 t dx M' n1 n2 n3))))))⟩))))))))
/-- the tokens that stand at ads -/
inductive Toks (T : Addr) (M : Mp) : List Addr → List Tok → Prop
  | nil : Toks T M [] []
  | cons {a dx : Addr} {tk : Tok} {as : List Addr} {ts : List Tok} : M a = some (.ins T dx (tokF tk)) → Toks T M as ts → Toks T M (a :: as) (tk :: ts)
theorem Toks.len {M : Mp} : ∀ {as : List Addr} {ts : List Tok}, Toks T M as ts → as.length = ts.length
  | _, _, .nil => rfl
  | _, _, .cons _ t => by rw [List.length_cons, List.length_cons, t.len]
theorem Toks.kept {M M' : Mp} {p : Addr} (k : Keep p M M') (hp : ∀ dx tk, M p ≠ some (.ins T dx (tokF tk))) : ∀ {as : List Addr} {ts : List Tok}, Toks T M as ts → Toks T M' as ts
  | _, _, .nil => .nil
  | _, _, .cons (a := a) e t => .cons (k.at (by rintro rfl; exact hp _ _ e) e) (t.kept k hp)
theorem Toks.le {M M' : Mp} (l : Mle M M') : ∀ {as : List Addr} {ts : List Tok}, Toks T M as ts → Toks T M' as ts
  | _, _, .nil => .nil
  | _, _, .cons e t => .cons (l.at e) (t.le l)
theorem Toks.snoc {M : Mp} {a dx : Addr} {tk : Tok} (e : M a = some (.ins T dx (tokF tk))) : ∀ {as : List Addr} {ts : List Tok}, Toks T M as ts → Toks T M (as ++ [a]) (ts ++ [tk])
  | _, _, .nil => .cons e .nil
  | _, _, .cons e1 t => .cons e1 (t.snoc e)
theorem Toks.get {M : Mp} : ∀ {as : List Addr} {ts : List Tok} {i : Nat} {tk : Tok}, Toks T M as ts → ts[i]? = some tk → ∃ a dx, as[i]? = some a ∧ M a = some (.ins T dx (tokF tk))
  | _, _, i, _, .nil, h => by simp at h
  | _, _, 0, _, .cons e t, h => by simp at h; subst h; exact ⟨_, _, rfl, e⟩
  | _, _, i + 1, _, .cons e t, h => by
    obtain ⟨a, dx, h1, h2⟩ := t.get (i := i) (by simpa using h)
    exact ⟨a, dx, by simpa using h1, h2⟩
def spToks (T : Addr) : Sp3 := fun ds M Q => ∃ (x : Str) (toks : List Tok), ds = [.str x] ∧ x.length ≤ 16000000 ∧ Lex (Ls x) 1 1 toks ∧ ∀ lt ads M', M lt = none → M' lt = some (.lst (ads.map D.ref)) → Toks T M' ads toks → Mle M M' → Q (.ref lt) M'
theorem one_eq {c : Nat} {x : Str} {n : Nat} (h : x = ⟨#[n]⟩) : decide ((⟨#[c]⟩ : Str) = x) = decide (c = n) := by
  subst h
  rw [decide_eq_decide]
  simp
theorem ok_toks (F : Fun K "tokens_of" "tokens_of" st_tokens_of f fd) (b : Binds K fd ["text"] []) (g : mg "tokens_of" = some (.ref f)) (cT : TCls K T) (m_len : mg "len" = none)
    (C_token_at : Callee P w K mg base "token_at" 4 ["text", "at", "line", "column"] (spTokAt T))
    (C_Token : CalleeI P w K mg base "Token" T 1 ["self", "form", "text", "line", "column"] (spTInit T)) :
    Callee P w K mg base "tokens_of" 5 ["text"] (spToks T) := by
  refine callee F scope_tokens_of g b (fun ds M Q ⟨_, _, e, _⟩ => by rw [e]; rfl) (fun cdv A outer s H E hr ds M Q ⟨x, toks, e, hx, hL, q⟩ => ?_)
  subst e
  refine ss_cons (s_asg 1 scope_tokens_of.nd (e_lst (a_nil ⟨by show 0 ≤ sizeLine; decide, fun lt M1 f1 e1 l1 => ?_⟩)))
  refine ss_cons (s_asg 2 scope_tokens_of.nd (e_int ?_))
  refine ss_cons (s_asg 3 scope_tokens_of.nd (e_int ?_))
  refine ss_cons (s_asg 4 scope_tokens_of.nd (e_int ?_))
  have nlt : ∀ {M' : Mp} {ads : List Addr}, M' lt = some (.lst (ads.map D.ref)) → ∀ dx tk, M' lt ≠ some (.ins T dx (tokF tk)) := fun e dx tk h => by
    rw [e] at h
    cases h
  refine ss_cut (fun σ' M' => ∃ (line start : Int) (d5 : Option D) (ads : List Addr) (done rest : List Tok), σ' = [some (.str x), some (.ref lt), some (.int line), some (.int start), some (.int (x.length : Int)), d5] ∧ M' lt = some (.lst (ads.map D.ref)) ∧ Toks T M' ads done ∧ Lex [] line ((x.length : Int) - start + 1) rest ∧ done ++ rest = toks ∧ Mle M M' ∧ done.length ≤ x.length)
    (s_while (fun m σ' M' => ∃ (k : Nat) (line start : Int) (d5 : Option D) (ads : List Addr) (done rest : List Tok), σ' = [some (.str x), some (.ref lt), some (.int line), some (.int start), some (.int (k : Int)), d5] ∧ M' lt = some (.lst (ads.map D.ref)) ∧ Toks T M' ads done ∧ Lex ((Ls x).drop k) line ((k : Int) - start + 1) rest ∧ done ++ rest = toks ∧ Mle M M' ∧ m = x.length - k ∧ k ≤ x.length ∧ done.length ≤ k) x.length
      ⟨0, 1, 0, none, [], [], toks, rfl, e1, .nil, by simpa using hL, rfl, l1, by omega, by omega, Nat.le_refl _⟩ PassesOwn.never ?_) ?_
  · rintro m σ' M2 ⟨k, line, start, d5, ads, done, rest, rfl, ea, ht, hL, hd, lm, rfl, hk, hdl⟩
    refine t_lt (e_var 4 rfl (e_len m_len (a_cons (e_var 0 rfl (a_nil ⟨szM hx, ?_⟩)))))
    refine ⟨fun hc => ?_, fun hc => ?_⟩
    · have hc : k < x.length := by have := of_decide_eq_true hc; omega
      obtain ⟨c, h1, h2, h3⟩ := atI_ls hc
      have hL0 := hL
      rw [h3] at hL
      refine ss_one (s_if (t_eq ⟨_, hr⟩ (e_ix (e_var 0 rfl (e_var 4 rfl ⟨szM hx, c, h2, e_str ⟨trivial, ?_⟩⟩)))))
      rw [eqv_str, one_eq (show ("\n" : Str) = ⟨#[10]⟩ by decide +kernel)]
      refine ⟨fun hn => ?_, fun hn => ?_⟩
      · have hn := of_decide_eq_true hn
        subst hn
        refine ss_cons (s_augI 2 scope_tokens_of.nd rfl (e_int ?_))
        refine ss_cons (s_asg 3 scope_tokens_of.nd (e_add (e_var 4 rfl (e_int ?_))))
        refine ss_one (s_augI 4 scope_tokens_of.nd rfl (e_int ?_))
        refine ⟨x.length - (k + 1), by omega, k + 1, line + 1, (k : Int) + 1, d5, ads, done, rest, rfl, ea, ht, ?_, hd, lm, rfl, hc, by omega⟩
        have e0 : (((k + 1 : Nat) : Int) - ((k : Int) + 1) + 1) = 1 := by omega
        rw [e0]
        cases hL with
        | nl h => exact h
        | bad n1 => exact absurd rfl n1
        | tok n1 => exact absurd rfl n1
      · have hn := of_decide_eq_false hn
        refine ss_one (s_if (t_eq ⟨_, hr⟩ (e_ix (e_var 0 rfl (e_var 4 rfl ⟨szM hx, c, h2, e_str ⟨trivial, ?_⟩⟩)))))
        rw [eqv_str, one_eq (show (" " : Str) = ⟨#[32]⟩ by decide +kernel)]
        refine ⟨fun hs => ?_, fun hs => ?_⟩
        · have hs := of_decide_eq_true hs
          subst hs
          refine ss_one (s_augI 4 scope_tokens_of.nd rfl (e_int ?_))
          refine ⟨x.length - (k + 1), by omega, k + 1, line, start, d5, ads, done, rest, rfl, ea, ht, ?_, hd, lm, rfl, hc, by omega⟩
          have e0 : (((k + 1 : Nat) : Int) - start + 1) = ((k : Int) - start + 1) + 1 := by omega
          rw [e0]
          cases hL with
          | sp h => exact h
          | bad n1 n2 => exact absurd rfl n2
          | tok n1 n2 => exact absurd rfl n2
        · have hs := of_decide_eq_false hs
          refine ss_cons (s_asg 5 scope_tokens_of.nd (e_call C_token_at hr (a_cons (e_var 0 rfl (a_cons (e_var 4 rfl (a_cons (e_var 2 rfl (a_cons (e_add (e_sub (e_var 4 rfl (e_var 3 rfl (e_int (a_nil ⟨x, k, line, _, rfl, hc, hx, fun t dx M3 f3 e3 l3 => ?_⟩)))))))))))))))
          have ntl : t ≠ lt := Ne.symm (mne ea f3)
          refine ss_cons (s_expr (e_lm PySem.F.slot_list_append PySem.F.type_list_append mt_append rd_app (e_var 1 rfl ⟨⟨_, l3.at ea⟩, a_cons (e_var 5 rfl (a_nil ⟨_, l3.at ea, szMlt (by rw [List.length_map, ht.len]; omega), fun M4 e4 k4 => ?_⟩))⟩)))
          have e4t := k4.at ntl e3
          have e4' : M4 lt = some (.lst ((ads ++ [t]).map D.ref)) := by rw [e4]; simp
          have ht4 := (Toks.kept k4 (nlt (l3.at ea)) (ht.le l3)).snoc e4t
          refine ss_if (t_eq ⟨_, hr⟩ (e_fld (e_var 5 rfl ⟨T, dx, _, _, e4t, cT.cl, cT.n1, fl_form, e_str ⟨trivial, ?_⟩⟩)))
          rw [eqv_str]
          have lm4 : Mle M M4 := (lm.trans l3).other k4 f1
          cases hL with
          | nl h => exact absurd rfl hn
          | sp h => exact absurd rfl hs
          | @bad _ _ _ _ t0 n1 n2 h =>
            rw [← h3] at h
            rw [h] at e4t ht4 ⊢
            refine ⟨fun _ => ?_, fun hf => absurd (of_decide_eq_false hf) (by simp)⟩
            refine ss_one (s_ret (e_var 1 rfl (Wk.here (q lt (ads ++ [t]) M4 f1 e4' ?_ lm4))))
            rw [← hd]
            exact ht4
          | @tok _ _ r' _ _ f0 t0 ts n1 n2 h hf0 hlen hcs hL' =>
            rw [← h3] at h hcs
            rw [h] at e4t ht4 ⊢
            refine ⟨fun hf => absurd (of_decide_eq_true hf) hf0, fun _ => ?_⟩
            have htl : t0.length ≤ x.length - k := by
              have := congrArg List.length hcs
              rw [List.length_drop, List.length_append, ls_len, ls_len] at this
              omega
            refine ss_one (s_augI 4 scope_tokens_of.nd rfl (e_len m_len (a_cons (e_fld (e_var 5 rfl ⟨T, dx, _, _, e4t, cT.cl, cT.n2, fl_text, a_nil ⟨szM (show t0.length ≤ 16000000 by omega), ?_⟩⟩)))))
            refine ⟨x.length - (k + t0.length), by omega, k + t0.length, line, start, _, ads ++ [t], done ++ [⟨f0, t0, line, (k : Int) - start + 1⟩], ts, rfl, e4', ht4, ?_, by rw [← hd]; simp, lm4, rfl, by omega, by rw [List.length_append, List.length_singleton]; omega⟩
            have e0 : (((k + t0.length : Nat) : Int) - start + 1) = ((k : Int) - start + 1) + (t0.length : Int) := by omega
            have e5 : (Ls x).drop (k + t0.length) = r' := by
              rw [← List.drop_drop, hcs, ← ls_len t0, List.drop_left]
            rw [e0, e5]
            exact hL'
    · have hc : k = x.length := by have := of_decide_eq_false hc; omega
      subst hc
      rw [List.drop_eq_nil_of_le (by rw [ls_len]; exact Nat.le_refl _)] at hL
      exact ⟨line, start, d5, ads, done, rest, rfl, ea, ht, hL, hd, lm, hdl⟩
  · rintro σ' M2 ⟨line, start, d5, ads, done, rest, rfl, ea, ht, hL, hd, lm, hdl⟩
    cases hL with
    | nil =>
      refine ss_cons (s_expr (e_lm PySem.F.slot_list_append PySem.F.type_list_append mt_append rd_app (e_var 1 rfl ⟨⟨_, ea⟩, a_cons (e_make C_Token (hr.mono (by omega)) (a_cons (e_str (a_cons (e_str (a_cons (e_var 2 rfl (a_cons (e_add (e_sub (e_var 4 rfl (e_var 3 rfl (e_int (a_nil (new_tok (tk := ⟨"end", "", line, (x.length : Int) - start + 1⟩) fun t dx M3 f3 e3 l3 => a_nil ⟨_, l3.at ea, szMlt (by rw [List.length_map, ht.len]; omega), fun M4 e4 k4 => ?_⟩)))))))))))))))⟩)))
      have ntl : t ≠ lt := Ne.symm (mne ea f3)
      have e4' : M4 lt = some (.lst ((ads ++ [t]).map D.ref)) := by rw [e4]; simp
      have ht4 := (Toks.kept k4 (nlt (l3.at ea)) (ht.le l3)).snoc (k4.at ntl e3)
      refine ss_one (s_ret (e_var 1 rfl (Wk.here (q lt (ads ++ [t]) M4 f1 e4' ?_ ((lm.trans l3).other k4 f1)))))
      rw [← hd]
      exact ht4
end
end My
set_option maxHeartbeats 4000000
namespace My
open PySem L2 DL
/-! ### the tokens of a row, as the text has them -/
def splitT (t : Str) : List Str := if t = "&mut" then ["&", "mut"] else if 1 < t.length ∧ (Ls t).head? = some 45 ∧ t ≠ "->" then ["-", ofL ((Ls t).drop 1)] else [t]
def rawL (l : List Str) : List Str := (l.map splitT).flatten
theorem rawL_nil : rawL [] = [] := rfl
theorem rawL_cons (t : Str) (r : List Str) : rawL (t :: r) = splitT t ++ rawL r := by unfold rawL; rw [List.map_cons, List.flatten_cons]
theorem rawL_app (a b : List Str) : rawL (a ++ b) = rawL a ++ rawL b := by unfold rawL; rw [List.map_append, List.flatten_append]
theorem rawL_flat (ls : List (List Str)) : rawL ls.flatten = (ls.map rawL).flatten := by
  induction ls with
  | nil => rfl
  | cons x r ih => rw [List.flatten_cons, rawL_app, ih, List.map_cons, List.flatten_cons]
theorem split_wd {t : Str} (h : (Ls t).head? ≠ some 45) (h2 : t ≠ "&mut") : splitT t = [t] := by
  unfold splitT
  rw [if_neg h2, if_neg (by rintro ⟨_, h3, _⟩; exact h h3)]
theorem rawL_one {t : Str} (r : List Str) (h : splitT t = [t]) : rawL (t :: r) = t :: rawL r := by rw [rawL_cons, h]; rfl
def comL (ls : List (List Str)) : List Str := (ls.map fun x => ("," : Str) :: x).flatten
theorem comL_cons (x : List Str) (r : List (List Str)) : comL (x :: r) = ("," : Str) :: (x ++ comL r) := by unfold comL; rw [List.map_cons, List.flatten_cons]; rfl
theorem sepL_com (x : List Str) : ∀ r : List (List Str), sepL (x :: r) = x ++ comL r
  | [] => by simp [sepL, comL]
  | y :: r => by rw [sepL, sepL_com y r, comL_cons]
theorem rawL_sepL : ∀ ls : List (List Str), rawL (sepL ls) = sepL (ls.map rawL)
  | [] => rfl
  | [x] => rfl
  | x :: y :: r => by
    rw [sepL, rawL_app, rawL_one _ (by decide +kernel), rawL_sepL (y :: r)]
    rfl
theorem name_ne {n : Nat} {x : Str} (h : NameS n x) : (Ls x).head? ≠ some 45 ∧ x ≠ "&mut" := by
  obtain ⟨c, cs, e, h1, _⟩ := h.hd
  have hc : 97 ≤ c := by simp [lowC] at h1; exact h1.1
  refine ⟨fun h2 => ?_, fun h2 => ?_⟩
  · have e' : Ls x = c :: cs := e
    rw [e'] at h2
    have : c = 45 := Option.some.inj h2
    omega
  · subst h2
    have e' : Ls "&mut" = c :: cs := e
    have e2 : Ls "&mut" = [38, 109, 117, 116] := by decide +kernel
    rw [e2] at e'
    cases e'
    omega
theorem name_split {n : Nat} {x : Str} (h : NameS n x) : splitT x = [x] := split_wd (name_ne h).1 (name_ne h).2
theorem big_split {x : Str} (h : BigS x) : splitT x = [x] := by
  obtain ⟨c, cs, e, h1, h2⟩ := h.hd
  have e' : Ls x = c :: cs := e
  refine split_wd (fun h3 => ?_) (fun h3 => ?_)
  · rw [e'] at h3
    have : c = 45 := Option.some.inj h3
    omega
  · subst h3
    have e2 : Ls "&mut" = [38, 109, 117, 116] := by decide +kernel
    rw [e2] at e'
    cases e'
    omega
/-! forms -/
theorem formT_word {t : Str} (h1 : firstIn t letCh = true) (h2 : ∀ c ∈ Ls t, c ∈ Ls wordCh) : formT t = formW t := by
  obtain ⟨c, r, e, hc⟩ := firstIn_cons h1
  have hr : run wordCh (c :: r) = c :: r := by
    rw [← e]
    have := takeW_app (p := fun c => decide (c ∈ Ls wordCh)) (a := Ls t) (s := []) (fun d hd => decide_eq_true (h2 d hd)) (fun _ h => by cases h)
    rwa [List.append_nil] at this
  unfold formT
  rw [e, tokAt_cons, if_pos hc, hr, ← e, ofL_ls]
theorem low_small {c : Nat} (h : lowC c = true) : c ∈ Ls smallT := by
  have key : (List.range 123).all (fun c => !lowC c || decide (c ∈ Ls smallT)) = true := by decide +kernel
  have hc : c < 123 := by simp [lowC] at h; omega
  have := List.all_eq_true.mp key c (by simpa using hc)
  rw [h] at this
  simpa using this
theorem word_nameCh {c : Nat} (h : wordC c = true) : c ∈ Ls nameCh := by
  have key : (List.range 123).all (fun c => !wordC c || decide (c ∈ Ls nameCh)) = true := by decide +kernel
  have hc : c < 123 := by
    simp only [wordC, lowC, Bool.or_eq_true, Bool.and_eq_true, decide_eq_true_eq] at h
    omega
  have := List.all_eq_true.mp key c (by simpa using hc)
  rw [h] at this
  simpa using this
theorem name_word : ∀ c ∈ Ls nameCh, c ∈ Ls wordCh := by
  have k : (Ls nameCh).all (fun c => decide (c ∈ Ls wordCh)) = true := by decide +kernel
  exact fun c hc => of_decide_eq_true (List.all_eq_true.mp k c hc)
theorem small_let : ∀ c ∈ Ls smallT, c ∈ Ls letCh ∧ c ∈ Ls nameCh ∧ c ∉ Ls largeT := by
  have k : (Ls smallT).all (fun c => decide (c ∈ Ls letCh ∧ c ∈ Ls nameCh ∧ c ∉ Ls largeT)) = true := by decide +kernel
  exact fun c hc => of_decide_eq_true (List.all_eq_true.mp k c hc)
theorem firstIn_of {t y : Str} {c : Nat} {r : List Nat} (e : Ls t = c :: r) (h : c ∈ Ls y) : firstIn t y = true := by
  unfold firstIn; rw [e]; exact decide_eq_true h
theorem nm_form {x : Str} (h : Nm x) : formT x = "name" ∧ WfT x := by
  obtain ⟨c, cs, e, h1, h2⟩ := h.nm.hd
  have e' : Ls x = c :: cs := e
  have hs := low_small h1
  have hall : ∀ d ∈ Ls x, d ∈ Ls nameCh := fun d hd => by
    rw [e'] at hd
    rcases List.mem_cons.mp hd with rfl | hd
    · exact (small_let _ hs).2.1
    · exact word_nameCh (h2 d hd)
  have f1 := firstIn_of e' (small_let _ hs).1
  have f2 : ∀ d ∈ Ls x, d ∈ Ls wordCh := fun d hd => name_word d (hall d hd)
  have hn : isNm x = true := by
    unfold isNm
    rw [if_neg, firstIn_of e' hs, Bool.true_and]
    · unfold allIn
      rw [List.all_eq_true]
      exact fun d hd => decide_eq_true (hall d hd)
    · rintro (h3 | h3 | h3)
      · subst h3; cases e'
      · have := h.nm.len; omega
      · exact h.nw h3
  have fw : formW x = "name" := by
    unfold formW
    rw [if_neg h.nw, if_pos hn]
  exact ⟨by rw [formT_word f1 f2, fw], .word f1 f2 (by rw [fw]; decide +kernel)⟩
theorem big_form {x : Str} (h : BigS x) : formT x = "record" ∧ WfT x := by
  obtain ⟨c, cs, e, h1, h2⟩ := h.hd
  have e' : Ls x = c :: cs := e
  have k1 : (List.range 91).all (fun c => decide (c < 65) || decide (c ∈ Ls largeT ∧ c ∈ Ls letCh ∧ c ∉ Ls smallT)) = true := by decide +kernel
  have hc := List.all_eq_true.mp k1 c (by simp; omega)
  have hc : c ∈ Ls largeT ∧ c ∈ Ls letCh ∧ c ∉ Ls smallT := by
    simp only [Bool.or_eq_true, decide_eq_true_eq] at hc
    rcases hc with hc | hc
    · omega
    · exact hc
  have k2 : ("ABCDEFGHIJKLMNOPQRSTUVWXYZabcdefghijklmnopqrstuvwxyz0123456789" : Str).cps.toList.all (fun c => decide (c ∈ Ls recCh ∧ c ∈ Ls wordCh)) = true := by decide +kernel
  have hall : ∀ d ∈ Ls x, d ∈ Ls recCh ∧ d ∈ Ls wordCh := fun d hd => of_decide_eq_true (List.all_eq_true.mp k2 d (h.al d hd))
  have f1 := firstIn_of e' hc.2.1
  have f2 : ∀ d ∈ Ls x, d ∈ Ls wordCh := fun d hd => (hall d hd).2
  have hne : x ≠ "" := fun h3 => by subst h3; cases e'
  have hw : x ∉ words := big_head h (by decide +kernel)
  have hn : isNm x = false := by
    unfold isNm
    split
    · rfl
    · unfold firstIn
      rw [e']
      show (decide (c ∈ Ls smallT) && _) = false
      rw [decide_eq_false hc.2.2, Bool.false_and]
  have hr : isRn x = true := by
    unfold isRn
    rw [if_neg, firstIn_of e' hc.1, Bool.true_and]
    · unfold allIn
      rw [List.all_eq_true]
      exact fun d hd => decide_eq_true (hall d hd).1
    · rintro (h3 | h3)
      · exact hne h3
      · have := h.sok.1; omega
  have fw : formW x = "record" := by
    unfold formW
    rw [if_neg hw, hn, if_neg Bool.false_ne_true, if_pos hr]
  exact ⟨by rw [formT_word f1 f2, fw], .word f1 f2 (by rw [fw]; decide +kernel)⟩
theorem word_wf {t : Str} (h : t ∈ words) : formT t = "word" ∧ WfT t := by
  have k : words.all (fun t => firstIn t letCh && allIn t wordCh && decide (formT t = "word")) = true := by decide +kernel
  have := List.all_eq_true.mp k t h
  simp only [Bool.and_eq_true, decide_eq_true_eq] at this
  refine ⟨this.2, .word this.1.1 (fun c hc => of_decide_eq_true (List.all_eq_true.mp this.1.2 c hc)) ?_⟩
  unfold formW
  rw [if_pos h]
  decide +kernel
/-- a reserved word, a sign -/
def isKw (t : Str) : Bool := decide (t ∈ words) || decide (t ∈ signs)
theorem kw_form {t : Str} (h : isKw t = true) : formT t = "word" ∨ formT t = "sign" := by
  unfold isKw at h
  rw [Bool.or_eq_true, decide_eq_true_eq, decide_eq_true_eq] at h
  rcases h with h | h
  · exact .inl (word_wf h).1
  · have k : signs.all (fun t => decide (formT t = "sign")) = true := by decide +kernel
    exact .inr (of_decide_eq_true (List.all_eq_true.mp k t h))
/-- a token that a row may hold, none of the equals signs -/
structure TkOk (t : Str) : Prop where
  wf : WfT t
  ne : t ≠ "=" ∧ t ≠ "=="
  ln : t.length ≤ 20
theorem kw_ok {t : Str} (h : isKw t = true) (h2 : t ≠ "=" ∧ t ≠ "==") : TkOk t := by
  unfold isKw at h
  rw [Bool.or_eq_true, decide_eq_true_eq, decide_eq_true_eq] at h
  have k : (words ++ signs).all (fun t => decide (t.length ≤ 20)) = true := by decide +kernel
  have hl := of_decide_eq_true (List.all_eq_true.mp k t (List.mem_append.mpr h))
  rcases h with h | h
  · exact ⟨(word_wf h).2, h2, hl⟩
  · exact ⟨.sign h, h2, hl⟩
theorem eq_forms : formT "=" = "sign" ∧ formT "==" = "sign" := by decide +kernel
theorem nm_ok {x : Str} (h : Nm x) : TkOk x := ⟨(nm_form h).2, ⟨(fun e => by have := (nm_form h).1; rw [e, eq_forms.1] at this; revert this; decide +kernel), (fun e => by have := (nm_form h).1; rw [e, eq_forms.2] at this; revert this; decide +kernel)⟩, h.nm.len⟩
theorem big_ok {x : Str} (h : BigS x) : TkOk x := ⟨(big_form h).2, ⟨(fun e => by have := (big_form h).1; rw [e, eq_forms.1] at this; revert this; decide +kernel), (fun e => by have := (big_form h).1; rw [e, eq_forms.2] at this; revert this; decide +kernel)⟩, h.sok.1⟩
theorem nm_kw {x t : Str} (h : Nm x) (k : isKw t = true) : x ≠ t := fun e => by
  have h1 := (nm_form h).1
  rw [e] at h1
  rcases kw_form k with h2 | h2
  · rw [h1] at h2; revert h2; decide +kernel
  · rw [h1] at h2; revert h2; decide +kernel
theorem big_kw {x t : Str} (h : BigS x) (k : isKw t = true) : x ≠ t := fun e => by
  have h1 := (big_form h).1
  rw [e] at h1
  rcases kw_form k with h2 | h2
  · rw [h1] at h2; revert h2; decide +kernel
  · rw [h1] at h2; revert h2; decide +kernel
theorem eqF_of : ∀ {ts : List Str}, (∀ t ∈ ts, t ≠ "=" ∧ t ≠ "==") → EqF ts
  | [], _ => trivial
  | [a], _ => trivial
  | a :: b :: r, h => ⟨fun e => absurd e (h a List.mem_cons_self).1, eqF_of fun t ht => h t (List.mem_cons_of_mem _ ht)⟩
theorem com_mem {t : Str} {P : Str → Prop} (h0 : P ",") : ∀ {ls : List (List Str)}, (∀ l ∈ ls, ∀ t ∈ l, P t) → t ∈ sepL ls → P t := fun {ls} h ht => by
  rcases sepL_mem ht with rfl | ⟨ρ, h1, h2⟩
  · exact h0
  · exact h ρ h1 t h2
theorem raw_mem {P : Str → Prop} {l : List Str} (h : ∀ t ∈ l, ∀ u ∈ splitT t, P u) : ∀ u ∈ rawL l, P u := fun u hu => by
  unfold rawL at hu
  obtain ⟨x, hx, hu⟩ := List.mem_flatten.mp hu
  obtain ⟨t, ht, rfl⟩ := List.mem_map.mp hx
  exact h t ht u hu
/-! kinds -/
def Kd.raw (k : Kd) : List Str := rawL k.kr
theorem raw_int : Kd.raw .int = [("int" : Str)] := by simp only [Kd.raw, Kd.kr]; decide +kernel
theorem raw_bool : Kd.raw .bool = [("bool" : Str)] := by simp only [Kd.raw, Kd.kr]; decide +kernel
theorem raw_unit : Kd.raw .unit = [("unit" : Str)] := by simp only [Kd.raw, Kd.kr]; decide +kernel
theorem raw_box (k : Kd) : Kd.raw (.box k) = ("box" : Str) :: k.raw := by simp only [Kd.raw, Kd.kr]; exact rawL_one _ (by decide +kernel)
theorem raw_maybe (k : Kd) : Kd.raw (.maybe k) = ("maybe" : Str) :: k.raw := by simp only [Kd.raw, Kd.kr]; exact rawL_one _ (by decide +kernel)
theorem raw_shared (k : Kd) : Kd.raw (.shared k) = ("&" : Str) :: k.raw := by simp only [Kd.raw, Kd.kr]; exact rawL_one _ (by decide +kernel)
theorem raw_excl (k : Kd) : Kd.raw (.excl k) = ("&" : Str) :: ("mut" : Str) :: k.raw := by
  simp only [Kd.raw, Kd.kr]
  rw [rawL_cons, show splitT "&mut" = [("&" : Str), ("mut" : Str)] by decide +kernel]
  rfl
theorem raw_tup (l : List Kd) : Kd.raw (.tup l) = ("(" : Str) :: (sepL (l.map Kd.raw) ++ [(")" : Str)]) := by
  simp only [Kd.raw, Kd.kr]
  rw [List.cons_append, rawL_one _ (by decide +kernel), rawL_app, rawL_sepL, Kd.krs_map, List.map_map]
  rfl
theorem raw_rcd {x : Str} (h : BigS x) : Kd.raw (.rcd x) = [x] := by simp only [Kd.raw, Kd.kr]; rw [rawL_one _ (big_split h)]; rfl
theorem kr_ok : ∀ (n : Nat) (k : Kd), Tk n k → ∀ t ∈ k.raw, TkOk t
  | 0, k, h => by have := h.lev; have := k.lev_pos; omega
  | n + 1, k, h => by
    have sub : ∀ x : Kd, k.wf = x.wf → k.lev = x.lev + 1 → k.rn = x.rn → ∀ t ∈ x.raw, TkOk t := fun x h1 h2 h3 => kr_ok n x ⟨h1.symm.trans h.wf, by have := h.lev; omega, fun y hy => h.rn y (by rw [h3]; exact hy)⟩
    have cs : ∀ {P : Str → Prop} {a : Str} {r : List Str}, P a → (∀ t ∈ r, P t) → ∀ t ∈ a :: r, P t := fun h1 h2 t ht => by
      rcases List.mem_cons.mp ht with rfl | ht
      · exact h1
      · exact h2 t ht
    cases k with
    | int => rw [raw_int]; exact cs (kw_ok (by decide +kernel) (by decide +kernel)) (fun _ h => nomatch h)
    | bool => rw [raw_bool]; exact cs (kw_ok (by decide +kernel) (by decide +kernel)) (fun _ h => nomatch h)
    | unit => rw [raw_unit]; exact cs (kw_ok (by decide +kernel) (by decide +kernel)) (fun _ h => nomatch h)
    | rcd x =>
      have hx := h.rn x (by simp [Kd.rn])
      rw [raw_rcd hx]; exact cs (big_ok hx) (fun _ h => nomatch h)
    | box x => rw [raw_box]; exact cs (kw_ok (by decide +kernel) (by decide +kernel)) (sub x (by simp only [Kd.wf]) rfl (by simp only [Kd.rn]))
    | maybe x => rw [raw_maybe]; exact cs (kw_ok (by decide +kernel) (by decide +kernel)) (sub x (by simp only [Kd.wf]) rfl (by simp only [Kd.rn]))
    | shared x => rw [raw_shared]; exact cs (kw_ok (by decide +kernel) (by decide +kernel)) (sub x (by simp only [Kd.wf]) rfl (by simp only [Kd.rn]))
    | excl x => rw [raw_excl]; exact cs (kw_ok (by decide +kernel) (by decide +kernel)) (cs (kw_ok (by decide +kernel) (by decide +kernel)) (sub x (by simp only [Kd.wf]) rfl (by simp only [Kd.rn])))
    | tup l =>
      rw [raw_tup]
      refine cs (kw_ok (by decide +kernel) (by decide +kernel)) fun t ht => ?_
      rcases List.mem_append.mp ht with ht | ht
      · refine com_mem (P := TkOk) (kw_ok (by decide +kernel) (by decide +kernel)) (fun l' hl' t ht => ?_) ht
        obtain ⟨k, hk, rfl⟩ := List.mem_map.mp hl'
        exact kr_ok n k (h.part k hk) t ht
      · rw [List.mem_singleton.mp ht]; exact kw_ok (by decide +kernel) (by decide +kernel)
/-! declarations -/
def fRw (p : Str × Kd) : List Str := p.1 :: (":" : Str) :: p.2.raw
def fsRw (fs : List (Str × Kd)) : List Str := sepL (fs.map fRw)
theorem fsR_raw {fs : List (Str × Kd)} (h : ∀ p ∈ fs, Fd p) : rawL (fsR fs) = fsRw fs := by
  unfold fsR fsRw
  rw [rawL_sepL, List.map_map]
  congr 1
  refine List.map_congr_left fun p hp => ?_
  show rawL (fR p) = fRw p
  unfold fR fRw
  rw [rawL_one _ (name_split (h p hp).nm.nm), rawL_one _ (by decide +kernel)]
  rfl
theorem fsRw_ok {fs : List (Str × Kd)} (h : ∀ p ∈ fs, Fd p) : ∀ t ∈ fsRw fs, TkOk t := fun t ht => by
  refine com_mem (P := TkOk) (kw_ok (by decide +kernel) (by decide +kernel)) (fun l hl t ht => ?_) ht
  obtain ⟨p, hp, rfl⟩ := List.mem_map.mp hl
  rcases List.mem_cons.mp ht with rfl | ht
  · exact nm_ok (h p hp).nm
  · rcases List.mem_cons.mp ht with rfl | ht
    · exact kw_ok (by decide +kernel) (by decide +kernel)
    · exact kr_ok 3 p.2 (h p hp).k t ht
def rcRw (r : Str × List (Str × Kd)) : List Str := ("record" : Str) :: r.1 :: ("{" : Str) :: (fsRw r.2 ++ [("}" : Str)])
theorem rcR_raw {r : Str × List (Str × Kd)} (h : Rc r) : rawL (rcR r) = rcRw r := by
  unfold rcR rcRw
  rw [List.append_assoc]
  show rawL (("record" : Str) :: r.1 :: ("{" : Str) :: (fsR r.2 ++ [("}" : Str)])) = _
  rw [rawL_one _ (by decide +kernel), rawL_one _ (big_split h.nm), rawL_one _ (by decide +kernel), rawL_app, fsR_raw h.fl]
  rfl
def srcRw (l : List Str) : List Str := if l = [] then [] else ("from" : Str) :: sepL (l.map fun s => [s])
theorem srcR_raw {l : List Str} (h : ∀ s ∈ l, Nm s) : rawL (srcR l) = srcRw l := by
  unfold srcR srcRw
  split
  · rfl
  · rw [rawL_one _ (by decide +kernel), rawL_sepL, List.map_map]
    congr 2
    refine List.map_congr_left fun s hs => ?_
    show rawL [s] = [s]
    rw [rawL_one _ (name_split (h s hs).nm)]
    rfl
def hdRw (x : Fu) : List Str := ("fn" : Str) :: x.nm :: ("(" : Str) :: (fsRw x.ps ++ ((")" : Str) :: ("->" : Str) :: (x.res.raw ++ srcRw x.src)))
theorem hdR_raw {x : Fu} (h : FuOk x) : rawL (hdR x) = hdRw x := by
  have e0 : hdR x = ("fn" : Str) :: x.nm :: ("(" : Str) :: (fsR x.ps ++ ((")" : Str) :: ("->" : Str) :: (x.res.kr ++ srcR x.src))) := by simp [hdR]
  rw [e0, rawL_one _ (by decide +kernel), rawL_one _ (name_split h.nm.nm), rawL_one _ (by decide +kernel), rawL_app, fsR_raw h.ps, rawL_one _ (by decide +kernel), rawL_one _ (by decide +kernel), rawL_app, srcR_raw h.src]
  rfl
theorem rcRw_ok {r : Str × List (Str × Kd)} (h : Rc r) : ∀ t ∈ rcRw r, TkOk t := fun t ht => by
  simp only [rcRw, List.mem_append, List.mem_cons, List.not_mem_nil, or_false] at ht
  rcases ht with rfl | rfl | rfl | ht | rfl
  · exact kw_ok (by decide +kernel) (by decide +kernel)
  · exact big_ok h.nm
  · exact kw_ok (by decide +kernel) (by decide +kernel)
  · exact fsRw_ok h.fl t ht
  · exact kw_ok (by decide +kernel) (by decide +kernel)
theorem srcRw_ok {l : List Str} (h : ∀ s ∈ l, Nm s) : ∀ t ∈ srcRw l, TkOk t := fun t ht => by
  unfold srcRw at ht
  split at ht
  · cases ht
  · rcases List.mem_cons.mp ht with rfl | ht
    · exact kw_ok (by decide +kernel) (by decide +kernel)
    · refine com_mem (P := TkOk) (kw_ok (by decide +kernel) (by decide +kernel)) (fun l hl t ht => ?_) ht
      obtain ⟨s, hs, rfl⟩ := List.mem_map.mp hl
      rw [List.mem_singleton.mp ht]
      exact nm_ok (h s hs)
theorem hdRw_ok {x : Fu} (h : FuOk x) : ∀ t ∈ hdRw x, TkOk t := fun t ht => by
  simp only [hdRw, List.mem_append, List.mem_cons] at ht
  rcases ht with rfl | rfl | rfl | ht | rfl | rfl | ht | ht
  · exact kw_ok (by decide +kernel) (by decide +kernel)
  · exact nm_ok h.nm
  · exact kw_ok (by decide +kernel) (by decide +kernel)
  · exact fsRw_ok h.ps t ht
  · exact kw_ok (by decide +kernel) (by decide +kernel)
  · exact kw_ok (by decide +kernel) (by decide +kernel)
  · exact kr_ok 3 x.res h.res t ht
  · exact srcRw_ok h.src t ht
end My
set_option maxHeartbeats 4000000
namespace My
open PySem L2 DL
/-! ### the parser -/
structure PCls (K : PySem.W.Frag) (C : Addr) : Prop where
  cl : Cls K C
  n1 : NoAttr K C "tokens"
  n2 : NoAttr K C "at"
structure Pr where
  p : Addr
  dx : Addr
  lt : Addr
  ads : List Addr
  toks : List Tok
def parF (lt : Addr) (n : Nat) : List (Str × D) := [("tokens", .ref lt), ("at", .int (n : Int))]
theorem pf_tokens {lt : Addr} {n : Nat} : (parF lt n).lookup ("tokens" : Str) = some (.ref lt) := by
  unfold parF
  rw [List.lookup_cons_self]
theorem pf_at {lt : Addr} {n : Nat} : (parF lt n).lookup ("at" : Str) = some (.int (n : Int)) := by
  unfold parF
  have h : (("at" : Str) == "tokens") = false := by decide +kernel
  rw [List.lookup_cons, h, List.lookup_cons_self]
theorem pf_no {lt : Addr} {n : Nat} {m : Str} (h1 : (m == "tokens") = false) (h2 : (m == "at") = false) : (parF lt n).lookup m = none := by
  unfold parF
  rw [List.lookup_cons, h1, List.lookup_cons, h2]
  rfl
/-- the parser E stands ahead of the tokens ts -/
structure PT (C T : Addr) (E : Pr) (M : Mp) (ts : List Str) : Prop where
  ob : ∃ n : Nat, M E.p = some (.ins C E.dx (parF E.lt n)) ∧ (E.toks.map (·.text)).drop n = ts
  li : M E.lt = some (.lst (E.ads.map D.ref))
  tk : Toks T M E.ads E.toks
  fm : ∀ tk ∈ E.toks, tk.form = formT tk.text
theorem drop_hd {α : Type} {l : List α} {n : Nat} {t : α} {ts : List α} (h : l.drop n = t :: ts) : l[n]? = some t ∧ l.drop (n + 1) = ts := by
  have hn : n < l.length := by
    by_cases hn : n < l.length
    · exact hn
    · rw [List.drop_eq_nil_of_le (by omega)] at h; cases h
  rw [List.drop_eq_getElem_cons hn] at h
  cases h
  exact ⟨List.getElem?_eq_getElem hn, rfl⟩
section
variable {C T : Addr} {E : Pr} {M M' : Mp} {ts : List Str}
theorem PT.nlt (h : PT C T E M ts) : E.lt ≠ E.p := by
  obtain ⟨n, e, _⟩ := h.ob
  intro hh
  have := h.li
  rw [hh, e] at this
  cases this
theorem par_tok {dx dx' lt : Addr} {n : Nat} {tk : Tok} : (some (MO.ins C dx (parF lt n)) : Option MO) ≠ some (.ins T dx' (tokF tk)) := fun h => by
  have h1 : parF lt n = tokF tk := by injection h with h; injection h
  have := congrArg List.length h1
  simp [parF, tokF] at this
theorem PT.step {t : Str} (h : PT C T E M (t :: ts)) {n : Nat} (e : M E.p = some (.ins C E.dx (parF E.lt n))) (e2 : M' E.p = some (.ins C E.dx (parF E.lt (n + 1)))) (k : Keep E.p M M') : PT C T E M' ts := by
  obtain ⟨n', e', hd⟩ := h.ob
  have hn : n = n' := by
    rw [e] at e'
    have h1 : parF E.lt n = parF E.lt n' := by injection e' with e'; injection e'
    simp only [parF, List.cons.injEq, Prod.mk.injEq, D.int.injEq, true_and, and_true] at h1
    omega
  subst hn
  exact ⟨⟨n + 1, e2, (drop_hd hd).2⟩, k.at h.nlt h.li, h.tk.kept k (fun dx tk hh => par_tok (by rw [← e, hh])), h.fm⟩
theorem _root_.DL.Keep.setN' {a p : Addr} {M0 M1 M2 : Mp} (k : Keep a M0 M1) (h : M0 p = none) (k' : Keep p M1 M2) : Keep a M0 M2 := k.other k' h
theorem PT.le (h : PT C T E M ts) (l : Mle M M') : PT C T E M' ts := by
  obtain ⟨n, e, hd⟩ := h.ob
  exact ⟨⟨n, l.at e, hd⟩, l.at h.li, h.tk.le l, h.fm⟩
theorem PT.setQ {q : Addr} {ds : List D} (h : PT C T E M ts) (k : Keep q M M') (e : M q = some (.lst ds)) (n : E.lt ≠ q) : PT C T E M' ts := by
  obtain ⟨m, e1, hd⟩ := h.ob
  refine ⟨⟨m, k.at (by rintro hh; rw [hh, e] at e1; cases e1) e1, hd⟩, k.at n h.li, h.tk.kept k (fun dx tk hh => by rw [e] at hh; cases hh), h.fm⟩
/-- fresh behind M0 -/
theorem PT.out {q : Addr} (h : PT C T E M ts) (f : M q = none) : E.lt ≠ q ∧ q ≠ E.p := by
  obtain ⟨n, e, _⟩ := h.ob
  exact ⟨mne h.li f, Ne.symm (mne e f)⟩
end
section
variable {P : Program} {w : World} {K : PySem.W.Frag} {mg : Str → Option Value} {base : Heap} {f : Addr} {fd : FuncData} {C T : Addr}
def spToken (C T : Addr) : Sp3 := fun ds M Q => ∃ (E : Pr) (t : Str) (ts : List Str), ds = [.ref E.p] ∧ PT C T E M (t :: ts) ∧ ∀ a dx tk, M a = some (.ins T dx (tokF tk)) → tk.text = t → tk.form = formT t → Q (.ref a) M
theorem ok_token (cp : PCls K C) (F : Fun K "token" "Parser.token" st_Parser_token f fd) (b : Binds K fd ["self"] []) (Mm : Meth K C "token" f) :
    CalleeM P w K mg base C "token" 1 ["self"] (spToken C T) := by
  refine ⟨f, fd, fn3 F scope_Parser_token (fun ds M Q ⟨_, _, _, e, _⟩ => by rw [e]; rfl) (fun cdv A outer sh H E' hr ds M Q ⟨E, t, ts, e, hp, q⟩ => ?_), Mm, b⟩
  subst e
  obtain ⟨n, e, hd⟩ := hp.ob
  obtain ⟨h1, h2⟩ := drop_hd hd
  rw [List.getElem?_map] at h1
  cases htk : E.toks[n]? with
  | none => rw [htk] at h1; cases h1
  | some tk =>
    rw [htk] at h1
    have ht : tk.text = t := Option.some.inj h1
    obtain ⟨a, dx, ha, ea⟩ := hp.tk.get htk
    have hm := List.mem_of_getElem? htk
    refine ss_one (s_ret (e_ix (e_fld (e_var 0 rfl ⟨C, E.dx, _, _, e, cp.cl, cp.n1, pf_tokens, e_fld (e_var 0 rfl ⟨C, E.dx, _, _, e, cp.cl, cp.n2, pf_at, _, _, hp.li, atI_map_nat ha, Wk.here (q a dx tk ea ht (by rw [hp.fm tk hm, ht]))⟩)⟩))))
def spSees (C T : Addr) : Sp3 := fun ds M Q => ∃ (E : Pr) (t x : Str) (ts : List Str), ds = [.ref E.p, .str x] ∧ PT C T E M (t :: ts) ∧ isKw x = true ∧ Q (.bl (decide (t = x))) M
theorem ok_sees (cp : PCls K C) (cT : TCls K T) (F : Fun K "sees" "Parser.sees" st_Parser_sees f fd) (b : Binds K fd ["self", "text"] []) (Mm : Meth K C "sees" f) (C_token : CalleeM P w K mg base C "token" 1 ["self"] (spToken C T)) :
    CalleeM P w K mg base C "sees" 2 ["self", "text"] (spSees C T) := by
  refine ⟨f, fd, fn3 F scope_Parser_sees (fun ds M Q ⟨_, _, _, _, e, _⟩ => by rw [e]; rfl) (fun cdv A outer sh H E' hr ds M Q ⟨E, t, x, ts, e, hp, kw, q⟩ => ?_), Mm, b⟩
  subst e
  obtain ⟨n, e, hd⟩ := hp.ob
  refine ss_cons (s_asg 2 scope_Parser_sees.nd (e_meth0 cp.cl C_token hr (e_var 0 rfl ⟨E.p, E.dx, _, rfl, e, pf_no (by decide +kernel) (by decide +kernel), E, t, ts, rfl, hp, fun a dx tk ea ht hf => ?_⟩)))
  refine ss_one (s_ret (v_and (e_in (e_fld (e_var 2 rfl ⟨T, dx, _, _, ea, cT.cl, cT.n1, fl_form, e_tup (a_cons (e_str (a_cons (e_str (a_nil ⟨by show 2 ≤ sizeLine; decide, rfl, rfl, ?_⟩)))))⟩)))))
  rw [if_neg Bool.false_ne_true, show [D.str "word", D.str "sign"] = (["word", "sign"] : List Str).map D.str from rfl, inD_strs, hf]
  refine ⟨fun h1 => ?_, fun h1 => ?_⟩
  · refine v_one (e_eq ⟨_, hr⟩ (e_fld (e_var 2 rfl ⟨T, dx, _, _, ea, cT.cl, cT.n2, fl_text, e_var 1 rfl ⟨trivial, ?_⟩⟩)))
    rw [eqv_str, ht]
    exact Wk.here q
  · have : t ≠ x := fun e => by
      subst e
      have h2 := of_decide_eq_false h1
      refine h2 ?_
      rcases kw_form kw with h | h <;> rw [h] <;> simp
    rw [decide_eq_false this] at q
    exact Wk.here q
def spTakes (C T : Addr) : Sp3 := fun ds M Q => ∃ (E : Pr) (t x : Str) (ts : List Str), ds = [.ref E.p, .str x] ∧ PT C T E M (t :: ts) ∧ isKw x = true ∧ (t = x → ∀ M', PT C T E M' ts → Keep E.p M M' → Q (.bl true) M') ∧ (t ≠ x → Q (.bl false) M)
theorem ok_takes (cp : PCls K C) (F : Fun K "takes" "Parser.takes" st_Parser_takes f fd) (b : Binds K fd ["self", "text"] []) (Mm : Meth K C "takes" f) (C_sees : CalleeM P w K mg base C "sees" 2 ["self", "text"] (spSees C T)) :
    CalleeM P w K mg base C "takes" 3 ["self", "text"] (spTakes C T) := by
  refine ⟨f, fd, fn3 F scope_Parser_takes (fun ds M Q ⟨_, _, _, _, e, _⟩ => by rw [e]; rfl) (fun cdv A outer sh H E' hr ds M Q ⟨E, t, x, ts, e, hp, kw, qy, qn⟩ => ?_), Mm, b⟩
  subst e
  obtain ⟨n, e, hd⟩ := hp.ob
  refine ss_if (t_not (t_truth (e_meth cp.cl C_sees hr (e_var 0 rfl ⟨E.p, E.dx, _, rfl, e, pf_no (by decide +kernel) (by decide +kernel), a_cons (e_var 1 rfl (a_nil ⟨E, t, x, ts, rfl, hp, kw, ?_⟩))⟩))))
  refine ⟨fun h => ?_, fun h => ?_⟩
  · have h : t ≠ x := by simpa using h
    exact ss_one (s_ret (e_bl (Wk.here (qn h))))
  · have h : t = x := by simpa using h
    refine ss_cons (s_faug (e_var 0 rfl ⟨E.p, C, E.dx, _, _, rfl, e, cp.cl, cp.n2, pf_at, e_int ⟨E.dx, _, e, by show 2 < 1000; decide, fun M' e' k' => ?_⟩⟩))
    exact ss_one (s_ret (e_bl (Wk.here (qy h M' (hp.step e e' k') k'))))
def spForm (C T : Addr) : Sp3 := fun ds M Q => ∃ (E : Pr) (t fm : Str) (ts : List Str), ds = [.ref E.p, .str fm] ∧ PT C T E M (t :: ts) ∧ formT t = fm ∧ ∀ M', PT C T E M' ts → Keep E.p M M' → Q (.str t) M'
theorem ok_form (cp : PCls K C) (cT : TCls K T) (F : Fun K "take_form" "Parser.take_form" st_Parser_take_form f fd) (b : Binds K fd ["self", "form"] []) (Mm : Meth K C "take_form" f) (C_token : CalleeM P w K mg base C "token" 1 ["self"] (spToken C T)) :
    CalleeM P w K mg base C "take_form" 2 ["self", "form"] (spForm C T) := by
  refine ⟨f, fd, fn3 F scope_Parser_take_form (fun ds M Q ⟨_, _, _, _, e, _⟩ => by rw [e]; rfl) (fun cdv A outer sh H E' hr ds M Q ⟨E, t, fm, ts, e, hp, hf0, q⟩ => ?_), Mm, b⟩
  subst e
  obtain ⟨n, e, hd⟩ := hp.ob
  refine ss_cons (s_asg 2 scope_Parser_take_form.nd (e_meth0 cp.cl C_token hr (e_var 0 rfl ⟨E.p, E.dx, _, rfl, e, pf_no (by decide +kernel) (by decide +kernel), E, t, ts, rfl, hp, fun a dx tk ea ht hf => ?_⟩)))
  refine ss_if (t_ne ⟨_, hr⟩ (e_fld (e_var 2 rfl ⟨T, dx, _, _, ea, cT.cl, cT.n1, fl_form, e_var 1 rfl ⟨trivial, ?_⟩⟩)))
  rw [eqv_str, hf, hf0]
  refine ⟨fun h => absurd h (by simp), fun _ => ?_⟩
  refine ss_cons (s_faug (e_var 0 rfl ⟨E.p, C, E.dx, _, _, rfl, e, cp.cl, cp.n2, pf_at, e_int ⟨E.dx, _, e, by show 2 < 1000; decide, fun M' e' k' => ?_⟩⟩))
  have nap : a ≠ E.p := fun h => by rw [h, e] at ea; exact par_tok ea
  refine ss_one (s_ret (e_fld (e_var 2 rfl ⟨T, dx, _, _, k'.at nap ea, cT.cl, cT.n2, fl_text, ?_⟩)))
  rw [ht]
  exact Wk.here (q M' (hp.step e e' k') k')
end
/-! rules of the calls -/
section
variable {X : Cx} {C T : Addr} {E : Pr} {σ : Sd} {M M0 : Mp} {Q : QD} {En : DE} {t x l : Str} {ts : List Str} {e ie : Expr} {p1 ap pos lp ep cpos apos p2 p3 : Pos} {j : Nat} {pl : Sem Bool}
theorem e_takes (cp : PCls X.K C) (F : CalleeM X.prog X.w X.K X.mg X.base C "takes" 3 ["self", "text"] (spTakes C T)) (hr : Room 3 X.A) (hs : σ[0]? = some (some (.ref E.p))) (hp : PT C T E M (t :: ts)) (kw : isKw x = true) (he : ES X e σ M fun d M1 => d = .str x ∧ M1 = M)
    (hy : t = x → ∀ M', PT C T E M' ts → Keep E.p M M' → Q (.bl true) M') (hn : t ≠ x → Q (.bl false) M)
    (hN : X.N[0]? = some ("self" : Str) := by rfl) (hv : Vis X.env.scope "self" := by first | exact Or.inl rfl | exact Or.inr (Or.inl rfl) | exact Or.inr (Or.inr rfl))
    (hst : starEach [e] X.env = (false, eval e X.env) :: starEach [] X.env := by rfl) (hpl : (backTo pos (starEach [] X.env)).any (·.1) = false := by rfl)
    (ht : eval (.Call (.Attribute (.Name "self" p1) "takes" ap) [e] [] pos) X.env = (do
      let ov ← eval (.Name "self" p1) X.env
      standAt ap.atName
      let (f, first) ← holding [ov] (getMethod ov "takes" pl)
      callWith pos f first (backTo pos (starEach [e] X.env)) (backToKw pos (keywordEach [] X.env))) := by rfl) : ES X (.Call (.Attribute (.Name "self" p1) "takes" ap) [e] [] pos) σ M Q := by
  obtain ⟨n, eo, hd⟩ := hp.ob
  refine e_meth cp.cl F hr (e_var 0 hs ⟨E.p, E.dx, _, rfl, eo, pf_no (by decide +kernel) (by decide +kernel), a_cons (he.imp fun d M1 ⟨e1, e2⟩ => ?_) hst⟩ hN hv) hst hpl ht
  subst e1 e2
  exact a_nil ⟨E, t, x, ts, rfl, hp, kw, hy, hn⟩
/-- takes, as a test -/
theorem t_takes {QB : Bool → Mp → Prop} (cp : PCls X.K C) (F : CalleeM X.prog X.w X.K X.mg X.base C "takes" 3 ["self", "text"] (spTakes C T)) (hr : Room 3 X.A) (hs : σ[0]? = some (some (.ref E.p))) (hp : PT C T E M (t :: ts)) (kw : isKw x = true) (he : ES X e σ M fun d M1 => d = .str x ∧ M1 = M)
    (hy : t = x → ∀ M', PT C T E M' ts → Keep E.p M M' → QB true M') (hn : t ≠ x → QB false M)
    (hN : X.N[0]? = some ("self" : Str) := by rfl) (hv : Vis X.env.scope "self" := by first | exact Or.inl rfl | exact Or.inr (Or.inl rfl) | exact Or.inr (Or.inr rfl))
    (hst : starEach [e] X.env = (false, eval e X.env) :: starEach [] X.env := by rfl) (hpl : (backTo pos (starEach [] X.env)).any (·.1) = false := by rfl)
    (ht : eval (.Call (.Attribute (.Name "self" p1) "takes" ap) [e] [] pos) X.env = (do
      let ov ← eval (.Name "self" p1) X.env
      standAt ap.atName
      let (f, first) ← holding [ov] (getMethod ov "takes" pl)
      callWith pos f first (backTo pos (starEach [e] X.env)) (backToKw pos (keywordEach [] X.env))) := by rfl)
    (htr : ∀ whole, isTrue (.Call (.Attribute (.Name "self" p1) "takes" ap) [e] [] pos) X.env whole = (do let v ← whole; standAt (Expr.Call (.Attribute (.Name "self" p1) "takes" ap) [e] [] pos).pos; holding [v] (truthy v)) := by intro _; rfl) :
    TT3 X (.Call (.Attribute (.Name "self" p1) "takes" ap) [e] [] pos) σ M QB :=
  t_truth (e_takes cp F hr hs hp kw he (fun h M' a b => hy h M' a b) (fun h => hn h) hN hv hst hpl ht) htr
def spExpect (C T : Addr) : Sp3 := fun ds M Q => ∃ (E : Pr) (x : Str) (ts : List Str), ds = [.ref E.p, .str x] ∧ PT C T E M (x :: ts) ∧ isKw x = true ∧ ∀ M', PT C T E M' ts → Keep E.p M M' → Q .non M'
theorem s_expect (cp : PCls X.K C) (F : CalleeM X.prog X.w X.K X.mg X.base C "expect" 4 ["self", "text"] (spExpect C T)) (hr : Room 4 X.A) (hs : σ[0]? = some (some (.ref E.p))) (hp : PT C T E M (x :: ts)) (kw : isKw x = true)
    (hy : ∀ M', PT C T E M' ts → Keep E.p M M' → En.nx σ M')
    (hN : X.N[0]? = some ("self" : Str) := by rfl) (hv : Vis X.env.scope "self" := by first | exact Or.inl rfl | exact Or.inr (Or.inl rfl) | exact Or.inr (Or.inr rfl))
    (hst : starEach [.Constant (.str x) j p2] X.env = (false, eval (.Constant (.str x) j p2) X.env) :: starEach [] X.env := by rfl) (hpl : (backTo pos (starEach [] X.env)).any (·.1) = false := by rfl)
    (ht : eval (.Call (.Attribute (.Name "self" p1) "expect" ap) [.Constant (.str x) j p2] [] pos) X.env = (do
      let ov ← eval (.Name "self" p1) X.env
      standAt ap.atName
      let (f, first) ← holding [ov] (getMethod ov "expect" pl)
      callWith pos f first (backTo pos (starEach [.Constant (.str x) j p2] X.env)) (backToKw pos (keywordEach [] X.env))) := by rfl)
    (hsw : swapsWith (.Call (.Attribute (.Name "self" p1) "expect" ap) [.Constant (.str x) j p2] [] pos) none p3.line X.env = pure false := by rfl) :
    SS X (.Expr (.Call (.Attribute (.Name "self" p1) "expect" ap) [.Constant (.str x) j p2] [] pos) p3) σ M En := by
  obtain ⟨n, eo, hd⟩ := hp.ob
  exact s_expr (e_meth cp.cl F hr (e_var 0 hs ⟨E.p, E.dx, _, rfl, eo, pf_no (by decide +kernel) (by decide +kernel), a_cons (e_str (a_nil ⟨E, x, ts, rfl, hp, kw, fun M' a b => hy M' a b⟩)) hst⟩ hN hv) hst hpl ht) hsw
theorem e_form (cp : PCls X.K C) (F : CalleeM X.prog X.w X.K X.mg X.base C "take_form" 2 ["self", "form"] (spForm C T)) (hr : Room 2 X.A) (hs : σ[0]? = some (some (.ref E.p))) (hp : PT C T E M (t :: ts)) (hf : formT t = x)
    (hy : ∀ M', PT C T E M' ts → Keep E.p M M' → Q (.str t) M')
    (hN : X.N[0]? = some ("self" : Str) := by rfl) (hv : Vis X.env.scope "self" := by first | exact Or.inl rfl | exact Or.inr (Or.inl rfl) | exact Or.inr (Or.inr rfl))
    (hst : starEach [.Constant (.str x) j p2] X.env = (false, eval (.Constant (.str x) j p2) X.env) :: starEach [] X.env := by rfl) (hpl : (backTo pos (starEach [] X.env)).any (·.1) = false := by rfl)
    (ht : eval (.Call (.Attribute (.Name "self" p1) "take_form" ap) [.Constant (.str x) j p2] [] pos) X.env = (do
      let ov ← eval (.Name "self" p1) X.env
      standAt ap.atName
      let (f, first) ← holding [ov] (getMethod ov "take_form" pl)
      callWith pos f first (backTo pos (starEach [.Constant (.str x) j p2] X.env)) (backToKw pos (keywordEach [] X.env))) := by rfl) :
    ES X (.Call (.Attribute (.Name "self" p1) "take_form" ap) [.Constant (.str x) j p2] [] pos) σ M Q := by
  obtain ⟨n, eo, hd⟩ := hp.ob
  exact e_meth cp.cl F hr (e_var 0 hs ⟨E.p, E.dx, _, rfl, eo, pf_no (by decide +kernel) (by decide +kernel), a_cons (e_str (a_nil ⟨E, t, x, ts, rfl, hp, hf, hy⟩)) hst⟩ hN hv) hst hpl ht
/-- a parse of something without arguments -/
def spItem (C T : Addr) {α : Type} (ok : α → Prop) (raw : α → List Str) (dv : α → D) : Sp3 := fun ds M Q => ∃ (E : Pr) (a : α) (rr : List Str), ds = [.ref E.p] ∧ ok a ∧ PT C T E M (raw a ++ rr) ∧ ∀ M', PT C T E M' rr → Keep E.p M M' → Q (dv a) M'
theorem e_item {α : Type} {ok : α → Prop} {raw : α → List Str} {dv : α → D} {m : Str} {k : Nat} {a : α} {rr : List Str} (cp : PCls X.K C) (F : CalleeM X.prog X.w X.K X.mg X.base C m k ["self"] (spItem C T ok raw dv)) (hr : Room k X.A) (hs : σ[0]? = some (some (.ref E.p))) (hok : ok a) (hp : PT C T E M (raw a ++ rr))
    (hy : ∀ M', PT C T E M' rr → Keep E.p M M' → Q (dv a) M') (n1 : (m == "tokens") = false := by decide +kernel) (n2 : (m == "at") = false := by decide +kernel)
    (hN : X.N[0]? = some ("self" : Str) := by rfl) (hv : Vis X.env.scope "self" := by first | exact Or.inl rfl | exact Or.inr (Or.inl rfl) | exact Or.inr (Or.inr rfl))
    (ht : eval (.Call (.Attribute (.Name "self" p1) m ap) [] [] pos) X.env = (do
      let ov ← eval (.Name "self" p1) X.env
      standAt ap.atName
      let (f, first) ← holding [ov] (getMethod ov m pl)
      callWith pos f first (backTo pos (starEach [] X.env)) (backToKw pos (keywordEach [] X.env))) := by rfl) :
    ES X (.Call (.Attribute (.Name "self" p1) m ap) [] [] pos) σ M Q := by
  obtain ⟨n, eo, hd⟩ := hp.ob
  exact e_meth0 cp.cl F hr (e_var 0 hs ⟨E.p, E.dx, _, rfl, eo, pf_no n1 n2, E, a, rr, rfl, hok, hp, hy⟩ hN hv) ht
/-- l.append(..) -/
theorem s_append {q : Addr} {ds : List D} (i : Nat) (ea : M q = some (.lst ds)) (hq : σ[i]? = some (some (.ref q))) (item : ES X ie σ M fun d M1 => ∃ ds', M1 q = some (.lst ds') ∧ ds'.length < sizeLine ∧ ∀ M2, M2 q = some (.lst (ds' ++ [d])) → Keep q M1 M2 → En.nx σ M2)
    (hN : X.N[i]? = some l := by rfl) (hv : Vis X.env.scope l := by first | exact Or.inl rfl | exact Or.inr (Or.inl rfl) | exact Or.inr (Or.inr rfl)) (hd1 : (l == ("__debug__" : Str)) = false := by decide) (hd2 : (l == ("__classdict__" : Str)) = false := by decide)
    (hbase : attributeBase (.Name l lp) "append" X.env (eval (.Name l lp) X.env) = eval (.Name l lp) X.env := by rfl)
    (hfew : ((backTo cpos (starEach [ie] X.env)).all (fun x => !x.1) && (backToKw cpos (keywordEach [] X.env)).all (fun x => x.1.isSome)
      && decide (([ie] : List Expr).length + ([] : List Keyword).length + (if ([] : List Keyword).isEmpty then 0 else 1) < 30)) = true := by rfl)
    (hline : (apos.endLine == cpos.line) = true := by rfl) (hst : starEach [ie] X.env = (false, eval ie X.env) :: starEach [] X.env := by rfl) (hplain : (backTo cpos (starEach [] X.env)).any (·.1) = false := by rfl)
    (hsw : swapsWith (.Call (.Attribute (.Name l lp) "append" apos) [ie] [] cpos) none ep.line X.env = pure false := by rfl) :
    SS X (.Expr (.Call (.Attribute (.Name l lp) "append" apos) [ie] [] cpos) ep) σ M En :=
  s_expr (e_lm PySem.F.slot_list_append PySem.F.type_list_append mt_append rd_app (e_var i hq ⟨⟨_, ea⟩, a_cons (item.imp fun d M1 ⟨ds', h1, h2, h3⟩ => a_nil ⟨ds', h1, h2, h3⟩) hst⟩ hN hv hd1 hd2) hbase hfew hline hst hplain) hsw
def kwL (w : Str) (ls : List (List Str)) : List Str := (ls.map fun x => w :: x).flatten
theorem kwL_cons (w : Str) (x : List Str) (r : List (List Str)) : kwL w (x :: r) = w :: (x ++ kwL w r) := by unfold kwL; rw [List.map_cons, List.flatten_cons]; rfl
/-- while self.takes(wd): l.append(item) -/
theorem s_rep {α : Type} {q : Addr} {wd : Str} (kwd : isKw wd = true) (i : Nat) (raw : α → List Str) (dv : α → D) (close : Str) (rr : List Str) (done rem : List α) (cp : PCls X.K C) (F : CalleeM X.prog X.w X.K X.mg X.base C "takes" 3 ["self", "text"] (spTakes C T)) (hr : Room 3 X.A) (hs : σ[0]? = some (some (.ref E.p))) (hq : σ[i]? = some (some (.ref q)))
    (hcl : close ≠ wd) (f0 : M0 q = none) (hlt : E.lt ≠ q) (hqp : q ≠ E.p) (K0 : Keep E.p M0 M) (ea : M q = some (.lst (done.map dv))) (hp : PT C T E M (kwL wd (rem.map raw) ++ close :: rr)) (hln : done.length + rem.length < 1000000)
    (item : ∀ a, a ∈ rem → ∀ M1 ts (Q : QD), PT C T E M1 (raw a ++ ts) → (∀ M', PT C T E M' ts → Keep E.p M1 M' → Q (dv a) M') → ES X ie σ M1 Q)
    (nx : ∀ M', M' q = some (.lst ((done ++ rem).map dv)) → PT C T E M' (close :: rr) → Keep E.p M0 M' → En.nx σ M')
    (hpo : PassesOwn (model X.prog X.w) X.A X.env X.xe)
    (hN : X.N[0]? = some ("self" : Str) := by rfl) (hv : Vis X.env.scope "self" := by first | exact Or.inl rfl | exact Or.inr (Or.inl rfl) | exact Or.inr (Or.inr rfl))
    (hst : starEach [.Constant (.str wd) j p2] X.env = (false, eval (.Constant (.str wd) j p2) X.env) :: starEach [] X.env := by rfl) (hpl : (backTo pos (starEach [] X.env)).any (·.1) = false := by rfl)
    (ht : eval (.Call (.Attribute (.Name "self" p1) "takes" ap) [.Constant (.str wd) j p2] [] pos) X.env = (do
      let ov ← eval (.Name "self" p1) X.env
      standAt ap.atName
      let (f, first) ← holding [ov] (getMethod ov "takes" pl)
      callWith pos f first (backTo pos (starEach [.Constant (.str wd) j p2] X.env)) (backToKw pos (keywordEach [] X.env))) := by rfl)
    (htr : ∀ whole, isTrue (.Call (.Attribute (.Name "self" p1) "takes" ap) [.Constant (.str wd) j p2] [] pos) X.env whole = (do let v ← whole; standAt (Expr.Call (.Attribute (.Name "self" p1) "takes" ap) [.Constant (.str wd) j p2] [] pos).pos; holding [v] (truthy v)) := by intro _; rfl)
    (hN2 : X.N[i]? = some l := by rfl) (hv2 : Vis X.env.scope l := by first | exact Or.inl rfl | exact Or.inr (Or.inl rfl) | exact Or.inr (Or.inr rfl)) (hd1 : (l == ("__debug__" : Str)) = false := by decide) (hd2 : (l == ("__classdict__" : Str)) = false := by decide)
    (hbase : attributeBase (.Name l lp) "append" X.env (eval (.Name l lp) X.env) = eval (.Name l lp) X.env := by rfl)
    (hfew : ((backTo cpos (starEach [ie] X.env)).all (fun x => !x.1) && (backToKw cpos (keywordEach [] X.env)).all (fun x => x.1.isSome)
      && decide (([ie] : List Expr).length + ([] : List Keyword).length + (if ([] : List Keyword).isEmpty then 0 else 1) < 30)) = true := by rfl)
    (hline : (apos.endLine == cpos.line) = true := by rfl) (hst2 : starEach [ie] X.env = (false, eval ie X.env) :: starEach [] X.env := by rfl) (hplain : (backTo cpos (starEach [] X.env)).any (·.1) = false := by rfl)
    (hsw : swapsWith (.Call (.Attribute (.Name l lp) "append" apos) [ie] [] cpos) none ep.line X.env = pure false := by rfl) :
    SS X (.While (.Call (.Attribute (.Name "self" p1) "takes" ap) [.Constant (.str wd) j p2] [] pos) [.Expr (.Call (.Attribute (.Name l lp) "append" apos) [ie] [] cpos) ep] [] p3) σ M En := by
  refine s_while (fun m σ' M' => σ' = σ ∧ ∃ d2 r2, done ++ rem = d2 ++ r2 ∧ (∀ a ∈ r2, a ∈ rem) ∧ m = r2.length ∧ M' q = some (.lst (d2.map dv)) ∧ PT C T E M' (kwL wd (r2.map raw) ++ close :: rr) ∧ Keep E.p M0 M') rem.length ⟨rfl, done, rem, rfl, fun _ h => h, rfl, ea, hp, K0⟩ hpo ?_
  rintro m σ' M1 ⟨rfl, d2, r2, e2, sub, rfl, ea1, hp1, k1⟩
  have hl2 : d2.length + r2.length < 1000000 := by
    have := congrArg List.length e2
    rw [List.length_append, List.length_append] at this
    omega
  cases r2 with
  | nil =>
    have hp1 : PT C T E M1 (close :: rr) := hp1
    refine t_takes cp F hr hs hp1 kwd (e_str ⟨rfl, rfl⟩) (fun h => absurd h hcl) (fun _ => BQ.f ?_) hN hv hst hpl ht htr
    rw [List.append_nil] at e2
    exact nx M1 (by rw [e2]; exact ea1) hp1 k1
  | cons a r2 =>
    rw [List.map_cons, kwL_cons, List.cons_append, List.append_assoc] at hp1
    refine t_takes cp F hr hs hp1 kwd (e_str ⟨rfl, rfl⟩) (fun _ M2 hp2 k2 => BQ.t ?_) (fun h => absurd rfl h) hN hv hst hpl ht htr
    have ea2 := k2.at hqp ea1
    refine ss_one (s_append (l := l) i ea2 hq (item a (sub a List.mem_cons_self) M2 _ _ hp2 fun M3 hp3 k3 => ?_) hN2 hv2 hd1 hd2 hbase hfew hline hst2 hplain hsw)
    have ea3 := k3.at hqp ea2
    refine ⟨_, ea3, szMlt (by rw [List.length_map]; have : (a :: r2).length = r2.length + 1 := rfl; omega), fun M4 e4 k4 => ?_⟩
    refine ⟨r2.length, by simp, rfl, d2 ++ [a], r2, by rw [e2]; simp, fun b hb => sub b (List.mem_cons_of_mem _ hb), rfl, by rw [e4]; simp, hp3.setQ k4 ea3 hlt, ?_⟩
    exact ((k1.trans k2).trans k3).setN' f0 k4
end
section
variable {P : Program} {w : World} {K : PySem.W.Frag} {mg : Str → Option Value} {base : Heap} {f : Addr} {fd : FuncData} {C T : Addr}
theorem ok_expect (cp : PCls K C) (F : Fun K "expect" "Parser.expect" st_Parser_expect f fd) (b : Binds K fd ["self", "text"] []) (Mm : Meth K C "expect" f) (C_takes : CalleeM P w K mg base C "takes" 3 ["self", "text"] (spTakes C T)) :
    CalleeM P w K mg base C "expect" 4 ["self", "text"] (spExpect C T) := by
  refine ⟨f, fd, fn3 F scope_Parser_expect (fun ds M Q ⟨_, _, _, e, _⟩ => by rw [e]; rfl) (fun cdv A outer sh H E' hr ds M Q ⟨E, x, ts, e, hp, kw, q⟩ => ?_), Mm, b⟩
  subst e
  refine ss_if (t_not (t_takes cp C_takes hr rfl hp kw (e_var 1 rfl ⟨rfl, rfl⟩) (fun _ M' h k => ⟨fun h => absurd h (by decide), fun _ => ss_nil (Wk.here (q M' h k))⟩) fun h => absurd rfl h))
end
end My
set_option maxHeartbeats 4000000
namespace My
open PySem L2 DL
/-! ### declarations, parsed -/
inductive KSh (n : Nat) : Str → List Str → D → Prop
  | base {w : Str} : w ∈ (["int", "bool", "unit"] : List Str) → KSh n w [] (.tup [.str w])
  | wrap {w : Str} {k : Kd} : w ∈ (["box", "maybe"] : List Str) → Tk n k → KSh n w k.raw (.tup [.str w, k.d])
  | shared {k : Kd} : Tk n k → KSh n "&" k.raw (.tup [.str "shared", k.d])
  | excl {k : Kd} : Tk n k → KSh n "&" (("mut" : Str) :: k.raw) (.tup [.str "exclusive", k.d])
  | tup {l : List Kd} : 2 ≤ l.length → l.length ≤ 6 → (∀ k ∈ l, Tk n k) → KSh n "(" (sepL (l.map Kd.raw) ++ [(")" : Str)]) (.tup [.str "tuple", .tup (l.map Kd.d)])
  | rcd {x : Str} : BigS x → KSh n x [] (.tup [.str "record", .str x])
theorem ksh {n : Nat} {k : Kd} (h : Tk (n + 1) k) : ∃ t ts, k.raw = t :: ts ∧ KSh n t ts k.d := by
  have sub : ∀ x : Kd, k.wf = x.wf → k.lev = x.lev + 1 → k.rn = x.rn → Tk n x := fun x h1 h2 h3 => ⟨h1.symm.trans h.wf, by have := h.lev; omega, fun y hy => h.rn y (by rw [h3]; exact hy)⟩
  cases k with
  | int => exact ⟨_, _, raw_int, by simp only [Kd.d]; exact .base (by decide +kernel)⟩
  | bool => exact ⟨_, _, raw_bool, by simp only [Kd.d]; exact .base (by decide +kernel)⟩
  | unit => exact ⟨_, _, raw_unit, by simp only [Kd.d]; exact .base (by decide +kernel)⟩
  | box x => exact ⟨_, _, raw_box x, by simp only [Kd.d]; exact .wrap (by decide +kernel) (sub x (by simp only [Kd.wf]) rfl (by simp only [Kd.rn]))⟩
  | maybe x => exact ⟨_, _, raw_maybe x, by simp only [Kd.d]; exact .wrap (by decide +kernel) (sub x (by simp only [Kd.wf]) rfl (by simp only [Kd.rn]))⟩
  | shared x => exact ⟨_, _, raw_shared x, by simp only [Kd.d]; exact .shared (sub x (by simp only [Kd.wf]) rfl (by simp only [Kd.rn]))⟩
  | excl x => exact ⟨_, _, raw_excl x, by simp only [Kd.d]; exact .excl (sub x (by simp only [Kd.wf]) rfl (by simp only [Kd.rn]))⟩
  | tup l => exact ⟨_, _, raw_tup l, by simp only [Kd.d, Kd.ds_map]; exact .tup h.len.1 h.len.2 h.part⟩
  | rcd x =>
    have hx := h.rn x (by simp [Kd.rn])
    exact ⟨_, _, raw_rcd hx, by simp only [Kd.d]; exact .rcd hx⟩
theorem ksh_base {n : Nat} {t : Str} {ts : List Str} {d : D} (h : KSh n t ts d) (ht : t ∈ (["int", "bool", "unit"] : List Str)) : ts = [] ∧ d = .tup [.str t] := by
  cases h with
  | base _ => exact ⟨rfl, rfl⟩
  | wrap hw _ => exact absurd ht ((show ∀ w ∈ (["box", "maybe"] : List Str), w ∉ (["int", "bool", "unit"] : List Str) by decide +kernel) _ hw)
  | rcd hx => exact absurd rfl (big_kw hx ((show ∀ w ∈ (["int", "bool", "unit"] : List Str), isKw w = true by decide +kernel) _ ht))
  | _ => exact absurd ht (by decide +kernel)
theorem ksh_wrap {n : Nat} {t : Str} {ts : List Str} {d : D} (h : KSh n t ts d) (ht : t ∈ (["box", "maybe"] : List Str)) : ∃ k, Tk n k ∧ ts = k.raw ∧ d = .tup [.str t, k.d] := by
  cases h with
  | base hw => exact absurd ht ((show ∀ w ∈ (["int", "bool", "unit"] : List Str), w ∉ (["box", "maybe"] : List Str) by decide +kernel) _ hw)
  | wrap _ hk => exact ⟨_, hk, rfl, rfl⟩
  | rcd hx => exact absurd rfl (big_kw hx ((show ∀ w ∈ (["box", "maybe"] : List Str), isKw w = true by decide +kernel) _ ht))
  | _ => exact absurd ht (by decide +kernel)
theorem ksh_amp {n : Nat} {t : Str} {ts : List Str} {d : D} (h : KSh n t ts d) (ht : t = "&") : ∃ k, Tk n k ∧ ((ts = k.raw ∧ d = .tup [.str "shared", k.d]) ∨ (ts = ("mut" : Str) :: k.raw ∧ d = .tup [.str "exclusive", k.d])) := by
  cases h with
  | base hw => subst ht; exact absurd hw (by decide +kernel)
  | wrap hw _ => subst ht; exact absurd hw (by decide +kernel)
  | shared hk => exact ⟨_, hk, .inl ⟨rfl, rfl⟩⟩
  | excl hk => exact ⟨_, hk, .inr ⟨rfl, rfl⟩⟩
  | tup _ _ _ => exact absurd ht (by decide +kernel)
  | rcd hx => exact absurd ht (big_kw hx (by decide +kernel))
theorem ksh_par {n : Nat} {t : Str} {ts : List Str} {d : D} (h : KSh n t ts d) (ht : t = "(") : ∃ l : List Kd, 2 ≤ l.length ∧ l.length ≤ 6 ∧ (∀ k ∈ l, Tk n k) ∧ ts = sepL (l.map Kd.raw) ++ [(")" : Str)] ∧ d = .tup [.str "tuple", .tup (l.map Kd.d)] := by
  cases h with
  | base hw => subst ht; exact absurd hw (by decide +kernel)
  | wrap hw _ => subst ht; exact absurd hw (by decide +kernel)
  | tup h1 h2 h3 => exact ⟨_, h1, h2, h3, rfl, rfl⟩
  | rcd hx => exact absurd ht (big_kw hx (by decide +kernel))
  | _ => exact absurd ht (by decide +kernel)
theorem ksh_rcd {n : Nat} {t : Str} {ts : List Str} {d : D} (h : KSh n t ts d) (h1 : t ∉ (["int", "bool", "unit"] : List Str)) (h2 : t ∉ (["box", "maybe"] : List Str)) (h3 : t ≠ "&") (h4 : t ≠ "(") : BigS t ∧ ts = [] ∧ d = .tup [.str "record", .str t] := by
  cases h with
  | base hw => exact absurd hw h1
  | wrap hw _ => exact absurd hw h2
  | shared _ => exact absurd rfl h3
  | excl _ => exact absurd rfl h3
  | tup _ _ _ => exact absurd rfl h4
  | rcd hx => exact ⟨hx, rfl, rfl⟩
theorem ksh_kw {n : Nat} {t : Str} {ts : List Str} {d : D} (h : KSh n t ts d) : t ≠ "mut" := by
  cases h with
  | base hw => rintro rfl; exact absurd hw (by decide +kernel)
  | wrap hw _ => rintro rfl; exact absurd hw (by decide +kernel)
  | rcd hx => exact big_kw hx (by decide +kernel)
  | _ => decide +kernel
theorem tk_pos {n : Nat} {k : Kd} (h : Tk n k) : ∃ m, n = m + 1 := ⟨n - 1, by have := h.lev; have := k.lev_pos; omega⟩
section
variable {P : Program} {w : World} {K : PySem.W.Frag} {mg : Str → Option Value} {base : Heap} {f : Addr} {fd : FuncData} {C T : Addr}
theorem CalleeM.none {m : Str} {k : Nat} {ps : List Str} {sp3 : Sp3} (hm : Meth K C m f) (hb : Binds K fd ps []) (h : ∀ ds M Q, ¬ sp3 ds M Q) : CalleeM P w K mg base C m k ps sp3 :=
  ⟨f, fd, ⟨fun vs H Q E ⟨ds, M, Q3, _, _, q, _⟩ => absurd q (h ds M Q3), fun A outer s H args us vs Q E _ _ _ _ ⟨ds, M, Q3, _, _, q, _⟩ => absurd q (h ds M Q3)⟩, hm, hb⟩
theorem ok_pkind (cp : PCls K C) (F : Fun K "parse_kind" "Parser.parse_kind" st_Parser_parse_kind f fd) (b : Binds K fd ["self"] []) (Mm : Meth K C "parse_kind" f) (m_tuple : mg "tuple" = none)
    (C_takes : CalleeM P w K mg base C "takes" 3 ["self", "text"] (spTakes C T)) (C_expect : CalleeM P w K mg base C "expect" 4 ["self", "text"] (spExpect C T)) (C_form : CalleeM P w K mg base C "take_form" 2 ["self", "form"] (spForm C T)) :
    ∀ n, CalleeM P w K mg base C "parse_kind" (n + 5) ["self"] (spItem C T (Tk n) Kd.raw Kd.d)
  | 0 => CalleeM.none Mm b fun ds M Q ⟨_, k, _, _, h, _⟩ => by obtain ⟨m, hm⟩ := tk_pos h; omega
  | n + 1 => by
    have C_kind := ok_pkind cp F b Mm m_tuple C_takes C_expect C_form n
    refine ⟨f, fd, fn3 F scope_Parser_parse_kind (fun ds M Q ⟨_, _, _, e, _⟩ => by rw [e]; rfl) (fun cdv A outer sh H E' hr ds M Q ⟨E, k, rr, e, hk, hp, q⟩ => ?_), Mm, b⟩
    subst e
    obtain ⟨t, ts, eraw, sh⟩ := ksh hk
    rw [eraw, List.cons_append] at hp
    generalize k.d = d at sh q
    have h3 : Room 3 _ := hr.mono (by omega)
    have h4 : Room 4 _ := hr.mono (by omega)
    refine ss_cons (s_for PassesOwn.never (i_tup (e_tup (a_cons (e_str (a_cons (e_str (a_cons (e_str (a_nil ⟨by show 3 ≤ sizeLine; decide, ?_⟩))))))))))
    refine ⟨fun i σ' M' => ∃ d1 : Option D, σ' = [some (.ref E.p), d1, none, none] ∧ M' = M ∧ ∀ w ∈ (["int", "bool", "unit"] : List Str).take i, t ≠ w, ⟨none, rfl, rfl, by simp⟩, fun _ _ _ _ _ => trivial, ?_, ?_⟩
    · rintro i d' σ' M' hd ⟨d1, rfl, rfl, hno⟩
      rw [show [D.str "int", D.str "bool", D.str "unit"] = (["int", "bool", "unit"] : List Str).map D.str from rfl] at hd
      obtain ⟨wd, hw, rfl⟩ := get_map hd
      have hwm := List.mem_of_getElem? hw
      refine g_name 1 scope_Parser_parse_kind.nd ?_
      refine ss_if (t_takes cp C_takes h3 rfl hp ((show ∀ w ∈ (["int", "bool", "unit"] : List Str), isKw w = true by decide +kernel) _ hwm) (e_var 1 rfl ⟨rfl, rfl⟩) (fun ht M2 hp2 k2 => BQ.t ?_) fun ht => BQ.f (ss_nil ⟨_, rfl, rfl, ?_⟩))
      · subst ht
        obtain ⟨e1, e2⟩ := ksh_base sh hwm
        subst e1 e2
        exact ss_one (s_ret (e_tup (a_cons (e_var 1 rfl (a_nil ⟨by show 1 ≤ sizeLine; decide, Wk.here (q M2 hp2 k2)⟩)))))
      · intro w' hw'
        rw [List.take_add_one, hw] at hw'
        rcases List.mem_append.mp hw' with h | h
        · exact hno w' h
        · rw [List.mem_singleton.mp h]; exact ht
    rintro σ' M' ⟨d1, rfl, rfl, hno⟩
    have hno1 : t ∉ (["int", "bool", "unit"] : List Str) := fun h => hno t h rfl
    refine ss_cons (s_for PassesOwn.never (i_tup (e_tup (a_cons (e_str (a_cons (e_str (a_nil ⟨by show 2 ≤ sizeLine; decide, ?_⟩))))))))
    refine ⟨fun i σ' M2 => ∃ d1 : Option D, σ' = [some (.ref E.p), d1, none, none] ∧ M2 = M' ∧ ∀ w ∈ (["box", "maybe"] : List Str).take i, t ≠ w, ⟨d1, rfl, rfl, by simp⟩, fun _ _ _ _ _ => trivial, ?_, ?_⟩
    · rintro i d' σ' M' hd ⟨d1, rfl, rfl, hno⟩
      rw [show [D.str "box", D.str "maybe"] = (["box", "maybe"] : List Str).map D.str from rfl] at hd
      obtain ⟨wd, hw, rfl⟩ := get_map hd
      have hwm := List.mem_of_getElem? hw
      refine g_name 1 scope_Parser_parse_kind.nd ?_
      refine ss_if (t_takes cp C_takes h3 rfl hp ((show ∀ w ∈ (["box", "maybe"] : List Str), isKw w = true by decide +kernel) _ hwm) (e_var 1 rfl ⟨rfl, rfl⟩) (fun ht M2 hp2 k2 => BQ.t ?_) fun ht => BQ.f (ss_nil ⟨_, rfl, rfl, ?_⟩))
      · subst ht
        obtain ⟨k', hk', e1, e2⟩ := ksh_wrap sh hwm
        subst e1 e2
        exact ss_one (s_ret (e_tup (a_cons (e_var 1 rfl (a_cons (e_item cp C_kind hr rfl hk' hp2 fun M3 hp3 k3 => a_nil ⟨by show 2 ≤ sizeLine; decide, Wk.here (q M3 hp3 (k2.trans k3))⟩))))))
      · intro w' hw'
        rw [List.take_add_one, hw] at hw'
        rcases List.mem_append.mp hw' with h | h
        · exact hno w' h
        · rw [List.mem_singleton.mp h]; exact ht
    rintro σ' M' ⟨d1, rfl, rfl, hno⟩
    have hno2 : t ∉ (["box", "maybe"] : List Str) := fun h => hno t h rfl
    refine ss_if (t_takes cp C_takes h3 rfl hp (by decide +kernel) (e_str ⟨rfl, rfl⟩) (fun ht M2 hp2 k2 => BQ.t ?_) fun ht3 => BQ.f ?_)
    · obtain ⟨k', hk', ⟨e1, e2⟩ | ⟨e1, e2⟩⟩ := ksh_amp sh ht
      · subst e1 e2
        obtain ⟨m, rfl⟩ := tk_pos hk'
        obtain ⟨t2, ts2, er2, sh2⟩ := ksh hk'
        have hp2' := hp2
        rw [er2, List.cons_append] at hp2'
        refine ss_cons (s_asg 2 scope_Parser_parse_kind.nd (v_if (t_takes cp C_takes h3 rfl hp2' (by decide +kernel) (e_str ⟨rfl, rfl⟩) (fun h => absurd h (ksh_kw sh2)) fun _ => BQ.f (e_str ?_))))
        exact ss_one (s_ret (e_tup (a_cons (e_var 2 rfl (a_cons (e_item cp C_kind hr rfl hk' hp2 fun M3 hp3 k3 => a_nil ⟨by show 2 ≤ sizeLine; decide, Wk.here (q M3 hp3 (k2.trans k3))⟩))))))
      · subst e1 e2
        refine ss_cons (s_asg 2 scope_Parser_parse_kind.nd (v_if (t_takes cp C_takes h3 rfl hp2 (by decide +kernel) (e_str ⟨rfl, rfl⟩) (fun _ M3 hp3 k3 => BQ.t (e_str ?_)) fun h => absurd rfl h)))
        exact ss_one (s_ret (e_tup (a_cons (e_var 2 rfl (a_cons (e_item cp C_kind hr rfl hk' hp3 fun M4 hp4 k4 => a_nil ⟨by show 2 ≤ sizeLine; decide, Wk.here (q M4 hp4 ((k2.trans k3).trans k4))⟩))))))
    refine ss_if (t_takes cp C_takes h3 rfl hp (by decide +kernel) (e_str ⟨rfl, rfl⟩) (fun ht M2 hp2 k2 => BQ.t ?_) fun ht4 => BQ.f ?_)
    · obtain ⟨l, hl2, hl6, hl, e1, e2⟩ := ksh_par sh ht
      subst e1 e2
      match l, hl2 with
      | k1 :: k2' :: r, _ =>
        have hk1 := hl k1 (by simp)
        have hk2 := hl k2' (by simp)
        have hrr : ∀ x ∈ r, Tk n x := fun x hx => hl x (by simp [hx])
        simp only [List.length_cons] at hl6
        rw [List.map_cons, List.map_cons, sepL_com, comL_cons] at hp2
        simp only [List.append_assoc, List.cons_append, List.nil_append] at hp2
        refine ss_cons (s_asg 3 scope_Parser_parse_kind.nd (e_lst (a_cons (e_item cp C_kind hr rfl hk1 hp2 fun M3 hp3 k3 => a_nil ⟨by show 1 ≤ sizeLine; decide, fun qa M4 f4 e4 l4 => ?_⟩))))
        have hp4 := hp3.le l4
        obtain ⟨o1, o2⟩ := hp3.out f4
        refine ss_cons (s_expect cp C_expect h4 rfl hp4 (by decide +kernel) fun M5 hp5 k5 => ?_)
        have e5 := k5.at o2 e4
        refine ss_cons (s_append 3 e5 rfl (e_item cp C_kind hr rfl hk2 hp5 fun M6 hp6 k6 => ⟨_, k6.at o2 e5, by show 1 < sizeLine; decide, fun M7 e7 k7 => ?_⟩))
        have e6 := k6.at o2 e5
        have K7 : Keep E.p M3 M7 := ((l4.keep.trans k5).trans k6).setN' f4 k7
        refine ss_cons (s_rep (by decide +kernel) 3 Kd.raw Kd.d ")" rr [k1, k2'] r cp C_takes h3 rfl rfl (by decide +kernel) f4 o1 o2 K7 e7 (hp6.setQ k7 e6 o1) (by simp; omega) (fun a ha M8 ts8 Q8 hp8 hq8 => e_item cp C_kind hr rfl (hrr a ha) hp8 hq8) (fun M8 e8 hp8 k8 => ?_) PassesOwn.never)
        refine ss_cons (s_expect cp C_expect h4 rfl hp8 (by decide +kernel) fun M9 hp9 k9 => ?_)
        exact ss_one (s_ret (e_tup (a_cons (e_str (a_cons (e_tuplec m_tuple (a_cons (e_var 3 rfl (a_nil ⟨_, k9.at o2 e8, a_nil ⟨by show 2 ≤ sizeLine; decide, Wk.here (q M9 hp9 (((k2.trans k3).trans k8).trans k9))⟩⟩)))))))))
    · obtain ⟨hx, e1, e2⟩ := ksh_rcd sh hno1 hno2 ht3 ht4
      subst e1 e2
      exact ss_one (s_ret (e_tup (a_cons (e_str (a_cons (e_form cp C_form (hr.mono (by omega)) rfl hp (big_form hx).1 fun M2 hp2 k2 => a_nil ⟨by show 2 ≤ sizeLine; decide, Wk.here (q M2 hp2 k2)⟩))))))
theorem ok_pfield (cp : PCls K C) (F : Fun K "parse_field" "Parser.parse_field" st_Parser_parse_field f fd) (b : Binds K fd ["self"] []) (Mm : Meth K C "parse_field" f)
    (C_expect : CalleeM P w K mg base C "expect" 4 ["self", "text"] (spExpect C T)) (C_form : CalleeM P w K mg base C "take_form" 2 ["self", "form"] (spForm C T)) (C_kind : ∀ n, CalleeM P w K mg base C "parse_kind" (n + 5) ["self"] (spItem C T (Tk n) Kd.raw Kd.d)) :
    CalleeM P w K mg base C "parse_field" 9 ["self"] (spItem C T Fd fRw fD) := by
  refine ⟨f, fd, fn3 F scope_Parser_parse_field (fun ds M Q ⟨_, _, _, e, _⟩ => by rw [e]; rfl) (fun cdv A outer sh H E' hr ds M Q ⟨E, x, rr, e, hx, hp, q⟩ => ?_), Mm, b⟩
  subst e
  rw [fRw, List.cons_append, List.cons_append] at hp
  refine ss_cons (s_asg 1 scope_Parser_parse_field.nd (e_form cp C_form (hr.mono (by omega)) rfl hp (nm_form hx.nm).1 fun M1 hp1 k1 => ?_))
  refine ss_cons (s_expect cp C_expect (hr.mono (by omega)) rfl hp1 (by decide +kernel) fun M2 hp2 k2 => ?_)
  exact ss_one (s_ret (e_tup (a_cons (e_var 1 rfl (a_cons (e_item cp (C_kind 3) hr rfl hx.k hp2 fun M3 hp3 k3 => a_nil ⟨by show 2 ≤ sizeLine; decide, Wk.here (q M3 hp3 ((k1.trans k2).trans k3))⟩))))))
def rcTl (r : Str × List (Str × Kd)) : List Str := r.1 :: ("{" : Str) :: (fsRw r.2 ++ [("}" : Str)])
theorem ok_precord (cp : PCls K C) (F : Fun K "parse_record" "Parser.parse_record" st_Parser_parse_record f fd) (b : Binds K fd ["self"] []) (Mm : Meth K C "parse_record" f) (m_tuple : mg "tuple" = none)
    (C_takes : CalleeM P w K mg base C "takes" 3 ["self", "text"] (spTakes C T)) (C_expect : CalleeM P w K mg base C "expect" 4 ["self", "text"] (spExpect C T)) (C_form : CalleeM P w K mg base C "take_form" 2 ["self", "form"] (spForm C T)) (C_field : CalleeM P w K mg base C "parse_field" 9 ["self"] (spItem C T Fd fRw fD)) :
    CalleeM P w K mg base C "parse_record" 10 ["self"] (spItem C T Rc rcTl rowD) := by
  refine ⟨f, fd, fn3 F scope_Parser_parse_record (fun ds M Q ⟨_, _, _, e, _⟩ => by rw [e]; rfl) (fun cdv A outer sh H E' hr ds M Q ⟨E, x, rr, e, hx, hp, q⟩ => ?_), Mm, b⟩
  subst e
  obtain ⟨nm, fs⟩ := x
  have h1 := hx.l1
  have h7 := hx.l7
  have hfl := hx.fl
  dsimp only at h1 h7 hfl
  match fs, h1 with
  | f1 :: fr, _ =>
    simp only [rcTl, fsRw, List.map_cons, sepL_com, List.append_assoc, List.cons_append, List.nil_append] at hp
    simp only [List.length_cons] at h7
    refine ss_cons (s_asg 1 scope_Parser_parse_record.nd (e_form cp C_form (hr.mono (by omega)) rfl hp (big_form hx.nm).1 fun M1 hp1 k1 => ?_))
    refine ss_cons (s_expect cp C_expect (hr.mono (by omega)) rfl hp1 (by decide +kernel) fun M2 hp2 k2 => ?_)
    refine ss_cons (s_asg 2 scope_Parser_parse_record.nd (e_lst (a_cons (e_item cp C_field hr rfl (hfl f1 (by simp)) hp2 fun M3 hp3 k3 => a_nil ⟨by show 1 ≤ sizeLine; decide, fun qa M4 f4 e4 l4 => ?_⟩))))
    obtain ⟨o1, o2⟩ := hp3.out f4
    refine ss_cons (s_rep (by decide +kernel) 2 fRw fD "}" rr [f1] fr cp C_takes (hr.mono (by omega)) rfl rfl (by decide +kernel) f4 o1 o2 l4.keep e4 (hp3.le l4) (by simp; omega) (fun a ha M8 ts8 Q8 hp8 hq8 => e_item cp C_field hr rfl (hfl a (by simp [ha])) hp8 hq8) (fun M8 e8 hp8 k8 => ?_) PassesOwn.never)
    refine ss_cons (s_expect cp C_expect (hr.mono (by omega)) rfl hp8 (by decide +kernel) fun M9 hp9 k9 => ?_)
    exact ss_one (s_ret (e_tup (a_cons (e_var 1 rfl (a_cons (e_tuplec m_tuple (a_cons (e_var 2 rfl (a_nil ⟨_, k9.at o2 e8, a_nil ⟨by show 2 ≤ sizeLine; decide, Wk.here (q M9 hp9 ((((k1.trans k2).trans k3).trans k8).trans k9))⟩⟩)))))))))
/-- a function's tokens behind the first word -/
def fnTl {β : Type} (rawB : β → List Str) (x : Fu × β) : List Str := x.1.nm :: ("(" : Str) :: (fsRw x.1.ps ++ ((")" : Str) :: ("->" : Str) :: (x.1.res.raw ++ (srcRw x.1.src ++ rawB x.2))))
def fnD {β : Type} (dvB : β → D) (x : Fu × β) : D := .tup [.str x.1.nm, .tup (x.1.ps.map fD), x.1.res.d, .tup (x.1.src.map D.str), dvB x.2]
theorem ok_pfun {β : Type} {okB : β → Prop} {rawB : β → List Str} {dvB : β → D} {kB : Nat} (hkB : 10 ≤ kB) (hdB : ∀ y, ∃ ts, rawB y = ("{" : Str) :: ts) (cp : PCls K C) (F : Fun K "parse_function" "Parser.parse_function" st_Parser_parse_function f fd) (b : Binds K fd ["self"] []) (Mm : Meth K C "parse_function" f) (m_tuple : mg "tuple" = none)
    (C_takes : CalleeM P w K mg base C "takes" 3 ["self", "text"] (spTakes C T)) (C_expect : CalleeM P w K mg base C "expect" 4 ["self", "text"] (spExpect C T)) (C_form : CalleeM P w K mg base C "take_form" 2 ["self", "form"] (spForm C T)) (C_field : CalleeM P w K mg base C "parse_field" 9 ["self"] (spItem C T Fd fRw fD))
    (C_kind : ∀ n, CalleeM P w K mg base C "parse_kind" (n + 5) ["self"] (spItem C T (Tk n) Kd.raw Kd.d)) (C_block : CalleeM P w K mg base C "parse_block" kB ["self"] (spItem C T okB rawB dvB)) :
    CalleeM P w K mg base C "parse_function" (kB + 1) ["self"] (spItem C T (fun x : Fu × β => FuOk x.1 ∧ okB x.2) (fnTl rawB) (fnD dvB)) := by
  refine ⟨f, fd, fn3 F scope_Parser_parse_function (fun ds M Q ⟨_, _, _, e, _⟩ => by rw [e]; rfl) (fun cdv A outer sh H E' hr ds M Q ⟨E, x, rr, e, ⟨hx, hB⟩, hp, q⟩ => ?_), Mm, b⟩
  subst e
  obtain ⟨⟨nm, fps, res, src⟩, body⟩ := x
  have h3 := hx.l3
  have h2 := hx.l2
  have hps := hx.ps
  have hsr := hx.src
  have hre := hx.res
  have hnm := hx.nm
  dsimp only at h3 h2 hps hsr hre hnm hB
  unfold fnD at q
  dsimp only at q
  simp only [fnTl, List.append_assoc, List.cons_append, List.nil_append] at hp
  refine ss_cons (s_asg 1 scope_Parser_parse_function.nd (e_form cp C_form (hr.mono (by omega)) rfl hp (nm_form hnm).1 fun M1 hp1 k1 => ?_))
  refine ss_cons (s_expect cp C_expect (hr.mono (by omega)) rfl hp1 (by decide +kernel) fun M2 hp2 k2 => ?_)
  refine ss_cons (s_asg 2 scope_Parser_parse_function.nd (e_lst (a_nil ⟨by show 0 ≤ sizeLine; decide, fun qa M3 f3 e3 l3 => ?_⟩)))
  obtain ⟨o1, o2⟩ := hp2.out f3
  have hp3 := hp2.le l3
  refine ss_cut (fun σ' M' => σ' = [some (.ref E.p), some (.str nm), some (.ref qa), none, none] ∧ M' qa = some (.lst (fps.map fD)) ∧ PT C T E M' (("->" : Str) :: (res.raw ++ (srcRw src ++ (rawB body ++ rr)))) ∧ Keep E.p M2 M') ?_ ?_
  · match fps, h3 with
    | [], _ =>
      have hp3 : PT C T E M3 ((")" : Str) :: ("->" : Str) :: (res.raw ++ (srcRw src ++ (rawB body ++ rr)))) := hp3
      exact s_if (t_not (t_takes cp C_takes (hr.mono (by omega)) rfl hp3 (by decide +kernel) (e_str ⟨rfl, rfl⟩) (fun _ M4 hp4 k4 => ⟨fun h => absurd h (by decide), fun _ => ss_nil ⟨rfl, k4.at o2 e3, hp4, l3.keep.trans k4⟩⟩) fun h => absurd rfl h))
    | f1 :: fr, h3 =>
      simp only [List.length_cons] at h3
      have hf1 := hps f1 (by simp)
      have hp3a := hp3
      simp only [fsRw, List.map_cons, sepL_com, fRw, List.append_assoc, List.cons_append] at hp3a
      refine s_if (t_not (t_takes cp C_takes (hr.mono (by omega)) rfl hp3a (by decide +kernel) (e_str ⟨rfl, rfl⟩) (fun h => absurd h (nm_kw hf1.nm (by decide +kernel))) fun _ => ⟨fun _ => ?_, fun h => absurd h (by decide)⟩))
      have hp3b : PT C T E M3 (fRw f1 ++ (comL (fr.map fRw) ++ ((")" : Str) :: ("->" : Str) :: (res.raw ++ (srcRw src ++ (rawB body ++ rr)))))) := by
        have := hp3
        simp only [fsRw, List.map_cons, sepL_com, List.append_assoc] at this
        exact this
      refine ss_cons (s_append 2 e3 rfl (e_item cp C_field (hr.mono (by omega)) rfl hf1 hp3b fun M4 hp4 k4 => ⟨_, k4.at o2 e3, by show 0 < sizeLine; decide, fun M5 e5 k5 => ?_⟩))
      have K5 : Keep E.p M2 M5 := (l3.keep.trans k4).setN' f3 k5
      refine ss_cons (s_rep (by decide +kernel) 2 fRw fD ")" _ [f1] fr cp C_takes (hr.mono (by omega)) rfl rfl (by decide +kernel) f3 o1 o2 K5 e5 (hp4.setQ k5 (k4.at o2 e3) o1) (by simp; omega) (fun a ha M8 ts8 Q8 hp8 hq8 => e_item cp C_field (hr.mono (by omega)) rfl (hps a (by simp [ha])) hp8 hq8) (fun M8 e8 hp8 k8 => ?_) PassesOwn.never)
      exact ss_one (s_expect cp C_expect (hr.mono (by omega)) rfl hp8 (by decide +kernel) fun M9 hp9 k9 => ⟨rfl, k9.at o2 e8, hp9, k8.trans k9⟩)
  rintro σ' M4 ⟨rfl, e4, hp4, k4⟩
  refine ss_cons (s_expect cp C_expect (hr.mono (by omega)) rfl hp4 (by decide +kernel) fun M5 hp5 k5 => ?_)
  refine ss_cons (s_asg 3 scope_Parser_parse_function.nd (e_item cp (C_kind 3) (hr.mono (by omega)) rfl hre hp5 fun M6 hp6 k6 => ?_))
  have e6 := k6.at o2 (k5.at o2 e4)
  refine ss_cons (s_asg 4 scope_Parser_parse_function.nd (e_lst (a_nil ⟨by show 0 ≤ sizeLine; decide, fun qs M7 f7 e7 l7 => ?_⟩)))
  obtain ⟨o3, o4⟩ := hp6.out f7
  have hp7 := hp6.le l7
  have nqa : qa ≠ qs := mne e6 f7
  obtain ⟨tb, eb⟩ := hdB body
  refine ss_cut (fun σ' M' => σ' = [some (.ref E.p), some (.str nm), some (.ref qa), some res.d, some (.ref qs)] ∧ M' qs = some (.lst (src.map D.str)) ∧ PT C T E M' (rawB body ++ rr) ∧ Keep E.p M6 M') ?_ ?_
  · match src, h2 with
    | [], _ =>
      have hp7' : PT C T E M7 (("{" : Str) :: (tb ++ rr)) := by rw [eb] at hp7; exact hp7
      exact s_if (t_takes cp C_takes (hr.mono (by omega)) rfl hp7' (by decide +kernel) (e_str ⟨rfl, rfl⟩) (fun h => absurd h (by decide +kernel)) fun _ => BQ.f (ss_nil ⟨rfl, e7, hp7, l7.keep⟩))
    | s1 :: sr, h2 =>
      simp only [List.length_cons] at h2
      have hs1 := hsr s1 (by simp)
      have hp7a : PT C T E M7 (("from" : Str) :: s1 :: (comL (sr.map fun s => [s]) ++ (("{" : Str) :: (tb ++ rr)))) := by
        have := hp7
        rw [srcRw, if_neg (by simp), List.map_cons, sepL_com, eb] at this
        simp only [List.append_assoc, List.cons_append, List.nil_append] at this
        exact this
      refine s_if (t_takes cp C_takes (hr.mono (by omega)) rfl hp7a (by decide +kernel) (e_str ⟨rfl, rfl⟩) (fun _ M8 hp8 k8 => BQ.t ?_) fun h => absurd rfl h)
      have e8 := k8.at o4 e7
      refine ss_cons (s_append 4 e8 rfl (e_form cp C_form (hr.mono (by omega)) rfl hp8 (nm_form hs1).1 fun M9 hp9 k9 => ⟨_, k9.at o4 e8, by show 0 < sizeLine; decide, fun M10 e10 k10 => ?_⟩))
      have K10 : Keep E.p M6 M10 := ((l7.keep.trans k8).trans k9).setN' f7 k10
      refine ss_one (s_rep (by decide +kernel) 4 (fun s => [s]) D.str "{" _ [s1] sr cp C_takes (hr.mono (by omega)) rfl rfl (by decide +kernel) f7 o3 o4 K10 e10 (hp9.setQ k10 (k9.at o4 e8) o3) (by simp; omega) (fun a ha M11 ts8 Q8 hp11 hq11 => e_form cp C_form (hr.mono (by omega)) rfl hp11 (nm_form (hsr a (by simp [ha]))).1 hq11) (fun M11 e11 hp11 k11 => ?_) PassesOwn.never)
      exact ⟨rfl, e11, by rw [eb]; exact hp11, k11⟩
  rintro σ' M8 ⟨rfl, e8, hp8, k8⟩
  refine ss_one (s_ret (e_tup (a_cons (e_var 1 rfl (a_cons (e_tuplec m_tuple (a_cons (e_var 2 rfl (a_nil ⟨_, k8.at o2 e6, a_cons (e_var 3 rfl (a_cons (e_tuplec m_tuple (a_cons (e_var 4 rfl (a_nil ⟨_, e8, a_cons (e_item cp C_block hr rfl hB hp8 fun M9 hp9 k9 => a_nil ⟨by show 5 ≤ sizeLine; decide, Wk.here (q M9 hp9 ((((((k1.trans k2).trans k4).trans k5).trans k6).trans k8).trans k9))⟩)⟩))))))⟩)))))))))
theorem ok_pblock0 (cp : PCls K C) (F : Fun K "parse_block" "Parser.parse_block" st_Parser_parse_block f fd) (b : Binds K fd ["self"] []) (Mm : Meth K C "parse_block" f) (m_tuple : mg "tuple" = none)
    (C_takes : CalleeM P w K mg base C "takes" 3 ["self", "text"] (spTakes C T)) (C_expect : CalleeM P w K mg base C "expect" 4 ["self", "text"] (spExpect C T)) :
    CalleeM P w K mg base C "parse_block" 10 ["self"] (spItem C T (fun _ : Unit => True) (fun _ => (["{", "}"] : List Str)) (fun _ => .tup [])) := by
  refine ⟨f, fd, fn3 F scope_Parser_parse_block (fun ds M Q ⟨_, _, _, e, _⟩ => by rw [e]; rfl) (fun cdv A outer sh H E' hr ds M Q ⟨E, x, rr, e, _, hp, q⟩ => ?_), Mm, b⟩
  subst e
  refine ss_cons (s_expect cp C_expect (hr.mono (by omega)) rfl hp (by decide +kernel) fun M1 hp1 k1 => ?_)
  refine ss_cons (s_asg 1 scope_Parser_parse_block.nd (e_lst (a_nil ⟨by show 0 ≤ sizeLine; decide, fun qa M2 f2 e2 l2 => ?_⟩)))
  obtain ⟨o1, o2⟩ := hp1.out f2
  refine ss_cons (s_while (fun m σ' M' => σ' = [some (.ref E.p), some (.ref qa)] ∧ M' = M2) 0 ⟨rfl, rfl⟩ PassesOwn.never ?_)
  rintro m σ' M' ⟨rfl, rfl⟩
  refine t_not (t_takes cp C_takes (hr.mono (by omega)) rfl (hp1.le l2) (by decide +kernel) (e_str ⟨rfl, rfl⟩) (fun _ M3 hp3 k3 => ⟨fun h => absurd h (by decide), fun _ => ?_⟩) fun h => absurd rfl h)
  exact ss_one (s_ret (e_tuplec m_tuple (a_cons (e_var 1 rfl (a_nil ⟨_, k3.at o2 e2, Wk.here (q M3 hp3 ((k1.to l2).trans k3))⟩)))))
end
end My
set_option maxHeartbeats 4000000
namespace My
open PySem L2 DL
/-! ### numbers as tokens -/
def numS (n : Nat) : Str := strD (.int (n : Int))
theorem ls_num (n : Nat) : Ls (numS n) = TL.numL n := TL.tl_num n
theorem numL_head : ∀ n : Nat, 1 ≤ n → (TL.numL n).head? ≠ some 48 := by
  intro n
  induction n using Nat.strongRecOn with
  | ind n ih =>
    intro h
    by_cases h10 : n < 10
    · rw [TL.numL_lt h10]
      intro e
      have : 48 + n = 48 := Option.some.inj e
      omega
    · rw [TL.numL_step (by omega)]
      have h1 := ih (n / 10) (by omega) (by omega)
      have hne := TL.numL_ne (n / 10)
      cases e : TL.numL (n / 10) with
      | nil => exact absurd e hne
      | cons c r =>
        rw [e] at h1
        exact h1
theorem dig_mem {c : Nat} (h : 48 ≤ c ∧ c ≤ 57) : c ∈ Ls digT := by
  have key : (List.range 58).all (fun c => decide (c < 48) || decide (c ∈ Ls digT)) = true := by decide +kernel
  have := List.all_eq_true.mp key c (by simp; omega)
  simp only [Bool.or_eq_true, decide_eq_true_eq] at this
  rcases this with h2 | h2
  · omega
  · exact h2
structure NumOk (n : Nat) : Prop where
  form : formT (numS n) = "number"
  wf : WfT (numS n)
  ln : (numS n).length ≤ 10
  rd : PySem.intText? (numS n) = some (n : Int)
  sp : splitT (numS n) = [numS n]
  ne : numS n ≠ "" ∧ numS n ≠ "-" ∧ numS n ≠ "=" ∧ numS n ≠ "=="
theorem num_ok {n : Nat} (h : n < 10 ^ 10) : NumOk n := by
  have hl : (numS n).length ≤ 10 := by rw [← ls_len, ls_num]; exact TL.numL_len (by decide) h
  have hne : Ls (numS n) ≠ [] := by rw [ls_num]; exact TL.numL_ne n
  have hd : ∀ c ∈ Ls (numS n), c ∈ Ls digT := fun c hc => by
    rw [ls_num] at hc
    exact dig_mem (TL.numL_digits n c hc)
  have hf : formN (numS n) = "number" := by
    unfold formN
    rw [if_neg]
    rintro (h1 | ⟨h1, h2⟩)
    · omega
    · rw [ls_num] at h1
      by_cases h0 : n = 0
      · subst h0
        have : (numS 0).length = 1 := by decide +kernel
        omega
      · exact numL_head n (by omega) h1
  have hform : formT (numS n) = "number" := by
    cases e : Ls (numS n) with
    | nil => exact absurd e hne
    | cons c r =>
      have hc := hd c (by rw [e]; exact List.mem_cons_self)
      have hr : run digT (c :: r) = c :: r := by
        rw [← e]
        have := takeW_app (p := fun c => decide (c ∈ Ls digT)) (a := Ls (numS n)) (s := []) (fun d hm => decide_eq_true (hd d hm)) (fun _ h => by cases h)
        rwa [List.append_nil] at this
      unfold formT
      rw [e, tokAt_cons, if_neg (dig_let c hc), if_pos hc, hr, ← e, ofL_ls, hf]
  have nk : ∀ t : Str, formT t ≠ "number" → numS n ≠ t := fun t ht he => by rw [he] at hform; exact ht hform
  refine ⟨hform, .num hne hd (by rw [hf]; decide +kernel), hl, PySem.W.KIN.num_reads (by omega) (by omega), split_wd (fun h1 => ?_) (nk _ (by decide +kernel)), nk _ (by decide +kernel), nk _ (by decide +kernel), nk _ (by decide +kernel), nk _ (by decide +kernel)⟩
  cases e : Ls (numS n) with
  | nil => exact absurd e hne
  | cons c r =>
    have hc := hd c (by rw [e]; exact List.mem_cons_self)
    rw [e] at h1
    have : c = 45 := Option.some.inj h1
    subst this
    exact absurd hc (by decide +kernel)
theorem num_neg (m : Nat) : splitT (strD (.int (-((m + 1 : Nat) : Int)))) = [("-" : Str), numS (m + 1)] := by
  have e1 : Ls (strD (.int (-((m + 1 : Nat) : Int)))) = 45 :: TL.numL (m + 1) := by
    show TL.tl (Str.ofString ("-" ++ Nat.repr (m + 1))) = _
    rw [TL.tl_ofString, String.toList_append, List.map_append]
    have : TL.tl (Str.ofString (Nat.repr (m + 1))) = TL.numL (m + 1) := TL.tl_num (m + 1)
    rw [TL.tl_ofString] at this
    rw [this]
    rfl
  have hne := TL.numL_ne (m + 1)
  have nk : ∀ t : Str, Ls t ≠ Ls (strD (.int (-((m + 1 : Nat) : Int)))) → strD (.int (-((m + 1 : Nat) : Int))) ≠ t := fun t ht he => ht (by rw [he])
  have hlen : 1 < (strD (.int (-((m + 1 : Nat) : Int)))).length := by
    rw [← ls_len, e1, List.length_cons]
    have := List.length_pos_iff.mpr hne
    omega
  unfold splitT
  rw [if_neg (nk _ (by
    rw [e1]
    intro h
    have e2 : Ls "&mut" = [38, 109, 117, 116] := by decide +kernel
    rw [e2] at h
    cases h)), if_pos ⟨hlen, by rw [e1]; rfl, nk _ (by
    rw [e1]
    intro h
    have e2 : Ls "->" = [45, 62] := by decide +kernel
    rw [e2] at h
    have h3 : TL.numL (m + 1) = [62] := by
      injection h with _ h
      exact h.symm
    have := TL.numL_digits (m + 1) 62 (by rw [h3]; exact List.mem_singleton_self _)
    omega)⟩]
  have e3 : ofL ((Ls (strD (.int (-((m + 1 : Nat) : Int))))).drop 1) = numS (m + 1) := by
    rw [e1]
    apply ls_ext
    rw [ls_ofL, ls_num]
    rfl
  rw [e3]
/-! ### expressions -/
def intRw (i : Int) : List Str := if 0 ≤ i then [numS i.toNat] else [("-" : Str), numS (-i).toNat]
theorem int_raw (i : Int) (h : i.natAbs < 10 ^ 10) : rawL [strD (.int i)] = intRw i := by
  unfold intRw
  rw [rawL_cons, rawL_nil, List.append_nil]
  by_cases h0 : 0 ≤ i
  · rw [if_pos h0]
    have e : strD (.int i) = numS i.toNat := by unfold numS; rw [Int.toNat_of_nonneg h0]
    rw [e]
    exact (num_ok (by omega)).sp
  · rw [if_neg h0]
    obtain ⟨m, hm⟩ : ∃ m : Nat, i = -((m + 1 : Nat) : Int) := ⟨(-i).toNat - 1, by omega⟩
    subst hm
    rw [num_neg m]
    have : (-(-((m + 1 : Nat) : Int))).toNat = m + 1 := by omega
    rw [this]
/-- a step's tokens -/
def stW : D → List Str
  | .str x => if x = "?" ∨ x = "^" then [x] else [".", x]
  | .int i => [".", numS i.toNat]
  | _ => []
theorem st_raw {s : D} (h : StOk s) : rawL (stR s) = stW s := by
  rcases h with rfl | rfl | ⟨x, hx, rfl⟩ | ⟨i, hi, rfl⟩
  · simp only [stR, stW, true_or, if_true]; decide +kernel
  · simp only [stR, stW, or_true, if_true]; decide +kernel
  · have hq : ¬ (x = "?" ∨ x = "^") := fun h => by
      rcases h with rfl | rfl
      · exact nm_kw hx (t := "?") (by decide +kernel) rfl
      · exact nm_kw hx (t := "^") (by decide +kernel) rfl
    simp only [stR, stW, if_neg hq]
    rw [rawL_one _ (by decide +kernel), rawL_one _ (name_split hx.nm)]
    rfl
  · simp only [stR, stW]
    have e : ((i : Int)).toNat = i := Int.toNat_natCast i
    rw [rawL_one _ (by decide +kernel), rawL_one _ (by have := (num_ok hi).sp; exact this), e]
    rfl
def stsW (ss : List D) : List Str := (ss.map stW).flatten
def plW (v : Str) (ss : List D) : List Str := v :: stsW ss
theorem pl_raw {v : Str} {ss : List D} (h : Pk v ss) : rawL (plR v ss) = plW v ss := by
  unfold plR plW stsW
  rw [rawL_one _ (name_split h.nm.nm), rawL_flat, List.map_map]
  congr 2
  exact List.map_congr_left fun s hs => st_raw (h.st s hs)
def Ex.raw (e : Ex) : List Str := rawL e.er
def parW (ls : List (List Str)) : List Str := ("(" : Str) :: (sepL ls ++ [(")" : Str)])
theorem par_raw (ls : List (List Str)) : rawL (parR ls) = parW (ls.map rawL) := by
  unfold parR parW
  rw [List.cons_append, rawL_one _ (by decide +kernel), rawL_app, rawL_sepL]
  rfl
theorem xr_int {i : Int} (h : i.natAbs < 10 ^ 10) : Ex.raw (.int i) = intRw i := by simp only [Ex.raw, Ex.er]; exact int_raw i h
theorem xr_bool (b : Bool) : Ex.raw (.bool b) = [if b then ("true" : Str) else ("false" : Str)] := by
  simp only [Ex.raw, Ex.er]
  cases b <;> decide +kernel
theorem xr_unit : Ex.raw .unit = [("unit" : Str)] := by simp only [Ex.raw, Ex.er]; decide +kernel
theorem xr_none (k : Kd) : Ex.raw (.none k) = ("none" : Str) :: ("[" : Str) :: (k.raw ++ [("]" : Str)]) := by
  simp only [Ex.raw, Ex.er]
  rw [rawL_one _ (by decide +kernel), rawL_one _ (by decide +kernel), rawL_app]
  rfl
theorem xr_use {v : Str} {ss : List D} (h : Pk v ss) : Ex.raw (.use v ss) = plW v ss := by simp only [Ex.raw, Ex.er]; exact pl_raw h
theorem xr_is {v : Str} {ss : List D} (h : Pk v ss) : Ex.raw (.is v ss) = plW v ss ++ (["is", "some"] : List Str) := by
  simp only [Ex.raw, Ex.er]
  rw [rawL_app, pl_raw h]
  rfl
theorem xr_bor {m : Bool} {v : Str} {ss : List D} (h : Pk v ss) : Ex.raw (.bor m v ss) = (if m then (["&", "mut"] : List Str) else (["&"] : List Str)) ++ plW v ss := by
  simp only [Ex.raw, Ex.er]
  rw [rawL_cons, pl_raw h]
  congr 1
  cases m <;> decide +kernel
theorem kw_split {w : Str} (h : isKw w = true) : splitT w = [w] := by
  have k : (words ++ signs).all (fun t => decide (splitT t = [t])) = true := by decide +kernel
  unfold isKw at h
  rw [Bool.or_eq_true, decide_eq_true_eq, decide_eq_true_eq] at h
  exact of_decide_eq_true (List.all_eq_true.mp k w (List.mem_append.mpr h))
theorem un_kw {w : Str} (h : w ∈ unW) : isKw w = true := (show ∀ w ∈ unW, isKw w = true by decide +kernel) w h
theorem op_kw {w : Str} (h : w ∈ opW) : isKw w = true := (show ∀ w ∈ opW, isKw w = true by decide +kernel) w h
theorem xr_un {w : Str} (h : w ∈ unW) (e : Ex) : Ex.raw (.un w e) = w :: e.raw := by simp only [Ex.raw, Ex.er]; exact rawL_one _ (kw_split (un_kw h))
theorem xr_swap {v : Str} {ss : List D} (h : Pk v ss) (e : Ex) : Ex.raw (.swap v ss e) = ("swap" : Str) :: (plW v ss ++ (("with" : Str) :: e.raw)) := by
  simp only [Ex.raw, Ex.er]
  rw [rawL_one _ (by decide +kernel), rawL_app, pl_raw h, rawL_one _ (by decide +kernel)]
theorem xr_op {s : Str} (h : s ∈ opW) (l r : Ex) : Ex.raw (.op s l r) = ("(" : Str) :: (l.raw ++ (s :: (r.raw ++ [(")" : Str)]))) := by
  simp only [Ex.raw, Ex.er]
  rw [rawL_one _ (by decide +kernel), rawL_app, rawL_one _ (kw_split (op_kw h)), rawL_app]
  rfl
theorem xr_tup (l : List Ex) : Ex.raw (.tup l) = parW (l.map Ex.raw) := by
  simp only [Ex.raw, Ex.er]
  rw [par_raw, Ex.ers_map, List.map_map]
  rfl
theorem xr_rcd {x : Str} (h : BigS x) (l : List Ex) : Ex.raw (.rcd x l) = x :: parW (l.map Ex.raw) := by
  simp only [Ex.raw, Ex.er]
  rw [rawL_one _ (big_split h), par_raw, Ex.ers_map, List.map_map]
  rfl
theorem xr_call {x : Str} (h : Nm x) (l : List Ex) : Ex.raw (.call x l) = x :: parW (l.map Ex.raw) := by
  simp only [Ex.raw, Ex.er]
  rw [rawL_one _ (name_split h.nm), par_raw, Ex.ers_map, List.map_map]
  rfl
/-! the first token tells -/
def intOk (i : Int) : Prop := -2147483648 ≤ i ∧ i ≤ 2147483647
def okL (n : Nat) (l : List Ex) : Prop := l.length ≤ 6 ∧ ∀ e ∈ l, EOk n e
inductive NSh (n : Nat) : Str → List Str → D → Prop
  | call {x : Str} {l : List Ex} : okL n l → NSh n x (parW (l.map Ex.raw)) (.tup [.str "call", .str x, .tup (l.map Ex.d)])
  | use {x : Str} {ss : List D} : Pk x ss → NSh n x (stsW ss) (.tup [.str "use", plcD x ss])
  | is {x : Str} {ss : List D} : Pk x ss → NSh n x (stsW ss ++ (["is", "some"] : List Str)) (.tup [.str "is", plcD x ss])
inductive GSh (n : Nat) : List Str → D → Prop
  | op {s : Str} {l r : Ex} : s ∈ opW → EOk n l → EOk n r → GSh n (l.raw ++ (s :: (r.raw ++ [(")" : Str)]))) (.tup [.str "op", .str s, l.d, r.d])
  | tup {e1 e2 : Ex} {r : List Ex} : EOk n e1 → EOk n e2 → (∀ e ∈ r, EOk n e) → r.length ≤ 6 → GSh n (e1.raw ++ (("," : Str) :: (e2.raw ++ (comL (r.map Ex.raw) ++ [(")" : Str)])))) (.tup [.str "tuple", .tup (e1.d :: e2.d :: r.map Ex.d)])
inductive WSh (n : Nat) : Str → List Str → D → Prop
  | bool (b : Bool) : WSh n (if b then ("true" : Str) else ("false" : Str)) [] (.tup [.str "bool", .bl b])
  | unit : WSh n "unit" [] (.tup [.str "unit"])
  | none {k : Kd} : Tk 3 k → WSh n "none" (("[" : Str) :: (k.raw ++ [("]" : Str)])) (.tup [.str "none", k.d])
  | swap {v : Str} {ss : List D} {e : Ex} : Pk v ss → EOk n e → WSh n "swap" (plW v ss ++ (("with" : Str) :: e.raw)) (.tup [.str "swap", plcD v ss, e.d])
  | un {w : Str} {e : Ex} : w ∈ unW → EOk n e → WSh n w e.raw (.tup [.str w, e.d])
inductive ESh (n : Nat) : Str → List Str → D → Prop
  | num {i : Int} : intOk i → 0 ≤ i → ESh n (numS i.toNat) [] (.tup [.str "int", .int i])
  | neg {i : Int} : intOk i → i < 0 → ESh n "-" [numS (-i).toNat] (.tup [.str "int", .int i])
  | rcd {x : Str} {l : List Ex} : BigS x → okL n l → ESh n x (parW (l.map Ex.raw)) (.tup [.str "record", .str x, .tup (l.map Ex.d)])
  | nam {x : Str} {ts : List Str} {d : D} : Nm x → NSh n x ts d → ESh n x ts d
  | par {ts : List Str} {d : D} : GSh n ts d → ESh n "(" ts d
  | bor {m : Bool} {v : Str} {ss : List D} : Pk v ss → ESh n "&" ((if m then (["mut"] : List Str) else []) ++ plW v ss) (.tup [.str "borrow", .str (borS m), plcD v ss])
  | wrd {t : Str} {ts : List Str} {d : D} : WSh n t ts d → ESh n t ts d
theorem esh {n : Nat} {e : Ex} (h : EOk (n + 1) e) : ∃ t ts, e.raw = t :: ts ∧ ESh n t ts e.d := by
  cases h with
  | int hi =>
    rename_i i
    rw [xr_int (by have := hi.1; have := hi.2; omega)]
    simp only [Ex.d, intRw]
    by_cases h0 : 0 ≤ i
    · rw [if_pos h0]
      exact ⟨_, _, rfl, .num hi h0⟩
    · rw [if_neg h0]
      exact ⟨_, _, rfl, .neg hi (by omega)⟩
  | bool b => rw [xr_bool]; simp only [Ex.d]; exact ⟨_, _, rfl, .wrd (.bool b)⟩
  | unit => rw [xr_unit]; simp only [Ex.d]; exact ⟨_, _, rfl, .wrd .unit⟩
  | none hk => rw [xr_none]; simp only [Ex.d]; exact ⟨_, _, rfl, .wrd (.none hk)⟩
  | use hp => rw [xr_use hp]; simp only [Ex.d]; exact ⟨_, _, rfl, .nam hp.nm (.use hp)⟩
  | is hp => rw [xr_is hp]; simp only [Ex.d]; exact ⟨_, _, rfl, .nam hp.nm (.is hp)⟩
  | bor hp =>
    rename_i m v ss
    rw [xr_bor hp]
    simp only [Ex.d]
    cases m
    · exact ⟨_, _, rfl, .bor (m := false) hp⟩
    · exact ⟨_, _, rfl, .bor (m := true) hp⟩
  | un hw he => rw [xr_un hw]; simp only [Ex.d]; exact ⟨_, _, rfl, .wrd (.un hw he)⟩
  | swap hp he => rw [xr_swap hp]; simp only [Ex.d]; exact ⟨_, _, rfl, .wrd (.swap hp he)⟩
  | op hs hl hr => rw [xr_op hs]; simp only [Ex.d]; exact ⟨_, _, rfl, .par (.op hs hl hr)⟩
  | tup h2 h6 hl =>
    rename_i l
    rw [xr_tup]
    simp only [Ex.d, Ex.ds_map]
    match l, h2 with
    | e1 :: e2 :: r, _ =>
      refine ⟨_, _, rfl, .par ?_⟩
      have hr : r.length ≤ 6 := by simp only [List.length_cons] at h6; omega
      have := GSh.tup (n := n) (hl e1 (by simp)) (hl e2 (by simp)) (fun e he => hl e (by simp [he])) hr
      rw [List.map_cons, List.map_cons, sepL_com, comL_cons]
      simpa only [List.append_assoc, List.cons_append, List.map_cons] using this
  | rcd hx h6 hl => rw [xr_rcd hx]; simp only [Ex.d, Ex.ds_map]; exact ⟨_, _, rfl, .rcd hx ⟨h6, hl⟩⟩
  | call hx h6 hl => rw [xr_call hx]; simp only [Ex.d, Ex.ds_map]; exact ⟨_, _, rfl, .nam hx (.call ⟨h6, hl⟩)⟩
theorem eok_pos {n : Nat} {e : Ex} (h : EOk n e) : ∃ m, n = m + 1 := by
  cases n with
  | zero => exact nomatch h
  | succ m => exact ⟨m, rfl⟩
end My
set_option maxHeartbeats 4000000
namespace My
open PySem L2 DL
/-! ### expressions, parsed -/
def FolS (rr : List Str) : Prop := ∃ c r, rr = c :: r ∧ c ∉ ([".", "?", "^"] : List Str)
def Fol (rr : List Str) : Prop := ∃ c r, rr = c :: r ∧ c ∉ (["(", ".", "?", "^", "is"] : List Str)
theorem Fol.s {rr : List Str} (h : Fol rr) : FolS rr := by
  obtain ⟨c, r, e, hc⟩ := h
  refine ⟨c, r, e, fun hm => hc ?_⟩
  exact List.mem_cons_of_mem _ ((show ∀ x ∈ ([".", "?", "^"] : List Str), x ∈ ([".", "?", "^", "is"] : List Str) by decide +kernel) c hm)
theorem fol_of {c : Str} {r : List Str} (h : c ∉ (["(", ".", "?", "^", "is"] : List Str)) : Fol (c :: r) := ⟨c, r, rfl, h⟩
theorem op_fol {s : Str} (h : s ∈ opW) : s ∉ (["(", ".", "?", "^", "is"] : List Str) := (show ∀ s ∈ opW, s ∉ (["(", ".", "?", "^", "is"] : List Str) by decide +kernel) s h
def spItemF (C T : Addr) {α : Type} (Fo : List Str → Prop) (ok : α → Prop) (raw : α → List Str) (dv : α → D) : Sp3 := fun ds M Q => ∃ (E : Pr) (a : α) (rr : List Str), ds = [.ref E.p] ∧ ok a ∧ Fo rr ∧ PT C T E M (raw a ++ rr) ∧ ∀ M', PT C T E M' rr → Keep E.p M M' → Q (dv a) M'
def spSteps (C T : Addr) : Sp3 := fun ds M Q => ∃ (E : Pr) (v : Str) (ss : List D) (rr : List Str), ds = [.ref E.p, .str v] ∧ Pk v ss ∧ FolS rr ∧ PT C T E M (stsW ss ++ rr) ∧ ∀ M', PT C T E M' rr → Keep E.p M M' → Q (plcD v ss) M'
section
variable {X : Cx} {C T : Addr} {E : Pr} {σ : Sd} {M M0 : Mp} {Q : QD} {En : DE} {t x l : Str} {ts : List Str} {e ie : Expr} {p1 ap pos lp ep cpos apos p2 p3 : Pos} {j : Nat} {pl : Sem Bool}
theorem e_itemF {α : Type} {Fo : List Str → Prop} {ok : α → Prop} {raw : α → List Str} {dv : α → D} {m : Str} {k : Nat} {a : α} {rr : List Str} (cp : PCls X.K C) (F : CalleeM X.prog X.w X.K X.mg X.base C m k ["self"] (spItemF C T Fo ok raw dv)) (hr : Room k X.A) (hs : σ[0]? = some (some (.ref E.p))) (hok : ok a) (hfo : Fo rr) (hp : PT C T E M (raw a ++ rr))
    (hy : ∀ M', PT C T E M' rr → Keep E.p M M' → Q (dv a) M') (n1 : (m == "tokens") = false := by decide +kernel) (n2 : (m == "at") = false := by decide +kernel)
    (hN : X.N[0]? = some ("self" : Str) := by rfl) (hv : Vis X.env.scope "self" := by first | exact Or.inl rfl | exact Or.inr (Or.inl rfl) | exact Or.inr (Or.inr rfl))
    (ht : eval (.Call (.Attribute (.Name "self" p1) m ap) [] [] pos) X.env = (do
      let ov ← eval (.Name "self" p1) X.env
      standAt ap.atName
      let (f, first) ← holding [ov] (getMethod ov m pl)
      callWith pos f first (backTo pos (starEach [] X.env)) (backToKw pos (keywordEach [] X.env))) := by rfl) :
    ES X (.Call (.Attribute (.Name "self" p1) m ap) [] [] pos) σ M Q := by
  obtain ⟨n, eo, hd⟩ := hp.ob
  exact e_meth0 cp.cl F hr (e_var 0 hs ⟨E.p, E.dx, _, rfl, eo, pf_no n1 n2, E, a, rr, rfl, hok, hfo, hp, hy⟩ hN hv) ht
/-- self.token() -/
theorem e_token (cp : PCls X.K C) (F : CalleeM X.prog X.w X.K X.mg X.base C "token" 1 ["self"] (spToken C T)) (hr : Room 1 X.A) (hs : σ[0]? = some (some (.ref E.p))) (hp : PT C T E M (t :: ts))
    (hy : ∀ a dx tk, M a = some (.ins T dx (tokF tk)) → tk.text = t → tk.form = formT t → Q (.ref a) M)
    (hN : X.N[0]? = some ("self" : Str) := by rfl) (hv : Vis X.env.scope "self" := by first | exact Or.inl rfl | exact Or.inr (Or.inl rfl) | exact Or.inr (Or.inr rfl))
    (ht : eval (.Call (.Attribute (.Name "self" p1) "token" ap) [] [] pos) X.env = (do
      let ov ← eval (.Name "self" p1) X.env
      standAt ap.atName
      let (f, first) ← holding [ov] (getMethod ov "token" pl)
      callWith pos f first (backTo pos (starEach [] X.env)) (backToKw pos (keywordEach [] X.env))) := by rfl) :
    ES X (.Call (.Attribute (.Name "self" p1) "token" ap) [] [] pos) σ M Q := by
  obtain ⟨n, eo, hd⟩ := hp.ob
  exact e_meth0 cp.cl F hr (e_var 0 hs ⟨E.p, E.dx, _, rfl, eo, pf_no (by decide +kernel) (by decide +kernel), E, t, ts, rfl, hp, hy⟩ hN hv) ht
/-- self.parse_steps(e) -/
theorem e_steps {v : Str} {ss : List D} {rr : List Str} {k : Nat} (cp : PCls X.K C) (F : CalleeM X.prog X.w X.K X.mg X.base C "parse_steps" k ["self", "name"] (spSteps C T)) (hr : Room k X.A) (hs : σ[0]? = some (some (.ref E.p)))
    (he : ES X e σ M fun d M1 => d = .str v ∧ Pk v ss ∧ FolS rr ∧ PT C T E M1 (stsW ss ++ rr) ∧ ∀ M', PT C T E M' rr → Keep E.p M1 M' → Q (plcD v ss) M') (eo : ∃ dx fs, M E.p = some (.ins C dx fs) ∧ fs.lookup ("parse_steps" : Str) = none)
    (hN : X.N[0]? = some ("self" : Str) := by rfl) (hv : Vis X.env.scope "self" := by first | exact Or.inl rfl | exact Or.inr (Or.inl rfl) | exact Or.inr (Or.inr rfl))
    (hst : starEach [e] X.env = (false, eval e X.env) :: starEach [] X.env := by rfl) (hpl : (backTo pos (starEach [] X.env)).any (·.1) = false := by rfl)
    (ht : eval (.Call (.Attribute (.Name "self" p1) "parse_steps" ap) [e] [] pos) X.env = (do
      let ov ← eval (.Name "self" p1) X.env
      standAt ap.atName
      let (f, first) ← holding [ov] (getMethod ov "parse_steps" pl)
      callWith pos f first (backTo pos (starEach [e] X.env)) (backToKw pos (keywordEach [] X.env))) := by rfl) :
    ES X (.Call (.Attribute (.Name "self" p1) "parse_steps" ap) [e] [] pos) σ M Q := by
  obtain ⟨dx, fs, eo, hl⟩ := eo
  refine e_meth cp.cl F hr (e_var 0 hs ⟨E.p, dx, fs, rfl, eo, hl, a_cons (he.imp fun d M1 ⟨e1, h1, h2, h3, h4⟩ => ?_) hst⟩ hN hv) hst hpl ht
  subst e1
  exact a_nil ⟨E, v, ss, rr, rfl, h1, h2, h3, h4⟩
end
theorem PT.slf {C T : Addr} {E : Pr} {M : Mp} {ts : List Str} (h : PT C T E M ts) {m : Str} (h1 : (m == "tokens") = false) (h2 : (m == "at") = false) : ∃ dx fs, M E.p = some (.ins C dx fs) ∧ fs.lookup m = none := by
  obtain ⟨n, e, _⟩ := h.ob
  exact ⟨_, _, e, pf_no h1 h2⟩
section
variable {X : Cx} {C T : Addr} {E : Pr} {σ : Sd} {M M0 : Mp} {Q : QD} {En : DE} {t x l : Str} {ts : List Str} {e ie : Expr} {p1 ap pos lp ep cpos apos p2 p3 : Pos} {j : Nat} {pl : Sem Bool}
theorem s_repF {α : Type} {q : Addr} {wd : Str} (kwd : isKw wd = true) (i : Nat) (raw : α → List Str) (dv : α → D) (close : Str) (rr : List Str) (done rem : List α) (cp : PCls X.K C) (F : CalleeM X.prog X.w X.K X.mg X.base C "takes" 3 ["self", "text"] (spTakes C T)) (hr : Room 3 X.A) (hs : σ[0]? = some (some (.ref E.p))) (hq : σ[i]? = some (some (.ref q)))
    (hcl : close ≠ wd) (f0 : M0 q = none) (hlt : E.lt ≠ q) (hqp : q ≠ E.p) (K0 : Keep E.p M0 M) (ea : M q = some (.lst (done.map dv))) (hp : PT C T E M (kwL wd (rem.map raw) ++ close :: rr)) (hln : done.length + rem.length < 1000000)
    (item : ∀ a, a ∈ rem → ∀ M1 ts (Q : QD), (∃ c r, ts = c :: r ∧ (c = wd ∨ c = close)) → PT C T E M1 (raw a ++ ts) → (∀ M', PT C T E M' ts → Keep E.p M1 M' → Q (dv a) M') → ES X ie σ M1 Q)
    (nx : ∀ M', M' q = some (.lst ((done ++ rem).map dv)) → PT C T E M' (close :: rr) → Keep E.p M0 M' → En.nx σ M')
    (hpo : PassesOwn (model X.prog X.w) X.A X.env X.xe)
    (hN : X.N[0]? = some ("self" : Str) := by rfl) (hv : Vis X.env.scope "self" := by first | exact Or.inl rfl | exact Or.inr (Or.inl rfl) | exact Or.inr (Or.inr rfl))
    (hst : starEach [.Constant (.str wd) j p2] X.env = (false, eval (.Constant (.str wd) j p2) X.env) :: starEach [] X.env := by rfl) (hpl : (backTo pos (starEach [] X.env)).any (·.1) = false := by rfl)
    (ht : eval (.Call (.Attribute (.Name "self" p1) "takes" ap) [.Constant (.str wd) j p2] [] pos) X.env = (do
      let ov ← eval (.Name "self" p1) X.env
      standAt ap.atName
      let (f, first) ← holding [ov] (getMethod ov "takes" pl)
      callWith pos f first (backTo pos (starEach [.Constant (.str wd) j p2] X.env)) (backToKw pos (keywordEach [] X.env))) := by rfl)
    (htr : ∀ whole, isTrue (.Call (.Attribute (.Name "self" p1) "takes" ap) [.Constant (.str wd) j p2] [] pos) X.env whole = (do let v ← whole; standAt (Expr.Call (.Attribute (.Name "self" p1) "takes" ap) [.Constant (.str wd) j p2] [] pos).pos; holding [v] (truthy v)) := by intro _; rfl)
    (hN2 : X.N[i]? = some l := by rfl) (hv2 : Vis X.env.scope l := by first | exact Or.inl rfl | exact Or.inr (Or.inl rfl) | exact Or.inr (Or.inr rfl)) (hd1 : (l == ("__debug__" : Str)) = false := by decide) (hd2 : (l == ("__classdict__" : Str)) = false := by decide)
    (hbase : attributeBase (.Name l lp) "append" X.env (eval (.Name l lp) X.env) = eval (.Name l lp) X.env := by rfl)
    (hfew : ((backTo cpos (starEach [ie] X.env)).all (fun x => !x.1) && (backToKw cpos (keywordEach [] X.env)).all (fun x => x.1.isSome)
      && decide (([ie] : List Expr).length + ([] : List Keyword).length + (if ([] : List Keyword).isEmpty then 0 else 1) < 30)) = true := by rfl)
    (hline : (apos.endLine == cpos.line) = true := by rfl) (hst2 : starEach [ie] X.env = (false, eval ie X.env) :: starEach [] X.env := by rfl) (hplain : (backTo cpos (starEach [] X.env)).any (·.1) = false := by rfl)
    (hsw : swapsWith (.Call (.Attribute (.Name l lp) "append" apos) [ie] [] cpos) none ep.line X.env = pure false := by rfl) :
    SS X (.While (.Call (.Attribute (.Name "self" p1) "takes" ap) [.Constant (.str wd) j p2] [] pos) [.Expr (.Call (.Attribute (.Name l lp) "append" apos) [ie] [] cpos) ep] [] p3) σ M En := by
  refine s_while (fun m σ' M' => σ' = σ ∧ ∃ d2 r2, done ++ rem = d2 ++ r2 ∧ (∀ a ∈ r2, a ∈ rem) ∧ m = r2.length ∧ M' q = some (.lst (d2.map dv)) ∧ PT C T E M' (kwL wd (r2.map raw) ++ close :: rr) ∧ Keep E.p M0 M') rem.length ⟨rfl, done, rem, rfl, fun _ h => h, rfl, ea, hp, K0⟩ hpo ?_
  rintro m σ' M1 ⟨rfl, d2, r2, e2, sub, rfl, ea1, hp1, k1⟩
  have hl2 : d2.length + r2.length < 1000000 := by
    have := congrArg List.length e2
    rw [List.length_append, List.length_append] at this
    omega
  cases r2 with
  | nil =>
    have hp1 : PT C T E M1 (close :: rr) := hp1
    refine t_takes cp F hr hs hp1 kwd (e_str ⟨rfl, rfl⟩) (fun h => absurd h hcl) (fun _ => BQ.f ?_) hN hv hst hpl ht htr
    rw [List.append_nil] at e2
    exact nx M1 (by rw [e2]; exact ea1) hp1 k1
  | cons a r2 =>
    rw [List.map_cons, kwL_cons, List.cons_append, List.append_assoc] at hp1
    refine t_takes cp F hr hs hp1 kwd (e_str ⟨rfl, rfl⟩) (fun _ M2 hp2 k2 => BQ.t ?_) (fun h => absurd rfl h) hN hv hst hpl ht htr
    have ea2 := k2.at hqp ea1
    have hne : ∃ c r, kwL wd (r2.map raw) ++ close :: rr = c :: r ∧ (c = wd ∨ c = close) := by
      cases r2 with
      | nil => exact ⟨close, rr, rfl, .inr rfl⟩
      | cons b r2 => exact ⟨wd, _, rfl, .inl rfl⟩
    refine ss_one (s_append (l := l) i ea2 hq (item a (sub a List.mem_cons_self) M2 _ _ hne hp2 fun M3 hp3 k3 => ?_) hN2 hv2 hd1 hd2 hbase hfew hline hst2 hplain hsw)
    have ea3 := k3.at hqp ea2
    refine ⟨_, ea3, szMlt (by rw [List.length_map]; have : (a :: r2).length = r2.length + 1 := rfl; omega), fun M4 e4 k4 => ?_⟩
    refine ⟨r2.length, by simp, rfl, d2 ++ [a], r2, by rw [e2]; simp, fun b hb => sub b (List.mem_cons_of_mem _ hb), rfl, by rw [e4]; simp, hp3.setQ k4 ea3 hlt, ?_⟩
    exact ((k1.trans k2).trans k3).setN' f0 k4
end
structure Cons2 (K : PySem.W.Frag) (mg : Str → Option Value) : Prop where
  least : ConI mg "LEAST" (-2147483648)
  most : ConI mg "MOST" 2147483647
  ops : ConT K mg "OPERATIONS" (.tup (opW.map D.str))
theorem esh_no {n : Nat} {t : Str} {ts : List Str} {d : D} (h : ESh n t ts d) {x : Str} (hx : x ∈ ([")", "}", ",", ";", "]", "else", "with", "{"] : List Str)) : t ≠ x := by
  have kx : isKw x = true := (show ∀ x ∈ ([")", "}", ",", ";", "]", "else", "with", "{"] : List Str), isKw x = true by decide +kernel) x hx
  have no : ∀ y : Str, y ∉ ([")", "}", ",", ";", "]", "else", "with", "{"] : List Str) → y ≠ x := fun y hy e => hy (e ▸ hx)
  cases h with
  | num hi h0 =>
    rename_i i
    intro e
    have h1 := (num_ok (n := i.toNat) (by unfold intOk at hi; omega)).form
    rw [e] at h1
    rcases kw_form kx with h2 | h2 <;> rw [h1] at h2 <;> exact absurd h2 (by decide +kernel)
  | neg _ _ => exact no _ (by decide +kernel)
  | rcd hb _ => exact big_kw hb kx
  | nam hn _ => exact nm_kw hn kx
  | par _ => exact no _ (by decide +kernel)
  | bor _ => exact no _ (by decide +kernel)
  | wrd hw =>
    cases hw with
    | bool b => cases b <;> exact no _ (by decide +kernel)
    | un hw _ => exact no _ ((show ∀ w ∈ unW, w ∉ ([")", "}", ",", ";", "]", "else", "with", "{"] : List Str) by decide +kernel) _ hw)
    | _ => exact no _ (by decide +kernel)
section
variable {P : Program} {w : World} {K : PySem.W.Frag} {mg : Str → Option Value} {base : Heap} {f : Addr} {fd : FuncData} {C T : Addr}
theorem ok_psteps (cp : PCls K C) (cT : TCls K T) (F : Fun K "parse_steps" "Parser.parse_steps" st_Parser_parse_steps f fd) (b : Binds K fd ["self", "name"] []) (Mm : Meth K C "parse_steps" f) (m_tuple : mg "tuple" = none) (m_int : mg "int" = none)
    (C_token : CalleeM P w K mg base C "token" 1 ["self"] (spToken C T)) (C_takes : CalleeM P w K mg base C "takes" 3 ["self", "text"] (spTakes C T)) (C_form : CalleeM P w K mg base C "take_form" 2 ["self", "form"] (spForm C T)) :
    CalleeM P w K mg base C "parse_steps" 4 ["self", "name"] (spSteps C T) := by
  refine ⟨f, fd, fn3 F scope_Parser_parse_steps (fun ds M Q ⟨_, _, _, _, e, _⟩ => by rw [e]; rfl) (fun cdv A outer sh H E' hr ds M Q ⟨E, v, ss, rr, e, hpk, hfo, hp, q⟩ => ?_), Mm, b⟩
  subst e
  have h3 : Room 3 _ := hr.mono (by omega)
  refine ss_cons (s_asg 2 scope_Parser_parse_steps.nd (e_lst (a_nil ⟨by show 0 ≤ sizeLine; decide, fun qa M1 f1 e1 l1 => ?_⟩)))
  obtain ⟨o1, o2⟩ := hp.out f1
  have hl13 := hpk.l13
  refine ss_one (s_while (fun m σ' M' => σ' = [some (.ref E.p), some (.str v), some (.ref qa)] ∧ ∃ d2 r2, ss = d2 ++ r2 ∧ m = r2.length ∧ M' qa = some (.lst d2) ∧ PT C T E M' (stsW r2 ++ rr) ∧ Keep E.p M M') ss.length ⟨rfl, [], ss, rfl, rfl, e1, hp.le l1, l1.keep⟩ PassesOwn.never ?_)
  rintro m σ' M2 ⟨rfl, d2, r2, e2, rfl, ea, hp2, k2⟩
  refine t_truth (e_bl (BQ.t ?_))
  have hdl : d2.length ≤ 13 := by
    have := congrArg List.length e2
    rw [List.length_append] at this
    omega
  cases r2 with
  | nil =>
    obtain ⟨c, r, ec, hc⟩ := hfo
    have hp2 : PT C T E M2 rr := hp2
    rw [ec] at hp2
    have hno : ∀ x ∈ ([".", "?", "^"] : List Str), c ≠ x := fun x hx e => hc (e ▸ hx)
    refine ss_one (s_if (t_takes cp C_takes h3 rfl hp2 (by decide +kernel) (e_str ⟨rfl, rfl⟩) (fun h => absurd h (hno _ (by decide +kernel))) fun _ => BQ.f ?_))
    refine ss_one (s_if (t_takes cp C_takes h3 rfl hp2 (by decide +kernel) (e_str ⟨rfl, rfl⟩) (fun h => absurd h (hno _ (by decide +kernel))) fun _ => BQ.f ?_))
    refine ss_one (s_if (t_takes cp C_takes h3 rfl hp2 (by decide +kernel) (e_str ⟨rfl, rfl⟩) (fun h => absurd h (hno _ (by decide +kernel))) fun _ => BQ.f ?_))
    rw [List.append_nil] at e2
    refine ss_one (s_ret (e_tup (a_cons (e_var 1 rfl (a_cons (e_tuplec m_tuple (a_cons (e_var 2 rfl (a_nil ⟨_, ea, a_nil ⟨by show 2 ≤ sizeLine; decide, Wk.here ?_⟩⟩)))))))))
    rw [← e2]
    exact q M2 (by rw [ec]; exact hp2) k2
  | cons s r2 =>
    have hs := hpk.st s (by rw [e2]; simp)
    have fin : ∀ M3 M4, M3 qa = some (.lst d2) → PT C T E M3 (stsW r2 ++ rr) → Keep E.p M M3 → M4 qa = some (.lst (d2 ++ [s])) → Keep qa M3 M4 → ∃ m', m' < (s :: r2).length ∧ ([some (.ref E.p), some (.str v), some (.ref qa)] : Sd) = [some (.ref E.p), some (.str v), some (.ref qa)] ∧ ∃ d2 r2, ss = d2 ++ r2 ∧ m' = r2.length ∧ M4 qa = some (.lst d2) ∧ PT C T E M4 (stsW r2 ++ rr) ∧ Keep E.p M M4 :=
      fun M3 M4 e3 hp3 k3 e4 k4 => ⟨r2.length, by simp, rfl, d2 ++ [s], r2, by rw [e2]; simp, rfl, e4, hp3.setQ k4 e3 o1, k3.setN' f1 k4⟩
    have est : stsW (s :: r2) ++ rr = stW s ++ (stsW r2 ++ rr) := by unfold stsW; rw [List.map_cons, List.flatten_cons, List.append_assoc]
    rw [est] at hp2
    rcases hs with rfl | rfl | ⟨x, hx, rfl⟩ | ⟨i, hi, rfl⟩
    · have hp2 : PT C T E M2 (("?" : Str) :: (stsW r2 ++ rr)) := by simpa only [stW, true_or, if_true, List.cons_append, List.nil_append] using hp2
      refine ss_one (s_if (t_takes cp C_takes h3 rfl hp2 (by decide +kernel) (e_str ⟨rfl, rfl⟩) (fun h => absurd h (by decide +kernel)) fun _ => BQ.f ?_))
      refine ss_one (s_if (t_takes cp C_takes h3 rfl hp2 (by decide +kernel) (e_str ⟨rfl, rfl⟩) (fun _ M3 hp3 k3 => BQ.t ?_) fun h => absurd rfl h))
      exact ss_one (s_append 2 (k3.at o2 ea) rfl (e_str ⟨_, k3.at o2 ea, szlt (by omega), fun M4 e4 k4 => fin M3 M4 (k3.at o2 ea) hp3 (k2.trans k3) e4 k4⟩))
    · have hp2 : PT C T E M2 (("^" : Str) :: (stsW r2 ++ rr)) := by simpa only [stW, or_true, if_true, List.cons_append, List.nil_append] using hp2
      refine ss_one (s_if (t_takes cp C_takes h3 rfl hp2 (by decide +kernel) (e_str ⟨rfl, rfl⟩) (fun h => absurd h (by decide +kernel)) fun _ => BQ.f ?_))
      refine ss_one (s_if (t_takes cp C_takes h3 rfl hp2 (by decide +kernel) (e_str ⟨rfl, rfl⟩) (fun h => absurd h (by decide +kernel)) fun _ => BQ.f ?_))
      refine ss_one (s_if (t_takes cp C_takes h3 rfl hp2 (by decide +kernel) (e_str ⟨rfl, rfl⟩) (fun _ M3 hp3 k3 => BQ.t ?_) fun h => absurd rfl h))
      exact ss_one (s_append 2 (k3.at o2 ea) rfl (e_str ⟨_, k3.at o2 ea, szlt (by omega), fun M4 e4 k4 => fin M3 M4 (k3.at o2 ea) hp3 (k2.trans k3) e4 k4⟩))
    · have hq : ¬ (x = "?" ∨ x = "^") := fun h => by
        rcases h with rfl | rfl
        · exact nm_kw hx (t := "?") (by decide +kernel) rfl
        · exact nm_kw hx (t := "^") (by decide +kernel) rfl
      have hp2 : PT C T E M2 (("." : Str) :: x :: (stsW r2 ++ rr)) := by simpa only [stW, if_neg hq, List.cons_append, List.nil_append] using hp2
      refine ss_one (s_if (t_takes cp C_takes h3 rfl hp2 (by decide +kernel) (e_str ⟨rfl, rfl⟩) (fun _ M3 hp3 k3 => BQ.t ?_) fun h => absurd rfl h))
      refine ss_one (s_if (t_eq ⟨_, hr⟩ (e_fld (e_token cp C_token (hr.mono (by omega)) rfl hp3 fun a dx tk ea' ht hf => ⟨T, dx, _, _, ea', cT.cl, cT.n1, fl_form, e_str ⟨trivial, ?_⟩⟩))))
      rw [eqv_str, hf, (nm_form hx).1]
      refine ⟨fun h => absurd h (by decide +kernel), fun _ => ?_⟩
      have ea3 := k3.at o2 ea
      exact ss_one (s_append 2 ea3 rfl (e_form cp C_form (hr.mono (by omega)) rfl hp3 (nm_form hx).1 fun M4 hp4 k4 => ⟨_, k4.at o2 ea3, szlt (by omega), fun M5 e5 k5 => fin M4 M5 (k4.at o2 ea3) hp4 ((k2.trans k3).trans k4) e5 k5⟩))
    · have hn := num_ok hi
      have hp2 : PT C T E M2 (("." : Str) :: numS i :: (stsW r2 ++ rr)) := by simpa only [stW, Int.toNat_natCast, List.cons_append, List.nil_append] using hp2
      refine ss_one (s_if (t_takes cp C_takes h3 rfl hp2 (by decide +kernel) (e_str ⟨rfl, rfl⟩) (fun _ M3 hp3 k3 => BQ.t ?_) fun h => absurd rfl h))
      refine ss_one (s_if (t_eq ⟨_, hr⟩ (e_fld (e_token cp C_token (hr.mono (by omega)) rfl hp3 fun a dx tk ea' ht hf => ⟨T, dx, _, _, ea', cT.cl, cT.n1, fl_form, e_str ⟨trivial, ?_⟩⟩))))
      rw [eqv_str, hf, hn.form]
      refine ⟨fun _ => ?_, fun h => absurd h (by decide +kernel)⟩
      have ea3 := k3.at o2 ea
      have hln := hn.ln
      exact ss_one (s_append 2 ea3 rfl (e_intS m_int (a_cons (e_form cp C_form (hr.mono (by omega)) rfl hp3 hn.form fun M4 hp4 k4 => a_nil ⟨(i : Int), hn.rd, by omega, _, k4.at o2 ea3, szlt (by omega), fun M5 e5 k5 => fin M4 M5 (k4.at o2 ea3) hp4 ((k2.trans k3).trans k4) e5 k5⟩))))
theorem ok_pplace (cp : PCls K C) (F : Fun K "parse_place" "Parser.parse_place" st_Parser_parse_place f fd) (b : Binds K fd ["self"] []) (Mm : Meth K C "parse_place" f)
    (C_steps : CalleeM P w K mg base C "parse_steps" 4 ["self", "name"] (spSteps C T)) (C_form : CalleeM P w K mg base C "take_form" 2 ["self", "form"] (spForm C T)) :
    CalleeM P w K mg base C "parse_place" 5 ["self"] (spItemF C T FolS (fun x : Str × List D => Pk x.1 x.2) (fun x => plW x.1 x.2) (fun x => plcD x.1 x.2)) := by
  refine ⟨f, fd, fn3 F scope_Parser_parse_place (fun ds M Q ⟨_, _, _, e, _⟩ => by rw [e]; rfl) (fun cdv A outer sh H E' hr ds M Q ⟨E, ⟨v, ss⟩, rr, e, hpk, hfo, hp, q⟩ => ?_), Mm, b⟩
  subst e
  have hp : PT C T E M (v :: (stsW ss ++ rr)) := hp
  exact ss_one (s_ret (e_steps cp C_steps hr rfl (e_form cp C_form (hr.mono (by omega)) rfl hp (nm_form hpk.nm).1 fun M1 hp1 k1 => ⟨rfl, hpk, hfo, hp1, fun M2 hp2 k2 => Wk.here (q M2 hp2 (k1.trans k2))⟩) (hp.slf (by decide +kernel) (by decide +kernel))))
theorem ok_pinteger (cp : PCls K C) (c2 : Cons2 K mg) (F : Fun K "parse_integer" "Parser.parse_integer" st_Parser_parse_integer f fd) (b : Binds K fd ["self"] []) (Mm : Meth K C "parse_integer" f) (m_int : mg "int" = none)
    (C_token : CalleeM P w K mg base C "token" 1 ["self"] (spToken C T)) (C_takes : CalleeM P w K mg base C "takes" 3 ["self", "text"] (spTakes C T)) (C_form : CalleeM P w K mg base C "take_form" 2 ["self", "form"] (spForm C T)) :
    CalleeM P w K mg base C "parse_integer" 4 ["self"] (spItem C T intOk intRw D.int) := by
  refine ⟨f, fd, fn3 F scope_Parser_parse_integer (fun ds M Q ⟨_, _, _, e, _⟩ => by rw [e]; rfl) (fun cdv A outer sh H E' hr ds M Q ⟨E, i, rr, e, hi, hp, q⟩ => ?_), Mm, b⟩
  subst e
  obtain ⟨hi1, hi2⟩ := hi
  obtain ⟨t, ts, et⟩ : ∃ t ts, intRw i ++ rr = t :: ts := by
    unfold intRw
    by_cases h : 0 ≤ i
    · rw [if_pos h]; exact ⟨_, _, rfl⟩
    · rw [if_neg h]; exact ⟨_, _, rfl⟩
  have hp' := hp
  rw [et] at hp'
  refine ss_cons (s_asg 1 scope_Parser_parse_integer.nd (e_token cp C_token (hr.mono (by omega)) rfl hp' fun a dx tk ea ht hf => ?_))
  refine ss_cons (s_asg 2 scope_Parser_parse_integer.nd (e_int ?_))
  refine ss_cut (fun σ' M' => ∃ (sg : Int) (n : Nat), σ' = [some (.ref E.p), some (.ref a), some (.int sg), none] ∧ (sg = 1 ∨ sg = -1) ∧ i = sg * (n : Int) ∧ n < 10 ^ 10 ∧ PT C T E M' (numS n :: rr) ∧ Keep E.p M M') ?_ ?_
  · by_cases h : 0 ≤ i
    · have hp2 : PT C T E M (numS i.toNat :: rr) := by unfold intRw at hp; rw [if_pos h] at hp; exact hp
      have hn := num_ok (n := i.toNat) (by omega)
      exact s_if (t_takes cp C_takes (hr.mono (by omega)) rfl hp2 (by decide +kernel) (e_str ⟨rfl, rfl⟩) (fun h => absurd h hn.ne.2.1) fun _ => BQ.f (ss_nil ⟨1, i.toNat, rfl, .inl rfl, by omega, by omega, hp2, Keep.refl⟩))
    · have hp2 : PT C T E M (("-" : Str) :: numS (-i).toNat :: rr) := by unfold intRw at hp; rw [if_neg h] at hp; exact hp
      exact s_if (t_takes cp C_takes (hr.mono (by omega)) rfl hp2 (by decide +kernel) (e_str ⟨rfl, rfl⟩) (fun _ M2 hp3 k3 => BQ.t (ss_one (s_asg 2 scope_Parser_parse_integer.nd (v_neg (e_int ⟨-1, (-i).toNat, rfl, .inr rfl, by omega, by omega, hp3, k3⟩))))) fun h => absurd rfl h)
  rintro σ' M2 ⟨sg, n, rfl, hsg, hin, hn10, hp2, k2⟩
  have hn := num_ok hn10
  have hln := hn.ln
  refine ss_cons (s_asg 3 scope_Parser_parse_integer.nd (e_mul (e_var 2 rfl (e_intS m_int (a_cons (e_form cp C_form (hr.mono (by omega)) rfl hp2 hn.form fun M3 hp3 k3 => a_nil ⟨(n : Int), hn.rd, by omega, .inl (by omega), ?_⟩))))))
  dsimp only
  rw [← hin]
  refine ss_if (t_w (w_or (t_lt (e_var 3 rfl (e_conI c2.least ?_)))))
  refine ⟨fun h => absurd (of_decide_eq_true h) (by omega), fun _ => w_or1 (t_gt (e_var 3 rfl (e_conI c2.most ?_)))⟩
  refine ⟨fun h => absurd (of_decide_eq_true h) (by omega), fun _ => ?_⟩
  exact ss_one (s_ret (e_var 3 rfl (Wk.here (q M3 hp3 (k2.trans k3)))))
theorem ok_pargs (cp : PCls K C) (F : Fun K "parse_arguments" "Parser.parse_arguments" st_Parser_parse_arguments f fd) (b : Binds K fd ["self"] []) (Mm : Meth K C "parse_arguments" f) (m_tuple : mg "tuple" = none)
    (C_takes : CalleeM P w K mg base C "takes" 3 ["self", "text"] (spTakes C T)) (C_expect : CalleeM P w K mg base C "expect" 4 ["self", "text"] (spExpect C T)) (n k : Nat) (hk : 4 ≤ k) (C_expr : CalleeM P w K mg base C "parse_expression" k ["self"] (spItemF C T Fol (EOk n) Ex.raw Ex.d)) :
    CalleeM P w K mg base C "parse_arguments" (k + 1) ["self"] (spItem C T (okL n) (fun l => sepL (l.map Ex.raw) ++ [(")" : Str)]) (fun l => .tup (l.map Ex.d))) := by
  refine ⟨f, fd, fn3 F scope_Parser_parse_arguments (fun ds M Q ⟨_, _, _, e, _⟩ => by rw [e]; rfl) (fun cdv A outer sh H E' hr ds M Q ⟨E, l, rr, e, ⟨hl6, hl⟩, hp, q⟩ => ?_), Mm, b⟩
  subst e
  match l, hl6 with
  | [], _ =>
    have hp : PT C T E M ((")" : Str) :: rr) := hp
    exact ss_if (t_takes cp C_takes (hr.mono (by omega)) rfl hp (by decide +kernel) (e_str ⟨rfl, rfl⟩) (fun _ M2 hp2 k2 => BQ.t (ss_one (s_ret (e_tup (a_nil ⟨by show 0 ≤ sizeLine; decide, Wk.here (q M2 hp2 k2)⟩))))) fun h => absurd rfl h)
  | e1 :: r, hl6 =>
    have h1 := hl e1 (by simp)
    simp only [List.length_cons] at hl6
    simp only [List.map_cons, sepL_com, List.append_assoc, List.cons_append, List.nil_append] at hp
    obtain ⟨m, rfl⟩ := eok_pos h1
    obtain ⟨t, ts, er, sh'⟩ := esh h1
    have hp' := hp
    rw [er, List.cons_append] at hp'
    have hne : t ≠ ")" := esh_no sh' (by decide +kernel)
    refine ss_if (t_takes cp C_takes (hr.mono (by omega)) rfl hp' (by decide +kernel) (e_str ⟨rfl, rfl⟩) (fun h => absurd h hne) fun _ => BQ.f ?_)
    have hfo : Fol (comL (r.map Ex.raw) ++ ((")" : Str) :: rr)) := by
      cases r with
      | nil => exact fol_of (by decide +kernel)
      | cons b r => exact fol_of (c := ",") (by decide +kernel)
    refine ss_cons (s_asg 1 scope_Parser_parse_arguments.nd (e_lst (a_cons (e_itemF cp C_expr hr rfl h1 hfo hp fun M3 hp3 k3 => a_nil ⟨by show 1 ≤ sizeLine; decide, fun qa M4 f4 e4 l4 => ?_⟩))))
    obtain ⟨o1, o2⟩ := hp3.out f4
    refine ss_cons (s_repF (by decide +kernel) 1 Ex.raw Ex.d ")" rr [e1] r cp C_takes (hr.mono (by omega)) rfl rfl (by decide +kernel) f4 o1 o2 l4.keep e4 (hp3.le l4) (by simp only [List.length_cons, List.length_nil]; omega) (fun a ha M8 ts8 Q8 hne8 hp8 hq8 => e_itemF cp C_expr hr rfl (hl a (by simp [ha])) (by obtain ⟨c, r, ec, hc⟩ := hne8; rw [ec]; rcases hc with rfl | rfl <;> exact fol_of (by decide +kernel)) hp8 hq8) (fun M8 e8 hp8 k8 => ?_) PassesOwn.never)
    refine ss_cons (s_expect cp C_expect (hr.mono (by omega)) rfl hp8 (by decide +kernel) fun M9 hp9 k9 => ?_)
    exact ss_one (s_ret (e_tuplec m_tuple (a_cons (e_var 1 rfl (a_nil ⟨_, k9.at o2 e8, Wk.here (q M9 hp9 ((k3.trans k8).trans k9))⟩)))))
end
end My
set_option maxHeartbeats 4000000
namespace My
open PySem L2 DL
/-! ### the kinds of expressions, told by their first token -/
theorem sign_form {t : Str} (h : isKw t = true) : formT t ≠ "number" ∧ formT t ≠ "record" ∧ formT t ≠ "name" := by
  rcases kw_form h with e | e <;> rw [e] <;> decide +kernel
theorem wsh_kw {n : Nat} {t : Str} {ts : List Str} {d : D} (h : WSh n t ts d) : t ∈ (["true", "false", "unit", "none", "swap", "some", "box", "unbox", "not"] : List Str) := by
  cases h with
  | bool b => cases b <;> decide +kernel
  | un hw _ => exact (show ∀ w ∈ unW, w ∈ (["true", "false", "unit", "none", "swap", "some", "box", "unbox", "not"] : List Str) by decide +kernel) _ hw
  | _ => decide +kernel
theorem wsh_cls {n : Nat} {t : Str} {ts : List Str} {d : D} (h : WSh n t ts d) :
    (∃ b : Bool, t = (if b then ("true" : Str) else ("false" : Str)) ∧ ts = [] ∧ d = .tup [.str "bool", .bl b]) ∨ (t = "unit" ∧ ts = [] ∧ d = .tup [.str "unit"]) ∨
    (t = "none" ∧ ∃ k, Tk 3 k ∧ ts = ("[" : Str) :: (k.raw ++ [("]" : Str)]) ∧ d = .tup [.str "none", k.d]) ∨
    (t = "swap" ∧ ∃ v ss e, Pk v ss ∧ EOk n e ∧ ts = plW v ss ++ (("with" : Str) :: e.raw) ∧ d = .tup [.str "swap", plcD v ss, e.d]) ∨
    (t ∈ unW ∧ ∃ e, EOk n e ∧ ts = e.raw ∧ d = .tup [.str t, e.d]) := by
  cases h with
  | bool b => exact .inl ⟨b, rfl, rfl, rfl⟩
  | unit => exact .inr (.inl ⟨rfl, rfl, rfl⟩)
  | none hk => exact .inr (.inr (.inl ⟨rfl, _, hk, rfl, rfl⟩))
  | swap hp he => exact .inr (.inr (.inr (.inl ⟨rfl, _, _, _, hp, he, rfl, rfl⟩)))
  | un hw he => exact .inr (.inr (.inr (.inr ⟨hw, _, he, rfl, rfl⟩)))
theorem esh_cls {n : Nat} {t : Str} {ts : List Str} {d : D} (h : ESh n t ts d) :
    ((formT t = "number" ∨ t = "-") ∧ (t = "-" → formT t ≠ "number") ∧ ∃ i, intOk i ∧ t :: ts = intRw i ∧ d = .tup [.str "int", .int i]) ∨
    (formT t ≠ "number" ∧ t ≠ "-" ∧ ((formT t = "record" ∧ ∃ l : List Ex, okL n l ∧ ts = parW (l.map Ex.raw) ∧ d = .tup [.str "record", .str t, .tup (l.map Ex.d)]) ∨
      (formT t ≠ "record" ∧ ((formT t = "name" ∧ Nm t ∧ NSh n t ts d) ∨
        (formT t ≠ "name" ∧ ((t = "(" ∧ GSh n ts d) ∨ (t ≠ "(" ∧ ((t = "&" ∧ ∃ (m : Bool) (v : Str) (ss : List D), Pk v ss ∧ ts = (if m then (["mut"] : List Str) else []) ++ plW v ss ∧ d = .tup [.str "borrow", .str (borS m), plcD v ss]) ∨
          (t ≠ "&" ∧ WSh n t ts d))))))))) := by
  cases h with
  | num hi h0 =>
    rename_i i
    have hn := num_ok (n := i.toNat) (by unfold intOk at hi; omega)
    exact .inl ⟨.inl hn.form, fun h => absurd h hn.ne.2.1, i, hi, by unfold intRw; rw [if_pos h0], rfl⟩
  | neg hi h0 => exact .inl ⟨.inr rfl, fun _ => by decide +kernel, _, hi, by unfold intRw; rw [if_neg (by omega)], rfl⟩
  | rcd hb hl =>
    have hf := (big_form hb).1
    exact .inr ⟨by rw [hf]; decide +kernel, big_kw hb (by decide +kernel), .inl ⟨hf, _, hl, rfl, rfl⟩⟩
  | nam hn hs =>
    have hf := (nm_form hn).1
    exact .inr ⟨by rw [hf]; decide +kernel, nm_kw hn (by decide +kernel), .inr ⟨by rw [hf]; decide +kernel, .inl ⟨hf, hn, hs⟩⟩⟩
  | par hg =>
    have hf := sign_form (t := "(") (by decide +kernel)
    exact .inr ⟨hf.1, by decide +kernel, .inr ⟨hf.2.1, .inr ⟨hf.2.2, .inl ⟨rfl, hg⟩⟩⟩⟩
  | bor hp =>
    have hf := sign_form (t := "&") (by decide +kernel)
    exact .inr ⟨hf.1, by decide +kernel, .inr ⟨hf.2.1, .inr ⟨hf.2.2, .inr ⟨by decide +kernel, .inl ⟨rfl, _, _, _, hp, rfl, rfl⟩⟩⟩⟩⟩
  | wrd hw =>
    have hm := wsh_kw hw
    have hk := (show ∀ w ∈ (["true", "false", "unit", "none", "swap", "some", "box", "unbox", "not"] : List Str), isKw w = true ∧ w ≠ "-" ∧ w ≠ "(" ∧ w ≠ "&" by decide +kernel) _ hm
    have hf := sign_form hk.1
    exact .inr ⟨hf.1, hk.2.1, .inr ⟨hf.2.1, .inr ⟨hf.2.2, .inr ⟨hk.2.2.1, .inr ⟨hk.2.2.2, hw⟩⟩⟩⟩⟩
theorem sts_hd {v : Str} {ss : List D} {rr : List Str} (hp : Pk v ss) (hf : Fol rr) : ∃ c r, stsW ss ++ rr = c :: r ∧ c ≠ "(" := by
  match ss, hp.st with
  | [], _ =>
    obtain ⟨c, r, e, hc⟩ := hf
    exact ⟨c, r, e, fun h => hc (by rw [h]; decide +kernel)⟩
  | s :: r, hs =>
    have e : stsW (s :: r) ++ rr = stW s ++ (stsW r ++ rr) := by unfold stsW; rw [List.map_cons, List.flatten_cons, List.append_assoc]
    rw [e]
    rcases hs s (by simp) with rfl | rfl | ⟨x, hx, rfl⟩ | ⟨i, hi, rfl⟩
    · exact ⟨"?", stsW r ++ rr, by simp only [stW, true_or, if_true]; rfl, by decide +kernel⟩
    · exact ⟨"^", stsW r ++ rr, by simp only [stW, or_true, if_true]; rfl, by decide +kernel⟩
    · have hq : ¬ (x = "?" ∨ x = "^") := fun h => by
        rcases h with rfl | rfl
        · exact nm_kw hx (t := "?") (by decide +kernel) rfl
        · exact nm_kw hx (t := "^") (by decide +kernel) rfl
      exact ⟨".", _, by simp only [stW, if_neg hq, List.cons_append]; rfl, by decide +kernel⟩
    · exact ⟨".", _, by simp only [stW, List.cons_append]; rfl, by decide +kernel⟩
/-- a name and what follows it; what follows "(" ; a word and what follows it -/
abbrev Pc := Str × List Str × D
def pcR (a : Pc) : List Str := a.1 :: a.2.1
def pcD (a : Pc) : D := a.2.2
section
variable {P : Program} {w : World} {K : PySem.W.Frag} {mg : Str → Option Value} {base : Heap} {f : Addr} {fd : FuncData} {C T : Addr}
theorem ok_pnamed (cp : PCls K C) (F : Fun K "parse_named" "Parser.parse_named" st_Parser_parse_named f fd) (b : Binds K fd ["self"] []) (Mm : Meth K C "parse_named" f)
    (C_takes : CalleeM P w K mg base C "takes" 3 ["self", "text"] (spTakes C T)) (C_expect : CalleeM P w K mg base C "expect" 4 ["self", "text"] (spExpect C T)) (C_form : CalleeM P w K mg base C "take_form" 2 ["self", "form"] (spForm C T))
    (C_steps : CalleeM P w K mg base C "parse_steps" 4 ["self", "name"] (spSteps C T)) (n k : Nat) (hk : 4 ≤ k) (C_args : CalleeM P w K mg base C "parse_arguments" k ["self"] (spItem C T (okL n) (fun l => sepL (l.map Ex.raw) ++ [(")" : Str)]) (fun l => .tup (l.map Ex.d)))) :
    CalleeM P w K mg base C "parse_named" (k + 1) ["self"] (spItemF C T Fol (fun a : Pc => Nm a.1 ∧ NSh n a.1 a.2.1 a.2.2) pcR pcD) := by
  refine ⟨f, fd, fn3 F scope_Parser_parse_named (fun ds M Q ⟨_, _, _, e, _⟩ => by rw [e]; rfl) (fun cdv A outer sh H E' hr ds M Q ⟨E, ⟨x, ts, d⟩, rr, e, ⟨hx, hs⟩, hfo, hp, q⟩ => ?_), Mm, b⟩
  subst e
  have h3 : Room 3 _ := hr.mono (by omega)
  have h4 : Room 4 _ := hr.mono (by omega)
  dsimp only at hx hs
  have hp : PT C T E M (x :: (ts ++ rr)) := hp
  replace q : ∀ M', PT C T E M' rr → Keep E.p M M' → Q d M' := q
  refine ss_cons (s_asg 1 scope_Parser_parse_named.nd (e_form cp C_form (hr.mono (by omega)) rfl hp (nm_form hx).1 fun M1 hp1 k1 => ?_))
  cases hs with
  | @call l hl =>
    have hp1 : PT C T E M1 (("(" : Str) :: ((sepL (l.map Ex.raw) ++ [(")" : Str)]) ++ rr)) := hp1
    refine ss_if (t_takes cp C_takes h3 rfl hp1 (by decide +kernel) (e_str ⟨rfl, rfl⟩) (fun _ M2 hp2 k2 => BQ.t ?_) fun h => absurd rfl h)
    exact ss_one (s_ret (e_tup (a_cons (e_str (a_cons (e_var 1 rfl (a_cons (e_item cp C_args hr rfl hl hp2 fun M3 hp3 k3 => a_nil ⟨by show 3 ≤ sizeLine; decide, Wk.here (q M3 hp3 ((k1.trans k2).trans k3))⟩))))))))
  | @use ss hpk =>
    obtain ⟨c, r, ec, hc⟩ := sts_hd hpk hfo
    have hp1' := hp1
    rw [ec] at hp1'
    refine ss_if (t_takes cp C_takes h3 rfl hp1' (by decide +kernel) (e_str ⟨rfl, rfl⟩) (fun h => absurd h hc) fun _ => BQ.f ?_)
    refine ss_cons (s_asg 2 scope_Parser_parse_named.nd (e_steps cp C_steps h4 rfl (e_var 1 rfl ⟨rfl, hpk, hfo.s, hp1, fun M2 hp2 k2 => ?_⟩) (hp1.slf (by decide +kernel) (by decide +kernel))))
    obtain ⟨c, r, ec, hc⟩ := hfo
    have hp2' := hp2
    rw [ec] at hp2'
    refine ss_if (t_takes cp C_takes h3 rfl hp2' (by decide +kernel) (e_str ⟨rfl, rfl⟩) (fun h => absurd (by rw [h]; decide +kernel) hc) fun _ => BQ.f ?_)
    exact ss_one (s_ret (e_tup (a_cons (e_str (a_cons (e_var 2 rfl (a_nil ⟨by show 2 ≤ sizeLine; decide, Wk.here (q M2 hp2 (k1.trans k2))⟩)))))))
  | @is ss hpk =>
    rw [List.append_assoc] at hp1
    have hfs : FolS ((["is", "some"] : List Str) ++ rr) := ⟨"is", "some" :: rr, rfl, by decide +kernel⟩
    have hh : ∃ c r, stsW ss ++ ((["is", "some"] : List Str) ++ rr) = c :: r ∧ c ≠ "(" := by
      cases ss with
      | nil => exact ⟨"is", "some" :: rr, rfl, by decide +kernel⟩
      | cons s r =>
        obtain ⟨c, r', ec, hc⟩ := sts_hd hpk (fol_of (c := ")") (r := []) (by decide +kernel))
        have hne : stsW (s :: r) ≠ [] := by
          intro h
          rw [h] at ec
          have e2 : stsW (s :: r) = stW s ++ stsW r := by unfold stsW; rw [List.map_cons, List.flatten_cons]
          rw [e2] at h
          have h2 := (List.append_eq_nil_iff.mp h).1
          rcases hpk.st s (by simp) with rfl | rfl | ⟨x, hx, rfl⟩ | ⟨i, hi, rfl⟩
          · simp only [stW, true_or, if_true] at h2; cases h2
          · simp only [stW, or_true, if_true] at h2; cases h2
          · simp only [stW] at h2
            split at h2 <;> cases h2
          · simp only [stW] at h2; cases h2
        cases e3 : stsW (s :: r) with
        | nil => exact absurd e3 hne
        | cons c2 r2 =>
          rw [e3] at ec
          have : c2 = c := by injection ec
          exact ⟨c2, _, rfl, by rw [this]; exact hc⟩
    obtain ⟨c, r, ec, hc⟩ := hh
    have hp1' := hp1
    rw [ec] at hp1'
    refine ss_if (t_takes cp C_takes h3 rfl hp1' (by decide +kernel) (e_str ⟨rfl, rfl⟩) (fun h => absurd h hc) fun _ => BQ.f ?_)
    refine ss_cons (s_asg 2 scope_Parser_parse_named.nd (e_steps cp C_steps h4 rfl (e_var 1 rfl ⟨rfl, hpk, hfs, hp1, fun M2 hp2 k2 => ?_⟩) (hp1.slf (by decide +kernel) (by decide +kernel))))
    have hp2 : PT C T E M2 (("is" : Str) :: ("some" : Str) :: rr) := hp2
    refine ss_if (t_takes cp C_takes h3 rfl hp2 (by decide +kernel) (e_str ⟨rfl, rfl⟩) (fun _ M3 hp3 k3 => BQ.t ?_) fun h => absurd rfl h)
    refine ss_cons (s_expect cp C_expect h4 rfl hp3 (by decide +kernel) fun M4 hp4 k4 => ?_)
    exact ss_one (s_ret (e_tup (a_cons (e_str (a_cons (e_var 2 rfl (a_nil ⟨by show 2 ≤ sizeLine; decide, Wk.here (q M4 hp4 (((k1.trans k2).trans k3).trans k4))⟩)))))))
theorem ok_pgroup (cp : PCls K C) (c2 : Cons2 K mg) (F : Fun K "parse_group" "Parser.parse_group" st_Parser_parse_group f fd) (b : Binds K fd ["self"] []) (Mm : Meth K C "parse_group" f) (m_tuple : mg "tuple" = none)
    (C_takes : CalleeM P w K mg base C "takes" 3 ["self", "text"] (spTakes C T)) (C_expect : CalleeM P w K mg base C "expect" 4 ["self", "text"] (spExpect C T))
    (n k : Nat) (hk : 4 ≤ k) (C_expr : CalleeM P w K mg base C "parse_expression" k ["self"] (spItemF C T Fol (EOk n) Ex.raw Ex.d)) :
    CalleeM P w K mg base C "parse_group" (k + 1) ["self"] (spItem C T (fun a : List Str × D => GSh n a.1 a.2) (fun a => a.1) (fun a => a.2)) := by
  refine ⟨f, fd, fn3 F scope_Parser_parse_group (fun ds M Q ⟨_, _, _, e, _⟩ => by rw [e]; rfl) (fun cdv A outer sh H E' hr ds M Q ⟨E, ⟨ts, d⟩, rr, e, hs, hp, q⟩ => ?_), Mm, b⟩
  subst e
  have h3 : Room 3 _ := hr.mono (by omega)
  have h4 : Room 4 _ := hr.mono (by omega)
  replace hs : GSh n ts d := hs
  replace hp : PT C T E M (ts ++ rr) := hp
  replace q : ∀ M', PT C T E M' rr → Keep E.p M M' → Q d M' := q
  cases hs with
  | @op s l r hs hl hr' =>
    simp only [List.append_assoc, List.cons_append, List.nil_append] at hp
    refine ss_cons (s_asg 1 scope_Parser_parse_group.nd (e_itemF cp C_expr hr rfl hl (fol_of (op_fol hs)) hp fun M1 hp1 k1 => ?_))
    refine ss_cons (s_for PassesOwn.never (i_tup (e_con c2.ops ?_)))
    refine ⟨fun i σ' M2 => ∃ d1 : Option D, σ' = [some (.ref E.p), some l.d, d1, none, none] ∧ M2 = M1 ∧ ∀ w ∈ opW.take i, s ≠ w, ⟨none, rfl, rfl, by simp⟩, fun _ _ _ _ _ => trivial, ?_, ?_⟩
    · rintro i d' σ' M' hd ⟨d1, rfl, rfl, hno⟩
      obtain ⟨wd, hw, rfl⟩ := get_map hd
      have hwm := List.mem_of_getElem? hw
      refine g_name 2 scope_Parser_parse_group.nd ?_
      refine ss_one (s_if (t_takes cp C_takes h3 rfl hp1 (op_kw hwm) (e_var 2 rfl ⟨rfl, rfl⟩) (fun ht M2 hp2 k2 => BQ.t ?_) fun ht => BQ.f (ss_nil ⟨_, rfl, rfl, ?_⟩)))
      · subst ht
        refine ss_cons (s_asg 3 scope_Parser_parse_group.nd (e_itemF cp C_expr hr rfl hr' (fol_of (by decide +kernel)) hp2 fun M3 hp3 k3 => ?_))
        refine ss_cons (s_expect cp C_expect h4 rfl hp3 (by decide +kernel) fun M4 hp4 k4 => ?_)
        exact ss_one (s_ret (e_tup (a_cons (e_str (a_cons (e_var 2 rfl (a_cons (e_var 1 rfl (a_cons (e_var 3 rfl (a_nil ⟨by show 4 ≤ sizeLine; decide, Wk.here (q M4 hp4 (((k1.trans k2).trans k3).trans k4))⟩)))))))))))
      · intro w' hw'
        rw [List.take_add_one, hw] at hw'
        rcases List.mem_append.mp hw' with h | h
        · exact hno w' h
        · rw [List.mem_singleton.mp h]; exact ht
    · rintro σ' M' ⟨d1, rfl, rfl, hno⟩
      exact absurd rfl (hno s (by rw [List.length_map, List.take_length]; exact hs))
  | @tup e1 e2 r h1 h2 hr' h6 =>
    simp only [List.append_assoc, List.cons_append, List.nil_append] at hp
    refine ss_cons (s_asg 1 scope_Parser_parse_group.nd (e_itemF cp C_expr hr rfl h1 (fol_of (by decide +kernel)) hp fun M1 hp1 k1 => ?_))
    refine ss_cons (s_for PassesOwn.never (i_tup (e_con c2.ops ?_)))
    refine ⟨fun i σ' M2 => ∃ d1 : Option D, σ' = [some (.ref E.p), some e1.d, d1, none, none] ∧ M2 = M1, ⟨none, rfl, rfl⟩, fun _ _ _ _ _ => trivial, ?_, ?_⟩
    · rintro i d' σ' M' hd ⟨d1, rfl, rfl⟩
      obtain ⟨wd, hw, rfl⟩ := get_map hd
      have hwm := List.mem_of_getElem? hw
      refine g_name 2 scope_Parser_parse_group.nd ?_
      exact ss_one (s_if (t_takes cp C_takes h3 rfl hp1 (op_kw hwm) (e_var 2 rfl ⟨rfl, rfl⟩) (fun ht => absurd ht.symm ((show ∀ w ∈ opW, w ≠ "," by decide +kernel) _ hwm)) fun ht => BQ.f (ss_nil ⟨_, rfl, rfl⟩)))
    rintro σ' M' ⟨d1, rfl, rfl⟩
    refine ss_cons (s_expect cp C_expect h4 rfl hp1 (by decide +kernel) fun M2 hp2 k2 => ?_)
    have hfo : Fol (comL (r.map Ex.raw) ++ ((")" : Str) :: rr)) := by
      cases r with
      | nil => exact fol_of (by decide +kernel)
      | cons b r => exact fol_of (c := ",") (by decide +kernel)
    refine ss_cons (s_asg 4 scope_Parser_parse_group.nd (e_lst (a_cons (e_var 1 rfl (a_cons (e_itemF cp C_expr hr rfl h2 hfo hp2 fun M3 hp3 k3 => a_nil ⟨by show 2 ≤ sizeLine; decide, fun qa M4 f4 e4 l4 => ?_⟩))))))
    obtain ⟨o1, o2⟩ := hp3.out f4
    refine ss_cons (s_repF (by decide +kernel) 4 Ex.raw Ex.d ")" rr [e1, e2] r cp C_takes (hr.mono (by omega)) rfl rfl (by decide +kernel) f4 o1 o2 l4.keep e4 (hp3.le l4) (by simp only [List.length_cons, List.length_nil]; omega) (fun a ha M8 ts8 Q8 hne8 hp8 hq8 => e_itemF cp C_expr hr rfl (hr' a ha) (by obtain ⟨c, r, ec, hc⟩ := hne8; rw [ec]; rcases hc with rfl | rfl <;> exact fol_of (by decide +kernel)) hp8 hq8) (fun M8 e8 hp8 k8 => ?_) PassesOwn.never)
    refine ss_cons (s_expect cp C_expect (hr.mono (by omega)) rfl hp8 (by decide +kernel) fun M9 hp9 k9 => ?_)
    exact ss_one (s_ret (e_tup (a_cons (e_str (a_cons (e_tuplec m_tuple (a_cons (e_var 4 rfl (a_nil ⟨_, k9.at o2 e8, a_nil ⟨by show 2 ≤ sizeLine; decide, Wk.here (q M9 hp9 ((((k1.trans k2).trans k3).trans k8).trans k9))⟩⟩)))))))))
theorem ok_pword (cp : PCls K C) (F : Fun K "parse_word" "Parser.parse_word" st_Parser_parse_word f fd) (b : Binds K fd ["self"] []) (Mm : Meth K C "parse_word" f)
    (C_takes : CalleeM P w K mg base C "takes" 3 ["self", "text"] (spTakes C T)) (C_expect : CalleeM P w K mg base C "expect" 4 ["self", "text"] (spExpect C T)) (C_kind : ∀ n, CalleeM P w K mg base C "parse_kind" (n + 5) ["self"] (spItem C T (Tk n) Kd.raw Kd.d))
    (C_place : CalleeM P w K mg base C "parse_place" 5 ["self"] (spItemF C T FolS (fun x : Str × List D => Pk x.1 x.2) (fun x => plW x.1 x.2) (fun x => plcD x.1 x.2)))
    (n k : Nat) (hk : 8 ≤ k) (C_expr : CalleeM P w K mg base C "parse_expression" k ["self"] (spItemF C T Fol (EOk n) Ex.raw Ex.d)) :
    CalleeM P w K mg base C "parse_word" (k + 1) ["self"] (spItemF C T Fol (fun a : Pc => WSh n a.1 a.2.1 a.2.2) pcR pcD) := by
  refine ⟨f, fd, fn3 F scope_Parser_parse_word (fun ds M Q ⟨_, _, _, e, _⟩ => by rw [e]; rfl) (fun cdv A outer sh H E' hr ds M Q ⟨E, ⟨x, ts, d⟩, rr, e, hs, hfo, hp, q⟩ => ?_), Mm, b⟩
  subst e
  have h3 : Room 3 _ := hr.mono (by omega)
  have h4 : Room 4 _ := hr.mono (by omega)
  dsimp only at hs
  have hp : PT C T E M (x :: (ts ++ rr)) := hp
  replace q : ∀ M', PT C T E M' rr → Keep E.p M M' → Q d M' := q
  have no : ∀ y : Str, y ≠ x → x ≠ y := fun _ h => h.symm
  rcases wsh_cls hs with ⟨b, rfl, rfl, rfl⟩ | ⟨rfl, rfl, rfl⟩ | ⟨rfl, kd, hkd, rfl, rfl⟩ | ⟨rfl, v, ss, e, hpk, he, rfl, rfl⟩ | ⟨hu, e, he, rfl, rfl⟩
  · cases b with
    | true =>
      have hp : PT C T E M (("true" : Str) :: rr) := hp
      refine ss_if (t_takes cp C_takes h3 rfl hp (by decide +kernel) (e_str ⟨rfl, rfl⟩) (fun _ M2 hp2 k2 => BQ.t ?_) fun h => absurd rfl h)
      exact ss_one (s_ret (e_tup (a_cons (e_str (a_cons (e_bl (a_nil ⟨by show 2 ≤ sizeLine; decide, Wk.here (q M2 hp2 k2)⟩)))))))
    | false =>
      have hp : PT C T E M (("false" : Str) :: rr) := hp
      refine ss_if (t_takes cp C_takes h3 rfl hp (by decide +kernel) (e_str ⟨rfl, rfl⟩) (fun h => absurd h (by decide +kernel)) fun _ => BQ.f ?_)
      refine ss_if (t_takes cp C_takes h3 rfl hp (by decide +kernel) (e_str ⟨rfl, rfl⟩) (fun _ M2 hp2 k2 => BQ.t ?_) fun h => absurd rfl h)
      exact ss_one (s_ret (e_tup (a_cons (e_str (a_cons (e_bl (a_nil ⟨by show 2 ≤ sizeLine; decide, Wk.here (q M2 hp2 k2)⟩)))))))
  · have hp : PT C T E M (("unit" : Str) :: rr) := hp
    refine ss_if (t_takes cp C_takes h3 rfl hp (by decide +kernel) (e_str ⟨rfl, rfl⟩) (fun h => absurd h (by decide +kernel)) fun _ => BQ.f ?_)
    refine ss_if (t_takes cp C_takes h3 rfl hp (by decide +kernel) (e_str ⟨rfl, rfl⟩) (fun h => absurd h (by decide +kernel)) fun _ => BQ.f ?_)
    refine ss_if (t_takes cp C_takes h3 rfl hp (by decide +kernel) (e_str ⟨rfl, rfl⟩) (fun _ M2 hp2 k2 => BQ.t ?_) fun h => absurd rfl h)
    exact ss_one (s_ret (e_tup (a_cons (e_str (a_nil ⟨by show 1 ≤ sizeLine; decide, Wk.here (q M2 hp2 k2)⟩)))))
  · have hp : PT C T E M (("none" : Str) :: ("[" : Str) :: ((kd.raw ++ [("]" : Str)]) ++ rr)) := hp
    rw [List.append_assoc, List.cons_append, List.nil_append] at hp
    refine ss_if (t_takes cp C_takes h3 rfl hp (by decide +kernel) (e_str ⟨rfl, rfl⟩) (fun h => absurd h (by decide +kernel)) fun _ => BQ.f ?_)
    refine ss_if (t_takes cp C_takes h3 rfl hp (by decide +kernel) (e_str ⟨rfl, rfl⟩) (fun h => absurd h (by decide +kernel)) fun _ => BQ.f ?_)
    refine ss_if (t_takes cp C_takes h3 rfl hp (by decide +kernel) (e_str ⟨rfl, rfl⟩) (fun h => absurd h (by decide +kernel)) fun _ => BQ.f ?_)
    refine ss_if (t_takes cp C_takes h3 rfl hp (by decide +kernel) (e_str ⟨rfl, rfl⟩) (fun _ M2 hp2 k2 => BQ.t ?_) fun h => absurd rfl h)
    refine ss_cons (s_expect cp C_expect h4 rfl hp2 (by decide +kernel) fun M3 hp3 k3 => ?_)
    refine ss_cons (s_asg 1 scope_Parser_parse_word.nd (e_item cp (C_kind 3) (hr.mono (by omega)) rfl hkd hp3 fun M4 hp4 k4 => ?_))
    refine ss_cons (s_expect cp C_expect h4 rfl hp4 (by decide +kernel) fun M5 hp5 k5 => ?_)
    exact ss_one (s_ret (e_tup (a_cons (e_str (a_cons (e_var 1 rfl (a_nil ⟨by show 2 ≤ sizeLine; decide, Wk.here (q M5 hp5 (((k2.trans k3).trans k4).trans k5))⟩)))))))
  · have hp : PT C T E M (("swap" : Str) :: ((plW v ss ++ (("with" : Str) :: e.raw)) ++ rr)) := hp
    rw [List.append_assoc, List.cons_append] at hp
    refine ss_if (t_takes cp C_takes h3 rfl hp (by decide +kernel) (e_str ⟨rfl, rfl⟩) (fun h => absurd h (by decide +kernel)) fun _ => BQ.f ?_)
    refine ss_if (t_takes cp C_takes h3 rfl hp (by decide +kernel) (e_str ⟨rfl, rfl⟩) (fun h => absurd h (by decide +kernel)) fun _ => BQ.f ?_)
    refine ss_if (t_takes cp C_takes h3 rfl hp (by decide +kernel) (e_str ⟨rfl, rfl⟩) (fun h => absurd h (by decide +kernel)) fun _ => BQ.f ?_)
    refine ss_if (t_takes cp C_takes h3 rfl hp (by decide +kernel) (e_str ⟨rfl, rfl⟩) (fun h => absurd h (by decide +kernel)) fun _ => BQ.f ?_)
    refine ss_if (t_takes cp C_takes h3 rfl hp (by decide +kernel) (e_str ⟨rfl, rfl⟩) (fun _ M2 hp2 k2 => BQ.t ?_) fun h => absurd rfl h)
    refine ss_cons (s_asg 2 scope_Parser_parse_word.nd (e_itemF (a := (v, ss)) cp C_place (hr.mono (by omega)) rfl hpk ⟨"with", _, rfl, by decide +kernel⟩ hp2 fun M3 hp3 k3 => ?_))
    refine ss_cons (s_expect cp C_expect h4 rfl hp3 (by decide +kernel) fun M4 hp4 k4 => ?_)
    exact ss_one (s_ret (e_tup (a_cons (e_str (a_cons (e_var 2 rfl (a_cons (e_itemF cp C_expr hr rfl he hfo hp4 fun M5 hp5 k5 => a_nil ⟨by show 3 ≤ sizeLine; decide, Wk.here (q M5 hp5 (((k2.trans k3).trans k4).trans k5))⟩))))))))
  · have nk : ∀ w ∈ unW, w ≠ "true" ∧ w ≠ "false" ∧ w ≠ "unit" ∧ w ≠ "none" ∧ w ≠ "swap" := by decide +kernel
    obtain ⟨u1, u2, u3, u4, u5⟩ := nk x hu
    refine ss_if (t_takes cp C_takes h3 rfl hp (by decide +kernel) (e_str ⟨rfl, rfl⟩) (fun h => absurd h u1) fun _ => BQ.f ?_)
    refine ss_if (t_takes cp C_takes h3 rfl hp (by decide +kernel) (e_str ⟨rfl, rfl⟩) (fun h => absurd h u2) fun _ => BQ.f ?_)
    refine ss_if (t_takes cp C_takes h3 rfl hp (by decide +kernel) (e_str ⟨rfl, rfl⟩) (fun h => absurd h u3) fun _ => BQ.f ?_)
    refine ss_if (t_takes cp C_takes h3 rfl hp (by decide +kernel) (e_str ⟨rfl, rfl⟩) (fun h => absurd h u4) fun _ => BQ.f ?_)
    refine ss_if (t_takes cp C_takes h3 rfl hp (by decide +kernel) (e_str ⟨rfl, rfl⟩) (fun h => absurd h u5) fun _ => BQ.f ?_)
    refine ss_cons (s_for PassesOwn.never (i_tup (e_tup (a_cons (e_str (a_cons (e_str (a_cons (e_str (a_cons (e_str (a_nil ⟨by show 4 ≤ sizeLine; decide, ?_⟩))))))))))))
    refine ⟨fun i σ' M2 => ∃ d1 : Option D, σ' = [some (.ref E.p), none, none, d1] ∧ M2 = M ∧ ∀ w ∈ unW.take i, x ≠ w, ⟨none, rfl, rfl, by simp⟩, fun _ _ _ _ _ => trivial, ?_, ?_⟩
    · rintro i d' σ' M' hd ⟨d1, rfl, rfl, hno⟩
      rw [show [D.str "some", D.str "box", D.str "unbox", D.str "not"] = unW.map D.str from rfl] at hd
      obtain ⟨wd, hw, rfl⟩ := get_map hd
      have hwm := List.mem_of_getElem? hw
      refine g_name 3 scope_Parser_parse_word.nd ?_
      refine ss_one (s_if (t_takes cp C_takes h3 rfl hp (un_kw hwm) (e_var 3 rfl ⟨rfl, rfl⟩) (fun ht M2 hp2 k2 => BQ.t ?_) fun ht => BQ.f (ss_nil ⟨_, rfl, rfl, ?_⟩)))
      · subst ht
        exact ss_one (s_ret (e_tup (a_cons (e_var 3 rfl (a_cons (e_itemF cp C_expr hr rfl he hfo hp2 fun M5 hp5 k5 => a_nil ⟨by show 2 ≤ sizeLine; decide, Wk.here (q M5 hp5 (k2.trans k5))⟩))))))
      · intro w' hw'
        rw [List.take_add_one, hw] at hw'
        rcases List.mem_append.mp hw' with h | h
        · exact hno w' h
        · rw [List.mem_singleton.mp h]; exact ht
    · rintro σ' M' ⟨d1, rfl, rfl, hno⟩
      exact absurd rfl (hno x hu)
end
end My
set_option maxHeartbeats 4000000
namespace My
open PySem L2 DL
/-! ### an expression, parsed -/
section
variable {P : Program} {w : World} {K : PySem.W.Frag} {mg : Str → Option Value} {base : Heap} {f : Addr} {fd : FuncData} {C T : Addr}
theorem ok_pexpr (cp : PCls K C) (cT : TCls K T) (F : Fun K "parse_expression" "Parser.parse_expression" st_Parser_parse_expression f fd) (b : Binds K fd ["self"] []) (Mm : Meth K C "parse_expression" f)
    (C_token : CalleeM P w K mg base C "token" 1 ["self"] (spToken C T)) (C_sees : CalleeM P w K mg base C "sees" 2 ["self", "text"] (spSees C T)) (C_takes : CalleeM P w K mg base C "takes" 3 ["self", "text"] (spTakes C T)) (C_expect : CalleeM P w K mg base C "expect" 4 ["self", "text"] (spExpect C T))
    (C_integer : CalleeM P w K mg base C "parse_integer" 4 ["self"] (spItem C T intOk intRw D.int))
    (C_place : CalleeM P w K mg base C "parse_place" 5 ["self"] (spItemF C T FolS (fun x : Str × List D => Pk x.1 x.2) (fun x => plW x.1 x.2) (fun x => plcD x.1 x.2)))
    (C_args : ∀ n k, 4 ≤ k → CalleeM P w K mg base C "parse_expression" k ["self"] (spItemF C T Fol (EOk n) Ex.raw Ex.d) → CalleeM P w K mg base C "parse_arguments" (k + 1) ["self"] (spItem C T (okL n) (fun l => sepL (l.map Ex.raw) ++ [(")" : Str)]) (fun l => .tup (l.map Ex.d))))
    (C_named : ∀ n k, 4 ≤ k → CalleeM P w K mg base C "parse_arguments" k ["self"] (spItem C T (okL n) (fun l => sepL (l.map Ex.raw) ++ [(")" : Str)]) (fun l => .tup (l.map Ex.d))) → CalleeM P w K mg base C "parse_named" (k + 1) ["self"] (spItemF C T Fol (fun a : Pc => Nm a.1 ∧ NSh n a.1 a.2.1 a.2.2) pcR pcD))
    (C_group : ∀ n k, 4 ≤ k → CalleeM P w K mg base C "parse_expression" k ["self"] (spItemF C T Fol (EOk n) Ex.raw Ex.d) → CalleeM P w K mg base C "parse_group" (k + 1) ["self"] (spItem C T (fun a : List Str × D => GSh n a.1 a.2) (fun a => a.1) (fun a => a.2)))
    (C_word : ∀ n k, 8 ≤ k → CalleeM P w K mg base C "parse_expression" k ["self"] (spItemF C T Fol (EOk n) Ex.raw Ex.d) → CalleeM P w K mg base C "parse_word" (k + 1) ["self"] (spItemF C T Fol (fun a : Pc => WSh n a.1 a.2.1 a.2.2) pcR pcD)) :
    ∀ n, CalleeM P w K mg base C "parse_expression" (3 * n + 12) ["self"] (spItemF C T Fol (EOk n) Ex.raw Ex.d) := by
  intro n
  induction n with
  | zero =>
    refine ⟨f, fd, fn3 F scope_Parser_parse_expression (fun ds M Q ⟨_, _, _, e, _⟩ => by rw [e]; rfl) (fun cdv A outer sh H E' hr ds M Q ⟨E, e, rr, _, he, _⟩ => ?_), Mm, b⟩
    exact nomatch he
  | succ n ih =>
    have c_args := C_args n _ (by omega) ih
    have c_named := C_named n _ (by omega) c_args
    have c_group := C_group n _ (by omega) ih
    have c_word := C_word n _ (by omega) ih
    refine ⟨f, fd, fn3 F scope_Parser_parse_expression (fun ds M Q ⟨_, _, _, e, _⟩ => by rw [e]; rfl) (fun cdv A outer sh H E' hr ds M Q ⟨E, x, rr, e, hx, hfo, hp, q⟩ => ?_), Mm, b⟩
    subst e
    obtain ⟨t, ts, er, hsh⟩ := esh hx
    have h3 : Room 3 _ := hr.mono (by omega)
    have h4 : Room 4 _ := hr.mono (by omega)
    rw [er, List.cons_append] at hp
    generalize x.d = d at q hsh
    refine ss_cons (s_asg 1 scope_Parser_parse_expression.nd (e_token cp C_token (hr.mono (by omega)) rfl hp fun a dx tk ea ht hf => ?_))
    obtain ⟨n0, eo, hd⟩ := hp.ob
    have nap : a ≠ E.p := fun h => by rw [h, eo] at ea; exact par_tok ea
    rcases esh_cls hsh with ⟨h1, h1', i, hi, er2, rfl⟩ | ⟨hn1, hn2, hh⟩
    · have fin : PT C T E M (intRw i ++ rr) := by rw [← er2]; exact hp
      refine ss_if (t_w (w_or (t_eq ⟨_, hr⟩ (e_fld (e_var 1 rfl ⟨T, dx, _, _, ea, cT.cl, cT.n1, fl_form, e_str ⟨trivial, ?_⟩⟩)))))
      rw [eqv_str, hf]
      refine ⟨fun _ => BQ.t (ss_one (s_ret (e_tup (a_cons (e_str (a_cons (e_item cp C_integer h4 rfl hi fin fun M2 hp2 k2 => a_nil ⟨by show 2 ≤ sizeLine; decide, Wk.here (q M2 hp2 k2)⟩))))))), fun hno => w_or1 (t_truth (e_meth cp.cl C_sees (hr.mono (by omega)) (e_var 0 rfl ⟨E.p, E.dx, _, rfl, eo, pf_no (by decide +kernel) (by decide +kernel), a_cons (e_str (a_nil ⟨E, t, _, _, rfl, hp, by decide +kernel, ?_⟩))⟩)))⟩
      have ht2 : t = "-" := h1.resolve_left (of_decide_eq_false hno)
      rw [decide_eq_true ht2]
      exact BQ.t (ss_one (s_ret (e_tup (a_cons (e_str (a_cons (e_item cp C_integer h4 rfl hi fin fun M2 hp2 k2 => a_nil ⟨by show 2 ≤ sizeLine; decide, Wk.here (q M2 hp2 k2)⟩)))))))
    refine ss_if (t_w (w_or (t_eq ⟨_, hr⟩ (e_fld (e_var 1 rfl ⟨T, dx, _, _, ea, cT.cl, cT.n1, fl_form, e_str ⟨trivial, ?_⟩⟩)))))
    rw [eqv_str, hf]
    refine ⟨fun h => absurd (of_decide_eq_true h) hn1, fun _ => w_or1 (t_truth (e_meth cp.cl C_sees (hr.mono (by omega)) (e_var 0 rfl ⟨E.p, E.dx, _, rfl, eo, pf_no (by decide +kernel) (by decide +kernel), a_cons (e_str (a_nil ⟨E, t, _, _, rfl, hp, by decide +kernel, ?_⟩))⟩)))⟩
    rw [decide_eq_false hn2]
    refine BQ.f ?_
    refine ss_if (t_eq ⟨_, hr⟩ (e_fld (e_var 1 rfl ⟨T, dx, _, _, ea, cT.cl, cT.n1, fl_form, e_str ⟨trivial, ?_⟩⟩)))
    rw [eqv_str, hf]
    rcases hh with ⟨hr1, l, hl, rfl, rfl⟩ | ⟨hr1, hh⟩
    · refine ⟨fun _ => ?_, fun h => absurd hr1 (of_decide_eq_false h)⟩
      refine ss_cons (s_faug (e_var 0 rfl ⟨E.p, C, E.dx, _, _, rfl, eo, cp.cl, cp.n2, pf_at, e_int ⟨E.dx, _, eo, by show 2 < 1000; decide, fun M' e' k' => ?_⟩⟩))
      have hp2 : PT C T E M' (("(" : Str) :: ((sepL (l.map Ex.raw) ++ [(")" : Str)]) ++ rr)) := hp.step eo e' k'
      refine ss_cons (s_expect cp C_expect h4 rfl hp2 (by decide +kernel) fun M3 hp3 k3 => ?_)
      refine ss_one (s_ret (e_tup (a_cons (e_str (a_cons (e_fld (e_var 1 rfl ⟨T, dx, _, _, k3.at nap (k'.at nap ea), cT.cl, cT.n2, fl_text, a_cons (e_item cp c_args (hr.mono (by omega)) rfl hl hp3 fun M4 hp4 k4 => a_nil ⟨by show 3 ≤ sizeLine; decide, ?_⟩)⟩)))))))
      rw [ht]
      exact Wk.here (q M4 hp4 ((k'.trans k3).trans k4))
    refine ⟨fun h => absurd (of_decide_eq_true h) hr1, fun _ => ?_⟩
    refine ss_if (t_eq ⟨_, hr⟩ (e_fld (e_var 1 rfl ⟨T, dx, _, _, ea, cT.cl, cT.n1, fl_form, e_str ⟨trivial, ?_⟩⟩)))
    rw [eqv_str, hf]
    rcases hh with ⟨hm1, hnm, hns⟩ | ⟨hm1, hh⟩
    · refine ⟨fun _ => ?_, fun h => absurd hm1 (of_decide_eq_false h)⟩
      exact ss_one (s_ret (e_itemF (a := (t, ts, d)) cp c_named (hr.mono (by omega)) rfl ⟨hnm, hns⟩ hfo hp fun M2 hp2 k2 => Wk.here (q M2 hp2 k2)))
    refine ⟨fun h => absurd (of_decide_eq_true h) hm1, fun _ => ?_⟩
    rcases hh with ⟨rfl, hg⟩ | ⟨hp1, hh⟩
    · refine ss_if (t_takes cp C_takes h3 rfl hp (by decide +kernel) (e_str ⟨rfl, rfl⟩) (fun _ M2 hp2 k2 => BQ.t ?_) fun h => absurd rfl h)
      exact ss_one (s_ret (e_item (a := (ts, d)) cp c_group (hr.mono (by omega)) rfl hg hp2 fun M3 hp3 k3 => Wk.here (q M3 hp3 (k2.trans k3))))
    refine ss_if (t_takes cp C_takes h3 rfl hp (by decide +kernel) (e_str ⟨rfl, rfl⟩) (fun h => absurd h hp1) fun _ => BQ.f ?_)
    rcases hh with ⟨rfl, m, v, ss, hpk, rfl, rfl⟩ | ⟨ha1, hw⟩
    · refine ss_if (t_takes cp C_takes h3 rfl hp (by decide +kernel) (e_str ⟨rfl, rfl⟩) (fun _ M2 hp2 k2 => BQ.t ?_) fun h => absurd rfl h)
      cases m with
      | true =>
        have hp2 : PT C T E M2 (("mut" : Str) :: (plW v ss ++ rr)) := hp2
        refine ss_cons (s_asg 2 scope_Parser_parse_expression.nd (v_if (t_takes cp C_takes h3 rfl hp2 (by decide +kernel) (e_str ⟨rfl, rfl⟩) (fun _ M3 hp3 k3 => BQ.t (e_str ?_)) fun h => absurd rfl h)))
        exact ss_one (s_ret (e_tup (a_cons (e_str (a_cons (e_var 2 rfl (a_cons (e_itemF (a := (v, ss)) cp C_place (hr.mono (by omega)) rfl hpk hfo.s hp3 fun M4 hp4 k4 => a_nil ⟨by show 3 ≤ sizeLine; decide, Wk.here (q M4 hp4 ((k2.trans k3).trans k4))⟩))))))))
      | false =>
        have hp2 : PT C T E M2 (plW v ss ++ rr) := hp2
        have hp2' : PT C T E M2 (v :: (stsW ss ++ rr)) := hp2
        refine ss_cons (s_asg 2 scope_Parser_parse_expression.nd (v_if (t_takes cp C_takes h3 rfl hp2' (by decide +kernel) (e_str ⟨rfl, rfl⟩) (fun h => absurd h (nm_kw hpk.nm (by decide +kernel))) fun _ => BQ.f (e_str ?_))))
        exact ss_one (s_ret (e_tup (a_cons (e_str (a_cons (e_var 2 rfl (a_cons (e_itemF (a := (v, ss)) cp C_place (hr.mono (by omega)) rfl hpk hfo.s hp2 fun M4 hp4 k4 => a_nil ⟨by show 3 ≤ sizeLine; decide, Wk.here (q M4 hp4 (k2.trans k4))⟩))))))))
    refine ss_if (t_takes cp C_takes h3 rfl hp (by decide +kernel) (e_str ⟨rfl, rfl⟩) (fun h => absurd h ha1) fun _ => BQ.f ?_)
    exact ss_one (s_ret (e_itemF (a := (t, ts, d)) cp c_word (hr.mono (by omega)) rfl hw hfo hp fun M2 hp2 k2 => Wk.here (q M2 hp2 k2)))
end
end My
set_option maxHeartbeats 4000000
namespace My
open PySem L2 DL
section
variable {P : Program} {w : World} {K : PySem.W.Frag} {mg : Str → Option Value} {base : Heap} {f : Addr} {fd : FuncData}
def spTree (n : Nat) : Sp3 := fun ds M Q => ∃ (a : Addr) (ns : List Int) (room : Nat), ds = [.ref a, .rol (ns.map D.int), .int (room : Int)] ∧ ∃ t0 : Int, StT M a t0 ∧ 1 ≤ room ∧ room ≤ n ∧ ∀ k M', Tk room k → StT M' a t0 → Keep a M M' → Q k.d M'
theorem ok_tree (F : Fun K "_law_tree_kind" "_law_tree_kind" st__law_tree_kind f fd) (b : Binds K fd ["_law_state", "_law_script", "_law_room"] []) (g : mg "_law_tree_kind" = some (.ref f)) (m_int : mg "int" = none) (m_range : mg "range" = none) (m_tuple : mg "tuple" = none)
    (C__law_pick : Callee P w K mg base "_law_pick" 1 ["_law_state", "_law_script", "_law_many"] spPick)
    (C__law_big : Callee P w K mg base "_law_big" 2 ["_law_state", "_law_script"] spBig) :
    ∀ n, Callee P w K mg base "_law_tree_kind" (n + 2) ["_law_state", "_law_script", "_law_room"] (spTree n)
  | 0 => Callee.none g F.kp b fun ds M Q ⟨_, _, room, _, _, h1, h2, _⟩ => by omega
  | n + 1 => by
    have C__law_tree_kind := ok_tree F b g m_int m_range m_tuple C__law_pick C__law_big n
    refine callee F scope__law_tree_kind g b (fun ds M Q ⟨_, _, _, e, _⟩ => by rw [e]; rfl) (fun cdv A outer s H E hr ds M Q ⟨a, ns, room, e, t0, hp, hr1, hrn, q⟩ => ?_)
    subst e
    refine ss_cons (s_asg 3 scope__law_tree_kind.nd (e_call C__law_pick (hr.mono (by omega)) (a_cons (e_var 0 rfl (a_cons (e_var 1 rfl (a_cons (e_int (a_nil ?_)))))))))
    refine ⟨a, ns, 10, rfl, _, hp, by decide, by decide, fun c M1 h1 h1' hp1 k1 => ?_⟩
    refine ss_cut (fun σ' M' => σ' = [some (.ref a), some (.rol (ns.map D.int)), some (.int (room : Int)), some (.int c), none, none] ∧ M' = M1) (s_if (t_w (w_and (t_gt (e_var 2 rfl (e_int ?_)))))) ?_
    · refine ⟨fun hc => ?_, fun hc => BQ.f (ss_nil ⟨rfl, rfl⟩)⟩
      have hroom := of_decide_eq_true hc
      refine w_and1 (t_gt (e_var 3 rfl (e_int ⟨fun hc3 => ?_, fun hc => ss_nil ⟨rfl, rfl⟩⟩)))
      have hc3 := of_decide_eq_true hc3
      have er : (room : Int) - 1 = ((room - 1 : Nat) : Int) := by omega
      have rec_ : ∀ (M3 : Mp) (Q' : QD), StT M3 a t0 → (∀ k M', Tk (room - 1) k → StT M' a t0 → Keep a M3 M' → Q' k.d M') → spTree n [.ref a, .rol (ns.map D.int), .int ((room : Int) - 1)] M3 Q' := fun M3 Q' h1 h3 =>
        ⟨a, ns, room - 1, by rw [er], _, h1, by omega, by omega, h3⟩
      refine ss_if (t_eq ⟨_, hr⟩ (e_var 3 rfl (e_int ⟨trivial, ?_⟩)))
      refine ⟨fun hc => ?_, fun hc7 => ?_⟩
      · refine ss_cons (s_asg 4 scope__law_tree_kind.nd (e_lst (a_nil ⟨by show 0 ≤ sizeLine; decide, fun p M3 f3 e3 l3 => ?_⟩)))
        have hp3 := hp1.le l3
        have np := hp1.apart f3
        refine ss_cons (s_for PassesOwn.never (i_rng1 m_range (e_add (e_int (e_call C__law_pick (hr.mono (by omega)) (a_cons (e_var 0 rfl (a_cons (e_var 1 rfl (a_cons (e_int (a_nil ?_))))))))))))
        refine ⟨a, ns, 2, rfl, _, hp3, by decide, by decide, fun c4 M4 h4 h4' hp4 k4 => ?_⟩
        refine ⟨by omega, by omega, ?_⟩
        refine ⟨fun i σ' M' => ∃ (l : List Kd) (d5 : Option D), σ' = [some (.ref a), some (.rol (ns.map D.int)), some (.int (room : Int)), some (.int c), some (.ref p), d5] ∧ M' p = some (.lst (l.map Kd.d)) ∧ l.length = i ∧ (∀ k ∈ l, Tk (room - 1) k) ∧ StT M' a t0 ∧ Keep a M M',
          ⟨[], none, rfl, k4 _ _ np e3, rfl, (fun _ h => nomatch h), hp4, (k1.to l3).trans k4⟩, fun _ _ _ _ _ => trivial, ?_, ?_⟩
        · rintro i d σ' M' hd ⟨l, d5, rfl, el, hl, ok, hp5, k5⟩
          obtain ⟨hi, rfl⟩ := rgD_get hd
          refine g_name 5 scope__law_tree_kind.nd ?_
          refine ss_one (s_expr (e_lm PySem.F.slot_list_append PySem.F.type_list_append mt_append rd_app (e_var 4 rfl ⟨⟨_, el⟩, ?_⟩)))
          refine a_cons (e_call C__law_tree_kind hr (a_cons (e_var 0 rfl (a_cons (e_var 1 rfl (a_cons (e_sub (e_var 2 rfl (e_int (a_nil ?_))))))))))
          refine rec_ _ _ hp5 fun k M6 gk hp6 k6 => a_nil ⟨_, k6 _ _ np el, szlt (by rw [List.length_map]; omega), fun M7 e7 k7 => ?_⟩
          refine ⟨l ++ [k], _, rfl, by rw [e7]; simp, by simp [hl], fun x hx => (List.mem_append.mp hx).elim (ok x) (fun z => by simp at z; subst z; exact gk), hp6.keep k7 np, (k5.trans k6).other k7 (k1.fresh hp1.some f3)⟩
        · rintro σ' M' ⟨l, d5, rfl, el, hl, ok, hp5, k5⟩
          rw [rgD_length] at hl
          refine ss_one (s_ret (e_tup (a_cons (e_str (a_cons (e_tuplec m_tuple (a_cons (e_var 4 rfl (a_nil ⟨_, el, a_nil ⟨by show 2 ≤ sizeLine; decide, Wk.here ?_⟩⟩)))))))))
          have ed : D.tup [.str "tuple", .tup (l.map Kd.d)] = (Kd.tup l).d := by simp only [Kd.d, Kd.ds_map]
          rw [ed]
          refine q (.tup l) M' ⟨?_, ?_, fun x hx => ?_⟩ hp5 k5
          · simp only [Kd.wf, Bool.and_eq_true, decide_eq_true_eq, Kd.wfs_iff]
            exact ⟨⟨by omega, by omega⟩, fun k hk => (ok k hk).wf⟩
          · simp only [Kd.lev]
            have := (Kd.levs_le l (room - 1)).mpr fun k hk => (ok k hk).lev
            omega
          · simp only [Kd.rn, Kd.rns_mem] at hx
            obtain ⟨k, hk, hx⟩ := hx
            exact (ok k hk).rn x hx
      · refine ss_one (s_ret (e_tup (a_cons (e_ix (e_lst (a_cons (e_str (a_cons (e_str (a_cons (e_str (a_cons (e_str (a_nil ⟨by show 4 ≤ sizeLine; decide, fun p4 M4 f4 e4 l4 => e_mod (e_intc m_int (a_cons (e_var 3 rfl (a_nil (e_int ⟨by show (0 : Int) < _; decide, ?_⟩)))))⟩))))))))))))))
        have hm1 := Int.emod_nonneg c (show (4 : Int) ≠ 0 by decide)
        have hm2 := Int.emod_lt_of_pos c (show (0 : Int) < 4 by decide)
        obtain ⟨y, hy, _⟩ := atI_lt (xs := [D.str "box", D.str "maybe", D.str "shared", D.str "exclusive"]) hm1 (by show _ < ((4 : Nat) : Int); omega)
        refine ⟨_, y, e4, hy, ?_⟩
        refine a_cons (e_call C__law_tree_kind hr (a_cons (e_var 0 rfl (a_cons (e_var 1 rfl (a_cons (e_sub (e_var 2 rfl (e_int (a_nil ?_))))))))))
        refine rec_ _ _ (hp1.le l4) fun k M6 gk hp6 k6 => a_nil ⟨by show 2 ≤ sizeLine; decide, Wk.here ?_⟩
        have hym := atI_mem hy
        have K6 := (k1.to l4).trans k6
        simp only [List.mem_cons, List.not_mem_nil, or_false] at hym
        have gl := gk.lev
        rcases hym with rfl | rfl | rfl | rfl
        · exact q (.box k) M6 ⟨by simpa only [Kd.wf] using gk.wf, by simp only [Kd.lev]; omega, by simpa only [Kd.rn] using gk.rn⟩ hp6 K6
        · exact q (.maybe k) M6 ⟨by simpa only [Kd.wf] using gk.wf, by simp only [Kd.lev]; omega, by simpa only [Kd.rn] using gk.rn⟩ hp6 K6
        · exact q (.shared k) M6 ⟨by simpa only [Kd.wf] using gk.wf, by simp only [Kd.lev]; omega, by simpa only [Kd.rn] using gk.rn⟩ hp6 K6
        · exact q (.excl k) M6 ⟨by simpa only [Kd.wf] using gk.wf, by simp only [Kd.lev]; omega, by simpa only [Kd.rn] using gk.rn⟩ hp6 K6
    rintro σ' M' ⟨rfl, rfl⟩
    refine ss_if (t_eq ⟨_, hr⟩ (e_var 3 rfl (e_int ⟨trivial, ?_⟩)))
    refine ⟨fun hc => ?_, fun hc3 => ?_⟩
    · refine ss_one (s_ret (e_tup (a_cons (e_str (a_cons (e_call C__law_big (hr.mono (by omega)) (a_cons (e_var 0 rfl (a_cons (e_var 1 rfl (a_nil ⟨a, ns, rfl, _, hp1, fun x M2 hx hp2 k2 => a_nil ⟨by show 2 ≤ sizeLine; decide, Wk.here ?_⟩⟩)))))))))))
      exact q (.rcd x) M2 ⟨by simp only [Kd.wf], by simp only [Kd.lev]; omega, fun y hy => by simp [Kd.rn] at hy; subst hy; exact hx⟩ hp2 (k1.trans k2)
    · refine ss_one (s_ret (e_tup (a_cons (e_ix (e_lst (a_cons (e_str (a_cons (e_str (a_cons (e_str (a_nil ⟨by show 3 ≤ sizeLine; decide, fun p4 M4 f4 e4 l4 => e_mod (e_intc m_int (a_cons (e_var 3 rfl (a_nil (e_int ⟨by show (0 : Int) < _; decide, ?_⟩)))))⟩))))))))))))
      have hm1 := Int.emod_nonneg c (show (3 : Int) ≠ 0 by decide)
      have hm2 := Int.emod_lt_of_pos c (show (0 : Int) < 3 by decide)
      obtain ⟨y, hy, _⟩ := atI_lt (xs := [D.str "int", D.str "bool", D.str "unit"]) hm1 (by show _ < ((3 : Nat) : Int); omega)
      refine ⟨_, y, e4, hy, a_nil ⟨by show 1 ≤ sizeLine; decide, Wk.here ?_⟩⟩
      have hym := atI_mem hy
      have K6 := k1.to l4
      simp only [List.mem_cons, List.not_mem_nil, or_false] at hym
      have g0 : ∀ k : Kd, k = .int ∨ k = .bool ∨ k = .unit → Tk room k := fun k hk => by
        rcases hk with rfl | rfl | rfl <;> exact ⟨by simp only [Kd.wf], by simp only [Kd.lev]; omega, fun y hy => by simp [Kd.rn] at hy⟩
      rcases hym with rfl | rfl | rfl
      · exact q .int M4 (g0 _ (.inl rfl)) (hp1.le l4) K6
      · exact q .bool M4 (g0 _ (.inr (.inl rfl))) (hp1.le l4) K6
      · exact q .unit M4 (g0 _ (.inr (.inr rfl))) (hp1.le l4) K6
def spFlds : Sp3 := fun ds M Q => ∃ (a : Addr) (ns : List Int) (n : Nat), ds = [.ref a, .rol (ns.map D.int), .int (n : Int)] ∧ ∃ t0 : Int, StT M a t0 ∧ n ≤ 7 ∧ ∀ (fs : List (Str × Kd)) M', fs.length = n → (∀ p ∈ fs, Fd p) → StT M' a t0 → Keep a M M' → Q (.tup (fs.map fD)) M'
theorem ok_flds (F : Fun K "_law_fields" "_law_fields" st__law_fields f fd) (b : Binds K fd ["_law_state", "_law_script", "_law_many"] []) (g : mg "_law_fields" = some (.ref f)) (m_range : mg "range" = none) (m_tuple : mg "tuple" = none)
    (C__law_name : Callee P w K mg base "_law_name" 2 ["_law_state", "_law_script"] spName)
    (C__law_tree_kind : ∀ n, Callee P w K mg base "_law_tree_kind" (n + 2) ["_law_state", "_law_script", "_law_room"] (spTree n)) :
    Callee P w K mg base "_law_fields" 6 ["_law_state", "_law_script", "_law_many"] spFlds := by
  refine callee F scope__law_fields g b (fun ds M Q ⟨_, _, _, e, _⟩ => by rw [e]; rfl) (fun cdv A outer s H E hr ds M Q ⟨a, ns, n, e, t0, hp, hn, q⟩ => ?_)
  subst e
  refine ss_cons (s_asg 3 scope__law_fields.nd (e_lst (a_nil ⟨by show 0 ≤ sizeLine; decide, fun p M3 f3 e3 l3 => ?_⟩)))
  have np := hp.apart f3
  refine ss_cons (s_for PassesOwn.never (i_rng1 m_range (e_var 2 rfl ⟨by omega, by omega, ?_⟩)))
  refine ⟨fun i σ' M' => ∃ (l : List (Str × Kd)) (d4 : Option D), σ' = [some (.ref a), some (.rol (ns.map D.int)), some (.int (n : Int)), some (.ref p), d4] ∧ M' p = some (.lst (l.map fD)) ∧ l.length = i ∧ (∀ k ∈ l, Fd k) ∧ StT M' a t0 ∧ Keep a M M',
    ⟨[], none, rfl, e3, rfl, (fun _ h => nomatch h), hp.le l3, l3.keep⟩, fun _ _ _ _ _ => trivial, ?_, ?_⟩
  · rintro i d σ' M' hd ⟨l, d4, rfl, el, hl, ok, hp5, k5⟩
    obtain ⟨hi, rfl⟩ := rgD_get hd
    refine g_name 4 scope__law_fields.nd ?_
    refine ss_one (s_expr (e_lm PySem.F.slot_list_append PySem.F.type_list_append mt_append rd_app (e_var 3 rfl ⟨⟨_, el⟩, ?_⟩)))
    refine a_cons (e_tup (a_cons (e_call C__law_name (hr.mono (by omega)) (a_cons (e_var 0 rfl (a_cons (e_var 1 rfl (a_nil ⟨a, ns, rfl, _, hp5, fun x M6 hx hw hp6 k6 => ?_⟩))))))))
    refine a_cons (e_call (C__law_tree_kind 3) hr (a_cons (e_var 0 rfl (a_cons (e_var 1 rfl (a_cons (e_int (a_nil ⟨a, ns, 3, rfl, _, hp6, by omega, by omega, fun k M7 gk hp7 k7 => a_nil ⟨by show 2 ≤ sizeLine; decide, a_nil ⟨_, k7 _ _ np (k6 _ _ np el), szlt (by rw [List.length_map]; omega), fun M8 e8 k8 => ?_⟩⟩⟩))))))))
    refine ⟨l ++ [(x, k)], _, rfl, by rw [e8]; simp [fD], by simp [hl], fun y hy => (List.mem_append.mp hy).elim (ok y) (fun z => by simp at z; subst z; exact ⟨⟨hx, hw⟩, gk⟩), hp7.keep k8 np, ((k5.trans k6).trans k7).other k8 f3⟩
  · rintro σ' M' ⟨l, d4, rfl, el, hl, ok, hp5, k5⟩
    rw [rgD_length] at hl
    exact ss_one (s_ret (e_tuplec m_tuple (a_cons (e_var 3 rfl (a_nil ⟨_, el, Wk.here (q l M' (by omega) ok hp5 k5)⟩)))))
def Fu.d (x : Fu) (bs : List D) : D := .tup [.str x.nm, .tup (x.ps.map fD), x.res.d, .tup (x.src.map D.str), .tup bs]
def spFun : Sp3 := fun ds M Q => ∃ (a : Addr) (ns : List Int) (bs : List D), ds = [.ref a, .rol (ns.map D.int), .tup bs] ∧ ∃ t0 : Int, StT M a t0 ∧ ∀ x M', FuOk x → StT M' a t0 → Keep a M M' → Q (x.d bs) M'
theorem ok_fun (F : Fun K "_law_function" "_law_function" st__law_function f fd) (b : Binds K fd ["_law_state", "_law_script", "_law_block_here"] []) (g : mg "_law_function" = some (.ref f)) (m_range : mg "range" = none) (m_tuple : mg "tuple" = none)
    (C__law_pick : Callee P w K mg base "_law_pick" 1 ["_law_state", "_law_script", "_law_many"] spPick)
    (C__law_name : Callee P w K mg base "_law_name" 2 ["_law_state", "_law_script"] spName)
    (C__law_tree_kind : ∀ n, Callee P w K mg base "_law_tree_kind" (n + 2) ["_law_state", "_law_script", "_law_room"] (spTree n))
    (C__law_fields : Callee P w K mg base "_law_fields" 6 ["_law_state", "_law_script", "_law_many"] spFlds) :
    Callee P w K mg base "_law_function" 7 ["_law_state", "_law_script", "_law_block_here"] spFun := by
  refine callee F scope__law_function g b (fun ds M Q ⟨_, _, _, e, _⟩ => by rw [e]; rfl) (fun cdv A outer s H E hr ds M Q ⟨a, ns, bs, e, t0, hp, q⟩ => ?_)
  subst e
  refine ss_cons (s_asg 3 scope__law_function.nd (e_call C__law_name (hr.mono (by omega)) (a_cons (e_var 0 rfl (a_cons (e_var 1 rfl (a_nil ⟨a, ns, rfl, _, hp, fun x M1 hx hw hp1 k1 => ?_⟩)))))))
  refine ss_cons (s_asg 4 scope__law_function.nd (e_call C__law_fields (hr.mono (by omega)) (a_cons (e_var 0 rfl (a_cons (e_var 1 rfl (a_cons (e_call C__law_pick (hr.mono (by omega)) (a_cons (e_var 0 rfl (a_cons (e_var 1 rfl (a_cons (e_int (a_nil ⟨a, ns, 4, rfl, _, hp1, by decide, by decide, fun c M2 h2 h2' hp2 k2 => a_nil ?_⟩)))))))))))))))
  have ec : c = ((c.toNat : Nat) : Int) := (Int.toNat_of_nonneg h2).symm
  refine ⟨a, ns, c.toNat, by rw [← ec], _, hp2, by omega, fun fs M3 hfl hfs hp3 k3 => ?_⟩
  refine ss_cons (s_asg 5 scope__law_function.nd (e_call (C__law_tree_kind 3) (hr.mono (by omega)) (a_cons (e_var 0 rfl (a_cons (e_var 1 rfl (a_cons (e_int (a_nil ⟨a, ns, 3, rfl, _, hp3, by omega, by omega, fun k M4 gk hp4 k4 => ?_⟩)))))))))
  refine ss_cons (s_asg 6 scope__law_function.nd (e_lst (a_nil ⟨by show 0 ≤ sizeLine; decide, fun p M5 f5 e5 l5 => ?_⟩)))
  have np := hp4.apart f5
  refine ss_cons (s_for PassesOwn.never (i_rng1 m_range (e_call C__law_pick (hr.mono (by omega)) (a_cons (e_var 0 rfl (a_cons (e_var 1 rfl (a_cons (e_int (a_nil ⟨a, ns, 3, rfl, _, hp4.le l5, by decide, by decide, fun c6 M6 h6 h6' hp6 k6 => ⟨by omega, by omega, ?_⟩⟩))))))))))
  have K4 := ((k1.trans k2).trans k3).trans k4
  refine ⟨fun i σ' M' => ∃ (l : List Str) (d7 : Option D), σ' = [some (.ref a), some (.rol (ns.map D.int)), some (.tup bs), some (.str x), some (.tup (fs.map fD)), some k.d, some (.ref p), d7] ∧ M' p = some (.lst (l.map D.str)) ∧ l.length = i ∧ (∀ s ∈ l, Nm s) ∧ StT M' a t0 ∧ Keep a M M',
    ⟨[], none, rfl, k6 _ _ np e5, rfl, (fun _ h => nomatch h), hp6, (K4.to l5).trans k6⟩, fun _ _ _ _ _ => trivial, ?_, ?_⟩
  · rintro i d σ' M' hd ⟨l, d7, rfl, el, hl, ok, hp7, k7⟩
    obtain ⟨hi, rfl⟩ := rgD_get hd
    refine g_name 7 scope__law_function.nd ?_
    refine ss_one (s_expr (e_lm PySem.F.slot_list_append PySem.F.type_list_append mt_append rd_app (e_var 6 rfl ⟨⟨_, el⟩, ?_⟩)))
    refine a_cons (e_call C__law_name (hr.mono (by omega)) (a_cons (e_var 0 rfl (a_cons (e_var 1 rfl (a_nil ⟨a, ns, rfl, _, hp7, fun y M8 hy hyw hp8 k8 => a_nil ⟨_, k8 _ _ np el, szlt (by rw [List.length_map]; omega), fun M9 e9 k9 => ?_⟩⟩))))))
    refine ⟨l ++ [y], _, rfl, by rw [e9]; simp, by simp [hl], fun z hz => (List.mem_append.mp hz).elim (ok z) (fun z' => by simp at z'; subst z'; exact ⟨hy, hyw⟩), hp8.keep k9 np, (k7.trans k8).other k9 (K4.fresh hp4.some f5)⟩
  · rintro σ' M' ⟨l, d7, rfl, el, hl, ok, hp7, k7⟩
    rw [rgD_length] at hl
    refine ss_one (s_ret (e_tup (a_cons (e_var 3 rfl (a_cons (e_var 4 rfl (a_cons (e_var 5 rfl (a_cons (e_tuplec m_tuple (a_cons (e_var 6 rfl (a_nil ⟨_, el, a_cons (e_var 2 rfl (a_nil ⟨by show 5 ≤ sizeLine; decide, Wk.here ?_⟩))⟩)))))))))))))
    exact q ⟨x, fs, k, l⟩ M' ⟨⟨hx, hw⟩, hfs, by show fs.length ≤ 3; omega, gk, ok, by show l.length ≤ 2; omega⟩ hp7 k7
end
section
variable {P : Program} {w : World} {K : PySem.W.Frag} {mg : Str → Option Value} {base : Heap} {f : Addr} {fd : FuncData}
def spNum : Sp3 := fun ds M Q => ∃ (a : Addr) (ns : List Int), ds = [.ref a, .rol (ns.map D.int)] ∧ ∃ t0 : Int, StT M a t0 ∧ ∀ (i : Int) M', intOk i → StT M' a t0 → Keep a M M' → Q (.int i) M'
theorem ok_num (F : Fun K "_law_number" "_law_number" st__law_number f fd) (b : Binds K fd ["_law_state", "_law_script"] []) (g : mg "_law_number" = some (.ref f))
    (C__law_pick : Callee P w K mg base "_law_pick" 1 ["_law_state", "_law_script", "_law_many"] spPick) :
    Callee P w K mg base "_law_number" 2 ["_law_state", "_law_script"] spNum := by
  refine callee F scope__law_number g b (fun ds M Q ⟨_, _, e, _⟩ => by rw [e]; rfl) (fun cdv A outer s H E hr ds M Q ⟨a, ns, e, t0, hp, q⟩ => ?_)
  subst e
  refine ss_cons (s_asg 2 scope__law_number.nd (e_call C__law_pick hr (a_cons (e_var 0 rfl (a_cons (e_var 1 rfl (a_cons (e_int (a_nil ⟨a, ns, 3, rfl, _, hp, by decide, by decide, fun c M1 h1 h1' hp1 k1 => ?_⟩)))))))))
  refine ss_if (t_eq ⟨_, hr⟩ (e_var 2 rfl (e_int ⟨trivial, ?_⟩)))
  refine ⟨fun hc => ?_, fun hc => ?_⟩
  · exact ss_one (s_ret (e_call C__law_pick hr (a_cons (e_var 0 rfl (a_cons (e_var 1 rfl (a_cons (e_int (a_nil ⟨a, ns, 12, rfl, _, hp1, by decide, by decide, fun c2 M2 h2 h2' hp2 k2 => Wk.here (q c2 M2 ⟨by omega, by omega⟩ hp2 (k1.trans k2))⟩)))))))))
  refine ss_if (t_eq ⟨_, hr⟩ (e_var 2 rfl (e_int ⟨trivial, ?_⟩)))
  refine ⟨fun hc => ?_, fun hc => ?_⟩
  · refine ss_cons (s_asg 3 scope__law_number.nd (e_lst (a_cons (e_int (a_cons (e_int (a_cons (v_neg (e_int (a_cons (e_int (a_cons (v_neg (e_int (a_cons (e_int (a_cons (v_neg (e_int (a_nil ⟨by show 7 ≤ sizeLine; decide, fun p M2 f2 e2 l2 => ?_⟩))))))))))))))))))))
    refine ss_one (s_ret (e_ix (e_var 3 rfl (e_call C__law_pick hr (a_cons (e_var 0 rfl (a_cons (e_var 1 rfl (a_cons (e_int (a_nil ⟨a, ns, 7, rfl, _, hp1.le l2, by decide, by decide, fun c3 M3 h3 h3' hp3 k3 => ?_⟩)))))))))))
    obtain ⟨y, hy, _⟩ := atI_lt (xs := [D.int 0, .int 1, .int (-1), .int 2147483647, .int (-2147483648), .int 2147483646, .int (-2147483647)]) h3 (by show _ < ((7 : Nat) : Int); omega)
    have hym := atI_mem hy
    refine ⟨_, y, k3 _ _ (hp1.apart f2) e2, hy, ?_⟩
    simp only [List.mem_cons, List.not_mem_nil, or_false] at hym
    rcases hym with rfl | rfl | rfl | rfl | rfl | rfl | rfl <;> exact Wk.here (q _ M3 ⟨by decide, by decide⟩ hp3 ((k1.to l2).trans k3))
  · exact ss_one (s_ret (e_sub (e_call C__law_pick hr (a_cons (e_var 0 rfl (a_cons (e_var 1 rfl (a_cons (e_int (a_nil ⟨a, ns, 4294967296, rfl, _, hp1, by decide, by decide, fun c2 M2 h2 h2' hp2 k2 => e_int (Wk.here (q _ M2 ⟨by omega, by omega⟩ hp2 (k1.trans k2)))⟩))))))))))
def spPl : Sp3 := fun ds M Q => ∃ (a : Addr) (ns : List Int), ds = [.ref a, .rol (ns.map D.int)] ∧ ∃ t0 : Int, StT M a t0 ∧ ∀ v ss M', Pk v ss → StT M' a t0 → Keep a M M' → Q (plcD v ss) M'
theorem ok_pl (F : Fun K "_law_place" "_law_place" st__law_place f fd) (b : Binds K fd ["_law_state", "_law_script"] []) (g : mg "_law_place" = some (.ref f)) (m_range : mg "range" = none) (m_tuple : mg "tuple" = none)
    (C__law_pick : Callee P w K mg base "_law_pick" 1 ["_law_state", "_law_script", "_law_many"] spPick)
    (C__law_name : Callee P w K mg base "_law_name" 2 ["_law_state", "_law_script"] spName) :
    Callee P w K mg base "_law_place" 3 ["_law_state", "_law_script"] spPl := by
  refine callee F scope__law_place g b (fun ds M Q ⟨_, _, e, _⟩ => by rw [e]; rfl) (fun cdv A outer s H E hr ds M Q ⟨a, ns, e, t0, hp, q⟩ => ?_)
  subst e
  refine ss_cons (s_asg 2 scope__law_place.nd (e_lst (a_nil ⟨by show 0 ≤ sizeLine; decide, fun p M1 f1 e1 l1 => ?_⟩)))
  have np := hp.apart f1
  refine ss_cons (s_asg 3 scope__law_place.nd (e_call C__law_pick (hr.mono (by omega)) (a_cons (e_var 0 rfl (a_cons (e_var 1 rfl (a_cons (e_int (a_nil ⟨a, ns, 4, rfl, _, hp.le l1, by decide, by decide, fun c M2 h2 h2' hp2 k2 => ?_⟩)))))))))
  refine ss_cut (fun σ' M' => ∃ n : Int, σ' = [some (.ref a), some (.rol (ns.map D.int)), some (.ref p), some (.int n), none, none] ∧ 0 ≤ n ∧ n ≤ 13 ∧ StT M' a t0 ∧ M' p = some (.lst []) ∧ Keep a M M') (s_if (t_eq ⟨_, hr⟩ (e_var 3 rfl (e_int ⟨trivial, ?_⟩)))) ?_
  · refine ⟨fun hc => ?_, fun hc => ss_nil ⟨_, rfl, h2, by omega, hp2, k2 _ _ np e1, l1.keep.trans k2⟩⟩
    exact ss_one (s_asg 3 scope__law_place.nd (e_call C__law_pick (hr.mono (by omega)) (a_cons (e_var 0 rfl (a_cons (e_var 1 rfl (a_cons (e_int (a_nil ⟨a, ns, 14, rfl, _, hp2, by decide, by decide, fun c3 M3 h3 h3' hp3 k3 => ⟨_, rfl, h3, by omega, hp3, k3 _ _ np (k2 _ _ np e1), (l1.keep.trans k2).trans k3⟩⟩)))))))))
  rintro σ' M2 ⟨n, rfl, hn0, hn, hp2, e2, k2⟩
  refine ss_cons (s_for PassesOwn.never (i_rng1 m_range (e_var 3 rfl ⟨by omega, by omega, ?_⟩)))
  refine ⟨fun i σ' M' => ∃ (l : List D) (d4 d5 : Option D), σ' = [some (.ref a), some (.rol (ns.map D.int)), some (.ref p), some (.int n), d4, d5] ∧ M' p = some (.lst l) ∧ l.length = i ∧ (∀ s ∈ l, StOk s) ∧ StT M' a t0 ∧ Keep a M M',
    ⟨[], none, none, rfl, e2, rfl, (fun _ h => nomatch h), hp2, k2⟩, fun _ _ _ _ _ => trivial, ?_, ?_⟩
  · rintro i d σ' M3 hd ⟨l, d4, d5, rfl, el, hl, ok, hp3, k3⟩
    obtain ⟨hi, rfl⟩ := rgD_get hd
    have fin : ∀ (s : D) (M4 M5 : Mp), StOk s → StT M4 a t0 → Keep a M3 M4 → M5 p = some (.lst (l ++ [s])) → Keep p M4 M5 → M5 p = some (.lst (l ++ [s])) ∧ (l ++ [s]).length = i + 1 ∧ (∀ x ∈ l ++ [s], StOk x) ∧ StT M5 a t0 ∧ Keep a M M5 := fun s M4 M5 hs h4 k4 e5 k5 =>
      ⟨e5, by simp [hl], fun x hx => (List.mem_append.mp hx).elim (ok x) (fun z => by simp at z; subst z; exact hs), h4.keep k5 np, (k3.trans k4).other k5 (by
        have : M p = none := by
          cases h : M p with
          | none => rfl
          | some m => rw [l1 _ _ h] at e1; exact absurd f1 (by rw [h]; simp)
        exact this)⟩
    refine g_name 4 scope__law_place.nd ?_
    refine ss_cons (s_asg 5 scope__law_place.nd (e_call C__law_pick (hr.mono (by omega)) (a_cons (e_var 0 rfl (a_cons (e_var 1 rfl (a_cons (e_int (a_nil ⟨a, ns, 4, rfl, _, hp3, by decide, by decide, fun c4 M4 h4 h4' hp4 k4 => ?_⟩)))))))))
    have el4 := k4 _ _ np el
    refine ss_one (s_if (t_eq ⟨_, hr⟩ (e_var 5 rfl (e_int ⟨trivial, ?_⟩))))
    refine ⟨fun hc => ?_, fun hc => ?_⟩
    · exact ss_one (s_expr (e_lm PySem.F.slot_list_append PySem.F.type_list_append mt_append rd_app (e_var 2 rfl ⟨⟨_, el4⟩, a_cons (e_str (a_nil ⟨_, el4, szlt (by omega), fun M5 e5 k5 => ⟨_, _, _, rfl, fin _ M4 M5 (.inl rfl) hp4 k4 e5 k5⟩⟩))⟩)))
    refine ss_one (s_if (t_eq ⟨_, hr⟩ (e_var 5 rfl (e_int ⟨trivial, ?_⟩))))
    refine ⟨fun hc => ?_, fun hc => ?_⟩
    · exact ss_one (s_expr (e_lm PySem.F.slot_list_append PySem.F.type_list_append mt_append rd_app (e_var 2 rfl ⟨⟨_, el4⟩, a_cons (e_str (a_nil ⟨_, el4, szlt (by omega), fun M5 e5 k5 => ⟨_, _, _, rfl, fin _ M4 M5 (.inr (.inl rfl)) hp4 k4 e5 k5⟩⟩))⟩)))
    refine ss_one (s_if (t_eq ⟨_, hr⟩ (e_var 5 rfl (e_int ⟨trivial, ?_⟩))))
    refine ⟨fun hc => ?_, fun hc => ?_⟩
    · exact ss_one (s_expr (e_lm PySem.F.slot_list_append PySem.F.type_list_append mt_append rd_app (e_var 2 rfl ⟨⟨_, el4⟩, a_cons (e_call C__law_name (hr.mono (by omega)) (a_cons (e_var 0 rfl (a_cons (e_var 1 rfl (a_nil ⟨a, ns, rfl, _, hp4, fun x M5 hx hw hp5 k5 => a_nil ⟨_, k5 _ _ np el4, szlt (by omega), fun M6 e6 k6 => ⟨_, _, _, rfl, fin _ M5 M6 (.inr (.inr (.inl ⟨x, ⟨hx, hw⟩, rfl⟩))) hp5 (k4.trans k5) e6 k6⟩⟩⟩))))))⟩)))
    · refine ss_one (s_expr (e_lm PySem.F.slot_list_append PySem.F.type_list_append mt_append rd_app (e_var 2 rfl ⟨⟨_, el4⟩, a_cons (e_call C__law_pick (hr.mono (by omega)) (a_cons (e_var 0 rfl (a_cons (e_var 1 rfl (a_cons (e_ix (e_lst (a_cons (e_int (a_cons (e_int (a_cons (e_pow (e_int (e_int ⟨⟨by decide, by decide, by decide⟩, a_nil ⟨by show 3 ≤ sizeLine; decide, fun p5 M5 f5 e5 l5 => e_call C__law_pick (hr.mono (by omega)) (a_cons (e_var 0 rfl (a_cons (e_var 1 rfl (a_cons (e_int (a_nil ⟨a, ns, 3, rfl, _, hp4.le l5, by decide, by decide, fun c6 M6 h6 h6' hp6 k6 => ?_⟩)))))))⟩⟩))))))))))))))))⟩)))
      obtain ⟨y, hy, _⟩ := atI_lt (xs := [D.int 2, .int 7, .int (10 ^ (10 : Int).toNat)]) h6 (by show _ < ((3 : Nat) : Int); omega)
      have hym := atI_mem hy
      simp only [List.mem_cons, List.not_mem_nil, or_false] at hym
      obtain ⟨m, rfl, hm0, hm1⟩ : ∃ m : Int, y = .int m ∧ 0 < m ∧ m ≤ 10 ^ 10 := by
        rcases hym with rfl | rfl | rfl
        · exact ⟨_, rfl, by decide, by decide⟩
        · exact ⟨_, rfl, by decide, by decide⟩
        · exact ⟨_, rfl, by decide, by decide⟩
      refine ⟨_, _, k6 _ _ (hp4.apart f5) e5, hy, a_nil ⟨a, ns, m, rfl, _, hp6, hm0, by omega, fun c7 M7 h7 h7' hp7 k7 => a_nil ⟨_, k7 _ _ np (k6 _ _ np (l5.at el4)), szlt (by omega), fun M8 e8 k8 => ⟨_, _, _, rfl, fin _ M7 M8 (.inr (.inr (.inr ⟨c7.toNat, by omega, by rw [Int.toNat_of_nonneg h7]⟩))) hp7 (((k4.to l5).trans k6).trans k7) e8 k8⟩⟩⟩⟩
  · rintro σ' M3 ⟨l, d4, d5, rfl, el, hl, ok, hp3, k3⟩
    rw [rgD_length] at hl
    refine ss_one (s_ret (e_tup (a_cons (e_call C__law_name (hr.mono (by omega)) (a_cons (e_var 0 rfl (a_cons (e_var 1 rfl (a_nil ⟨a, ns, rfl, _, hp3, fun x M4 hx hw hp4 k4 => a_cons (e_tuplec m_tuple (a_cons (e_var 2 rfl (a_nil ⟨_, k4 _ _ np el, a_nil ⟨by show 2 ≤ sizeLine; decide, Wk.here (q x l M4 ⟨⟨hx, hw⟩, by omega, ok⟩ hp4 (k3.trans k4))⟩⟩))))⟩)))))))))
end
end My
set_option maxHeartbeats 4000000
namespace My
open PySem L2 DL
/-! ### the number of a tree's nodes -/
mutual
def Ex.nn : Ex → Nat
  | .un _ e => 1 + e.nn
  | .swap _ _ e => 1 + e.nn
  | .op _ l r => 1 + l.nn + r.nn
  | .tup l => 1 + Ex.nns l
  | .rcd _ l => 1 + Ex.nns l
  | .call _ l => 1 + Ex.nns l
  | _ => 1
def Ex.nns : List Ex → Nat
  | [] => 0
  | e :: r => e.nn + Ex.nns r
end
theorem Ex.nns_app : ∀ (l : List Ex) (e : Ex), Ex.nns (l ++ [e]) = Ex.nns l + e.nn
  | [], e => by simp only [List.nil_append, Ex.nns]; omega
  | x :: r, e => by
    rw [List.cons_append]
    simp only [Ex.nns]
    rw [Ex.nns_app r e]
    omega
section
variable {P : Program} {w : World} {K : PySem.W.Frag} {mg : Str → Option Value} {base : Heap} {f : Addr} {fd : FuncData}
theorem EOk.mono : ∀ {n m : Nat} {e : Ex}, EOk n e → n ≤ m → EOk m e
  | 0, _, _, h, _ => nomatch h
  | n + 1, 0, _, _, h => by omega
  | n + 1, m + 1, _, .int h, _ => .int h
  | n + 1, m + 1, _, .bool b, _ => .bool b
  | n + 1, m + 1, _, .unit, _ => .unit
  | n + 1, m + 1, _, .none h, _ => .none h
  | n + 1, m + 1, _, .use h, _ => .use h
  | n + 1, m + 1, _, .is h, _ => .is h
  | n + 1, m + 1, _, .bor h, _ => .bor h
  | n + 1, m + 1, _, .un hw he, h => .un hw (EOk.mono he (by omega))
  | n + 1, m + 1, _, .swap hp he, h => .swap hp (EOk.mono he (by omega))
  | n + 1, m + 1, _, .op hs hl hr, h => .op hs (EOk.mono hl (by omega)) (EOk.mono hr (by omega))
  | n + 1, m + 1, _, .tup h1 h2 h3, h => .tup h1 h2 fun e he => EOk.mono (h3 e he) (by omega)
  | n + 1, m + 1, _, .rcd h1 h2 h3, h => .rcd h1 h2 fun e he => EOk.mono (h3 e he) (by omega)
  | n + 1, m + 1, _, .call h1 h2 h3, h => .call h1 h2 fun e he => EOk.mono (h3 e he) (by omega)
def spEx (n : Nat) : Sp3 := fun ds M Q => ∃ (a : Addr) (ns : List Int) (room : Nat), ds = [.ref a, .rol (ns.map D.int), .int (room : Int)] ∧ ∃ t0 : Int, StT M a t0 ∧ 1 ≤ room ∧ room ≤ n ∧ ∀ e M', EOk room e → e.nn ≤ 1 + 7 * (t0 - 1).toNat → StT M' a (t0 - (e.nn : Int)) → Keep a M M' → Q e.d M'
theorem ok_ex (F : Fun K "_law_expression" "_law_expression" st__law_expression f fd) (b : Binds K fd ["_law_state", "_law_script", "_law_room"] []) (g : mg "_law_expression" = some (.ref f)) (m_int : mg "int" = none) (m_range : mg "range" = none) (m_tuple : mg "tuple" = none)
    (C__law_pick : Callee P w K mg base "_law_pick" 1 ["_law_state", "_law_script", "_law_many"] spPick)
    (C__law_big : Callee P w K mg base "_law_big" 2 ["_law_state", "_law_script"] spBig)
    (C__law_name : Callee P w K mg base "_law_name" 2 ["_law_state", "_law_script"] spName)
    (C__law_number : Callee P w K mg base "_law_number" 2 ["_law_state", "_law_script"] spNum)
    (C__law_place : Callee P w K mg base "_law_place" 3 ["_law_state", "_law_script"] spPl)
    (C__law_tree_kind : ∀ n, Callee P w K mg base "_law_tree_kind" (n + 2) ["_law_state", "_law_script", "_law_room"] (spTree n)) :
    ∀ n, Callee P w K mg base "_law_expression" (n + 5) ["_law_state", "_law_script", "_law_room"] (spEx n)
  | 0 => Callee.none g F.kp b fun ds M Q ⟨_, _, room, _, _, _, h1, h2, _⟩ => by omega
  | n + 1 => by
    have C__law_expression := ok_ex F b g m_int m_range m_tuple C__law_pick C__law_big C__law_name C__law_number C__law_place C__law_tree_kind n
    refine callee F scope__law_expression g b (fun ds M Q ⟨_, _, _, e, _⟩ => by rw [e]; rfl) (fun cdv A outer s H E hr ds M Q ⟨a, ns, room, e, t0, hp, hr1, hrn, q⟩ => ?_)
    subst e
    obtain ⟨m, rfl⟩ : ∃ m, room = m + 1 := ⟨room - 1, by omega⟩
    obtain ⟨x1, x2, x3, ex, hx1, hx2, hx3, hx4⟩ := id hp
    refine ss_cons (s_asgG (e_sub (e_ix (e_var 0 rfl (e_int ⟨_, _, ex, rfl, e_int (g_sub (e_var 0 rfl (e_int ⟨_, _, ex, rfl, fun M1 e1 k1 => ?_⟩)))⟩)))))
    have hp1 : StT M1 a (t0 - 1) := ⟨_, _, _, e1, hx1, hx2, hx3, hx4⟩
    have q1 : ∀ e M', e.nn = 1 → EOk (m + 1) e → StT M' a (t0 - 1) → Keep a M M' → Q e.d M' := fun e M' h1 h2 h3 h4 => q e M' h2 (by omega) (by rw [h1]; exact h3) h4
    refine ss_cons (s_asg 3 scope__law_expression.nd (e_call C__law_pick (hr.mono (by omega)) (a_cons (e_var 0 rfl (a_cons (e_var 1 rfl (a_cons (e_int (a_nil ⟨a, ns, 16, rfl, _, hp1, by decide, by decide, fun c M2 h2 h2' hp2 k2 => ?_⟩)))))))))
    have K2 := k1.trans k2
    obtain ⟨y1, y2, y3, ey, _⟩ := id hp2
    have e2 := ey
    refine ss_cut (fun σ' M' => ∃ c : Int, σ' = [some (.ref a), some (.rol (ns.map D.int)), some (.int ((m + 1 : Nat) : Int)), some (.int c), none, none, none, none, none, none] ∧ M' = M2 ∧ 0 ≤ c ∧ c < 16 ∧ (m = 0 → c < 7) ∧ (t0 < 2 → c < 7)) (s_if (t_w (w_or (t_lt (e_var 2 rfl (e_int ?_)))))) ?_
    · have go : ∀ c : Int, 0 ≤ c % 7 ∧ c % 7 < 7 := fun c => ⟨Int.emod_nonneg _ (by decide), Int.emod_lt_of_pos _ (by decide)⟩
      have g7 := go c
      refine ⟨fun hc => BQ.t ?_, fun hc => ?_⟩
      · refine ss_one (s_asg 3 scope__law_expression.nd (e_mod (e_intc m_int (a_cons (e_var 3 rfl (a_nil (e_int ⟨by show (0 : Int) < _; decide, ?_⟩)))))))
        exact ⟨_, rfl, rfl, g7.1, by omega, fun _ => g7.2, fun _ => g7.2⟩
      have hc := of_decide_eq_false hc
      refine w_or1 (t_lt (e_ix (e_var 0 rfl (e_int ⟨_, _, e2, rfl, e_int ⟨fun hc2 => ?_, fun hc2 => ss_nil ⟨_, rfl, rfl, h2, h2', fun h => by omega, fun h => by have := of_decide_eq_false hc2; omega⟩⟩⟩))))
      refine ss_one (s_asg 3 scope__law_expression.nd (e_mod (e_intc m_int (a_cons (e_var 3 rfl (a_nil (e_int ⟨by show (0 : Int) < _; decide, ?_⟩)))))))
      exact ⟨_, rfl, rfl, g7.1, by omega, fun _ => g7.2, fun _ => g7.2⟩
    rintro σ' M' ⟨c, rfl, rfl, h2, h2', hm7, ht7⟩
    have er : ((m + 1 : Nat) : Int) - 1 = (m : Int) := by omega
    have rec_ : ∀ (t1 : Int) (M3 : Mp) (Q' : QD), 1 ≤ m → StT M3 a t1 → (∀ e M', EOk m e → e.nn ≤ 1 + 7 * (t1 - 1).toNat → StT M' a (t1 - (e.nn : Int)) → Keep a M3 M' → Q' e.d M') → spEx n [.ref a, .rol (ns.map D.int), .int (((m + 1 : Nat) : Int) - 1)] M3 Q' := fun t1 M3 Q' hm h1 h3 =>
      ⟨a, ns, m, by rw [er], t1, h1, hm, by omega, h3⟩
    refine ss_if (t_eq ⟨_, hr⟩ (e_var 3 rfl (e_int ⟨trivial, ?_⟩)))
    refine ⟨fun hc => ?_, fun hc0 => ?_⟩
    · refine ss_one (s_ret (e_tup (a_cons (e_str (a_cons (e_call C__law_number (hr.mono (by omega)) (a_cons (e_var 0 rfl (a_cons (e_var 1 rfl (a_nil ⟨a, ns, rfl, _, hp2, fun i M3 hi hp3 k3 => a_nil ⟨by show 2 ≤ sizeLine; decide, Wk.here ?_⟩⟩)))))))))))
      have := q1 (.int i) M3 (by simp only [Ex.nn]) (.int hi) hp3 (K2.trans k3)
      simpa only [Ex.d] using this
    refine ss_if (t_eq ⟨_, hr⟩ (e_var 3 rfl (e_int ⟨trivial, ?_⟩)))
    refine ⟨fun hc => ?_, fun hc1 => ?_⟩
    · refine ss_one (s_ret (e_tup (a_cons (e_str (a_cons (e_eq ⟨_, hr⟩ (e_call C__law_pick (hr.mono (by omega)) (a_cons (e_var 0 rfl (a_cons (e_var 1 rfl (a_cons (e_int (a_nil ⟨a, ns, 2, rfl, _, hp2, by decide, by decide, fun i M3 hi hi' hp3 k3 => e_int ⟨trivial, a_nil ⟨by show 2 ≤ sizeLine; decide, Wk.here ?_⟩⟩⟩))))))))))))))
      have := q1 (.bool (D.eqv (.int i) (.int 1))) M3 (by simp only [Ex.nn]) (.bool _) hp3 (K2.trans k3)
      simpa only [Ex.d] using this
    refine ss_if (t_eq ⟨_, hr⟩ (e_var 3 rfl (e_int ⟨trivial, ?_⟩)))
    refine ⟨fun hc => ?_, fun hc2 => ?_⟩
    · refine ss_one (s_ret (e_tup (a_cons (e_str (a_nil ⟨by show 1 ≤ sizeLine; decide, Wk.here ?_⟩)))))
      have := q1 .unit M' (by simp only [Ex.nn]) .unit hp2 K2
      simpa only [Ex.d] using this
    refine ss_if (t_eq ⟨_, hr⟩ (e_var 3 rfl (e_int ⟨trivial, ?_⟩)))
    refine ⟨fun hc => ?_, fun hc3 => ?_⟩
    · refine ss_one (s_ret (e_tup (a_cons (e_str (a_cons (e_call (C__law_tree_kind 3) (hr.mono (by omega)) (a_cons (e_var 0 rfl (a_cons (e_var 1 rfl (a_cons (e_int (a_nil ⟨a, ns, 3, rfl, _, hp2, by omega, by omega, fun k M3 hk hp3 k3 => a_nil ⟨by show 2 ≤ sizeLine; decide, Wk.here ?_⟩⟩)))))))))))))
      have := q1 (.none k) M3 (by simp only [Ex.nn]) (.none hk) hp3 (K2.trans k3)
      simpa only [Ex.d] using this
    refine ss_if (t_eq ⟨_, hr⟩ (e_var 3 rfl (e_int ⟨trivial, ?_⟩)))
    refine ⟨fun hc => ?_, fun hc5 => ?_⟩
    · refine ss_one (s_ret (e_tup (a_cons (e_str (a_cons (e_ix (e_lst (a_cons (e_str (a_cons (e_str (a_nil ⟨by show 2 ≤ sizeLine; decide, fun p3 M3 f3 e3 l3 => e_call C__law_pick (hr.mono (by omega)) (a_cons (e_var 0 rfl (a_cons (e_var 1 rfl (a_cons (e_int (a_nil ⟨a, ns, 2, rfl, _, hp2.le l3, by decide, by decide, fun i M4 hi hi' hp4 k4 => ?_⟩)))))))⟩))))))))))))
      obtain ⟨b, hb⟩ : ∃ b : Bool, atI [D.str "shared", D.str "exclusive"] i = some (.str (borS b)) := by
        rcases (show i = 0 ∨ i = 1 by omega) with rfl | rfl
        · exact ⟨false, rfl⟩
        · exact ⟨true, rfl⟩
      refine ⟨_, _, k4 _ _ (hp2.apart f3) e3, hb, a_cons (e_call C__law_place (hr.mono (by omega)) (a_cons (e_var 0 rfl (a_cons (e_var 1 rfl (a_nil ⟨a, ns, rfl, _, hp4, fun v ss M5 hpl hp5 k5 => a_nil ⟨by show 3 ≤ sizeLine; decide, Wk.here ?_⟩⟩))))))⟩
      have := q1 (.bor b v ss) M5 (by simp only [Ex.nn]) (.bor hpl) hp5 (((K2.to l3).trans k4).trans k5)
      simpa only [Ex.d] using this
    refine ss_if (t_lt (e_var 3 rfl (e_int ?_)))
    refine ⟨fun hc => ?_, fun hc7 => ?_⟩
    · have hc := of_decide_eq_true hc
      rw [eqv_int] at hc0 hc1 hc2 hc3 hc5
      have hc0 := of_decide_eq_false hc0
      have hc1 := of_decide_eq_false hc1
      have hc2 := of_decide_eq_false hc2
      have hc3 := of_decide_eq_false hc3
      have hc5 := of_decide_eq_false hc5
      refine ss_one (s_ret (e_tup (a_cons (e_ix (e_lst (a_cons (e_str (a_cons (e_str (a_cons (e_str (a_nil ⟨by show 3 ≤ sizeLine; decide, fun p3 M3 f3 e3 l3 => e_sub (e_var 3 rfl (e_int ?_))⟩))))))))))))
      rcases (show c = 4 ∨ c = 6 by omega) with rfl | rfl
      · refine ⟨_, .str "use", e3, rfl, a_cons (e_call C__law_place (hr.mono (by omega)) (a_cons (e_var 0 rfl (a_cons (e_var 1 rfl (a_nil ⟨a, ns, rfl, _, hp2.le l3, fun v ss M5 hpl hp5 k5 => a_nil ⟨by show 2 ≤ sizeLine; decide, Wk.here ?_⟩⟩))))))⟩
        have := q1 (.use v ss) M5 (by simp only [Ex.nn]) (.use hpl) hp5 ((K2.to l3).trans k5)
        simpa only [Ex.d] using this
      · refine ⟨_, .str "is", e3, rfl, a_cons (e_call C__law_place (hr.mono (by omega)) (a_cons (e_var 0 rfl (a_cons (e_var 1 rfl (a_nil ⟨a, ns, rfl, _, hp2.le l3, fun v ss M5 hpl hp5 k5 => a_nil ⟨by show 2 ≤ sizeLine; decide, Wk.here ?_⟩⟩))))))⟩
        have := q1 (.is v ss) M5 (by simp only [Ex.nn]) (.is hpl) hp5 ((K2.to l3).trans k5)
        simpa only [Ex.d] using this
    have hc7 := of_decide_eq_false hc7
    have ht2 : 2 ≤ t0 := by
      by_cases h : t0 < 2
      · exact absurd (ht7 h) hc7
      · omega
    have hm1 : 1 ≤ m := by
      rcases Nat.eq_zero_or_pos m with h | h
      · exact absurd (hm7 h) hc7
      · exact h
    refine ss_if (t_lt (e_var 3 rfl (e_int ?_)))
    refine ⟨fun hc => ?_, fun hc10 => ?_⟩
    · refine ss_cons (s_asg 4 scope__law_expression.nd (e_ix (e_lst (a_cons (e_str (a_cons (e_str (a_cons (e_str (a_cons (e_str (a_nil ⟨by show 4 ≤ sizeLine; decide, fun p3 M3 f3 e3 l3 => e_call C__law_pick (hr.mono (by omega)) (a_cons (e_var 0 rfl (a_cons (e_var 1 rfl (a_cons (e_int (a_nil ⟨a, ns, 4, rfl, _, hp2.le l3, by decide, by decide, fun i M4 hi hi' hp4 k4 => ?_⟩)))))))⟩))))))))))))
      obtain ⟨y, hy, _⟩ := atI_lt (xs := unW.map D.str) hi (by show _ < ((4 : Nat) : Int); omega)
      obtain ⟨wd, hwd, rfl⟩ := List.mem_map.mp (atI_mem hy)
      refine ⟨_, _, k4 _ _ (hp2.apart f3) e3, hy, ?_⟩
      refine ss_one (s_ret (e_tup (a_cons (e_var 4 rfl (a_cons (e_call C__law_expression hr (a_cons (e_var 0 rfl (a_cons (e_var 1 rfl (a_cons (e_sub (e_var 2 rfl (e_int (a_nil ?_)))))))))))))))
      refine rec_ _ _ _ hm1 hp4 fun e M5 he hn hp5 k5 => a_nil ⟨by show 2 ≤ sizeLine; decide, Wk.here ?_⟩
      have := q (.un wd e) M5 (.un hwd he) (by simp only [Ex.nn]; omega) (by simp only [Ex.nn]; rw [show t0 - ((1 + e.nn : Nat) : Int) = t0 - 1 - (e.nn : Int) by omega]; exact hp5) (((K2.to l3).trans k4).trans k5)
      simpa only [Ex.d] using this
    refine ss_if (t_eq ⟨_, hr⟩ (e_var 3 rfl (e_int ⟨trivial, ?_⟩)))
    refine ⟨fun hc => ?_, fun hc11 => ?_⟩
    · refine ss_one (s_ret (e_tup (a_cons (e_str (a_cons (e_call C__law_place (hr.mono (by omega)) (a_cons (e_var 0 rfl (a_cons (e_var 1 rfl (a_nil ⟨a, ns, rfl, _, hp2, fun v ss M3 hpl hp3 k3 => a_cons (e_call C__law_expression hr (a_cons (e_var 0 rfl (a_cons (e_var 1 rfl (a_cons (e_sub (e_var 2 rfl (e_int (a_nil ?_))))))))))⟩)))))))))))
      refine rec_ _ _ _ hm1 hp3 fun e M5 he hn hp5 k5 => a_nil ⟨by show 3 ≤ sizeLine; decide, Wk.here ?_⟩
      have := q (.swap v ss e) M5 (.swap hpl he) (by simp only [Ex.nn]; omega) (by simp only [Ex.nn]; rw [show t0 - ((1 + e.nn : Nat) : Int) = t0 - 1 - (e.nn : Int) by omega]; exact hp5) ((K2.trans k3).trans k5)
      simpa only [Ex.d] using this
    refine ss_if (t_lt (e_var 3 rfl (e_int ?_)))
    refine ⟨fun hc => ?_, fun hc13 => ?_⟩
    · refine ss_cons (s_asg 5 scope__law_expression.nd (e_ix (e_lst (a_cons (e_str (a_cons (e_str (a_cons (e_str (a_cons (e_str (a_cons (e_str (a_cons (e_str (a_cons (e_str (a_nil ⟨by show 7 ≤ sizeLine; decide, fun p3 M3 f3 e3 l3 => e_call C__law_pick (hr.mono (by omega)) (a_cons (e_var 0 rfl (a_cons (e_var 1 rfl (a_cons (e_int (a_nil ⟨a, ns, 7, rfl, _, hp2.le l3, by decide, by decide, fun i M4 hi hi' hp4 k4 => ?_⟩)))))))⟩))))))))))))))))))
      obtain ⟨y, hy, _⟩ := atI_lt (xs := opW.map D.str) hi (by show _ < ((7 : Nat) : Int); omega)
      obtain ⟨wd, hwd, rfl⟩ := List.mem_map.mp (atI_mem hy)
      refine ⟨_, _, k4 _ _ (hp2.apart f3) e3, hy, ?_⟩
      refine ss_cons (s_asg 6 scope__law_expression.nd (e_call C__law_expression hr (a_cons (e_var 0 rfl (a_cons (e_var 1 rfl (a_cons (e_sub (e_var 2 rfl (e_int (a_nil ?_)))))))))))
      refine rec_ _ _ _ hm1 hp4 fun e M5 he hn hp5 k5 => ?_
      refine ss_one (s_ret (e_tup (a_cons (e_str (a_cons (e_var 5 rfl (a_cons (e_var 6 rfl (a_cons (e_call C__law_expression hr (a_cons (e_var 0 rfl (a_cons (e_var 1 rfl (a_cons (e_sub (e_var 2 rfl (e_int (a_nil ?_)))))))))))))))))))
      refine rec_ _ _ _ hm1 hp5 fun e2 M6 he2 hn2 hp6 k6 => a_nil ⟨by show 4 ≤ sizeLine; decide, Wk.here ?_⟩
      have := q (.op wd e e2) M6 (.op hwd he he2) (by simp only [Ex.nn]; omega) (by simp only [Ex.nn]; rw [show t0 - ((1 + e.nn + e2.nn : Nat) : Int) = t0 - 1 - (e.nn : Int) - (e2.nn : Int) by omega]; exact hp6) ((((K2.to l3).trans k4).trans k5).trans k6)
      simpa only [Ex.d] using this
    refine ss_cons (s_asg 7 scope__law_expression.nd (e_lst (a_nil ⟨by show 0 ≤ sizeLine; decide, fun p M3 f3 e3 l3 => ?_⟩)))
    have np := hp2.apart f3
    refine ss_cons (s_asg 8 scope__law_expression.nd (e_call C__law_pick (hr.mono (by omega)) (a_cons (e_var 0 rfl (a_cons (e_var 1 rfl (a_cons (e_int (a_nil ⟨a, ns, 5, rfl, _, hp2.le l3, by decide, by decide, fun c4 M4 h4 h4' hp4 k4 => ?_⟩)))))))))
    have e4 := k4 _ _ np e3
    have K4 := (K2.to l3).trans k4
    refine ss_cut (fun σ' M' => ∃ n8 : Int, σ' = [some (.ref a), some (.rol (ns.map D.int)), some (.int ((m + 1 : Nat) : Int)), some (.int c), none, none, none, some (.ref p), some (.int n8), none] ∧ M' = M4 ∧ 0 ≤ n8 ∧ n8 ≤ 6 ∧ (c = 13 → 2 ≤ n8)) (s_if (t_eq ⟨_, hr⟩ (e_var 3 rfl (e_int ⟨trivial, ?_⟩)))) ?_
    · rw [eqv_int]
      exact ⟨fun hc => ss_one (s_asg 8 scope__law_expression.nd (e_add (e_int (e_var 8 rfl ⟨_, rfl, rfl, by omega, by omega, fun _ => by omega⟩)))), fun hc => ss_nil ⟨_, rfl, rfl, h4, by omega, fun h => absurd h (of_decide_eq_false hc)⟩⟩
    rintro σ' M5 ⟨n8, rfl, rfl, hn0, hn6, hn13⟩
    refine ss_cons (s_for PassesOwn.never (i_rng1 m_range (e_var 8 rfl ⟨by omega, by omega, ?_⟩)))
    refine ⟨fun i σ' M' => ∃ (l : List Ex) (d9 : Option D), σ' = [some (.ref a), some (.rol (ns.map D.int)), some (.int ((m + 1 : Nat) : Int)), some (.int c), none, none, none, some (.ref p), some (.int n8), d9] ∧ M' p = some (.lst (l.map Ex.d)) ∧ l.length = i ∧ (∀ e ∈ l, EOk m e) ∧ StT M' a (t0 - 1 - (Ex.nns l : Int)) ∧ (Ex.nns l : Int) ≤ 7 * (t0 - 1) - 7 + i ∧ Keep a M M',
      ⟨[], none, rfl, e4, rfl, (fun _ h => nomatch h), by simp only [Ex.nns]; rw [show t0 - 1 - ((0 : Nat) : Int) = t0 - 1 by omega]; exact hp4, by simp only [Ex.nns]; omega, K4⟩, fun _ _ _ _ _ => trivial, ?_, ?_⟩
    · rintro i d σ' M6 hd ⟨l, d9, rfl, el, hl, ok, hp6, hs6, k6⟩
      obtain ⟨hi, rfl⟩ := rgD_get hd
      refine g_name 9 scope__law_expression.nd ?_
      refine ss_one (s_expr (e_lm PySem.F.slot_list_append PySem.F.type_list_append mt_append rd_app (e_var 7 rfl ⟨⟨_, el⟩, a_cons (e_call C__law_expression hr (a_cons (e_var 0 rfl (a_cons (e_var 1 rfl (a_cons (e_sub (e_var 2 rfl (e_int (a_nil ?_))))))))))⟩)))
      refine rec_ _ _ _ hm1 hp6 fun e M7 he hn hp7 k7 => a_nil ⟨_, k7 _ _ np el, szlt (by rw [List.length_map]; omega), fun M8 e8 k8 => ?_⟩
      exact ⟨l ++ [e], _, rfl, by rw [e8]; simp, by simp [hl], fun x hx => (List.mem_append.mp hx).elim (ok x) (fun z => by simp at z; subst z; exact he), by rw [Ex.nns_app, show t0 - 1 - ((Ex.nns l + e.nn : Nat) : Int) = t0 - 1 - (Ex.nns l : Int) - (e.nn : Int) by omega]; exact hp7.keep k8 np, by rw [Ex.nns_app]; omega, (k6.trans k7).other k8 (K2.fresh hp2.some f3)⟩
    · rintro σ' M6 ⟨l, d9, rfl, el, hl, ok, hp6, hs6, k6⟩
      rw [rgD_length] at hl hs6
      refine ss_if (t_eq ⟨_, hr⟩ (e_var 3 rfl (e_int ⟨trivial, ?_⟩)))
      rw [eqv_int]
      refine ⟨fun hc => ?_, fun hc => ?_⟩
      · have hc := hn13 (of_decide_eq_true hc)
        refine ss_one (s_ret (e_tup (a_cons (e_str (a_cons (e_tuplec m_tuple (a_cons (e_var 7 rfl (a_nil ⟨_, el, a_nil ⟨by show 2 ≤ sizeLine; decide, Wk.here ?_⟩⟩)))))))))
        have := q (.tup l) M6 (.tup (by omega) (by omega) ok) (by simp only [Ex.nn]; omega) (by simp only [Ex.nn]; rw [show t0 - ((1 + Ex.nns l : Nat) : Int) = t0 - 1 - (Ex.nns l : Int) by omega]; exact hp6) k6
        simpa only [Ex.d, Ex.ds_map] using this
      refine ss_if (t_eq ⟨_, hr⟩ (e_var 3 rfl (e_int ⟨trivial, ?_⟩)))
      refine ⟨fun hc => ?_, fun hc => ?_⟩
      · refine ss_one (s_ret (e_tup (a_cons (e_str (a_cons (e_call C__law_big (hr.mono (by omega)) (a_cons (e_var 0 rfl (a_cons (e_var 1 rfl (a_nil ⟨a, ns, rfl, _, hp6, fun x M7 hx hp7 k7 => a_cons (e_tuplec m_tuple (a_cons (e_var 7 rfl (a_nil ⟨_, k7 _ _ np el, a_nil ⟨by show 3 ≤ sizeLine; decide, Wk.here ?_⟩⟩))))⟩)))))))))))
        have := q (.rcd x l) M7 (.rcd hx (by omega) ok) (by simp only [Ex.nn]; omega) (by simp only [Ex.nn]; rw [show t0 - ((1 + Ex.nns l : Nat) : Int) = t0 - 1 - (Ex.nns l : Int) by omega]; exact hp7) (k6.trans k7)
        simpa only [Ex.d, Ex.ds_map] using this
      · refine ss_one (s_ret (e_tup (a_cons (e_str (a_cons (e_call C__law_name (hr.mono (by omega)) (a_cons (e_var 0 rfl (a_cons (e_var 1 rfl (a_nil ⟨a, ns, rfl, _, hp6, fun x M7 hx hw hp7 k7 => a_cons (e_tuplec m_tuple (a_cons (e_var 7 rfl (a_nil ⟨_, k7 _ _ np el, a_nil ⟨by show 3 ≤ sizeLine; decide, Wk.here ?_⟩⟩))))⟩)))))))))))
        have := q (.call x l) M7 (.call ⟨hx, hw⟩ (by omega) ok) (by simp only [Ex.nn]; omega) (by simp only [Ex.nn]; rw [show t0 - ((1 + Ex.nns l : Nat) : Int) = t0 - 1 - (Ex.nns l : Int) by omega]; exact hp7) (k6.trans k7)
        simpa only [Ex.d, Ex.ds_map] using this
end
end My
set_option maxHeartbeats 4000000
namespace My
open PySem L2 DL
theorem flat_snoc {α β : Type} {f : α → List β} {l : List α} {i : Nat} {x : α} (h : l[i]? = some x) : ((l.take (i + 1)).map f).flatten = ((l.take i).map f).flatten ++ f x := by
  rw [List.take_add_one, h]
  simp
theorem flat_len {α β : Type} {f : α → List β} {n : Nat} : ∀ {l : List α}, (∀ x ∈ l, (f x).length ≤ n) → (l.map f).flatten.length ≤ l.length * n
  | [], _ => Nat.zero_le _
  | x :: r, h => by
    have h1 := h x List.mem_cons_self
    have h2 := flat_len (f := f) (n := n) (l := r) fun z hz => h z (List.mem_cons_of_mem _ hz)
    rw [List.map_cons, List.flatten_cons, List.length_append, List.length_cons, Nat.add_mul, Nat.one_mul]
    omega
section
variable {P : Program} {w : World} {K : PySem.W.Frag} {mg : Str → Option Value} {base : Heap} {f : Addr} {fd : FuncData}
theorem wk_len2 : ∀ (n : Nat) (k : Kd), Tk (n + 1) k → k.wk.length ≤ 30 * 7 ^ n
  | n, k, h => by
    have p7 : 1 ≤ 7 ^ n := Nat.one_le_pow _ _ (by decide)
    have sub : ∀ x : Kd, k.wf = x.wf → k.lev = x.lev + 1 → k.rn = x.rn → ∃ m, n = m + 1 ∧ x.wk.length ≤ 30 * 7 ^ m ∧ 7 ^ n = 7 ^ m * 7 ∧ 1 ≤ 7 ^ m := fun x h1 h2 h3 => by
      have hl := h.lev
      have hp := x.lev_pos
      obtain ⟨m, rfl⟩ : ∃ m, n = m + 1 := ⟨n - 1, by omega⟩
      exact ⟨m, rfl, wk_len2 m x ⟨h1.symm.trans h.wf, by omega, fun y hy => h.rn y (by rw [h3]; exact hy)⟩, Nat.pow_succ .., Nat.one_le_pow _ _ (by decide)⟩
    have two : ∀ (w : Str) (x : Kd), k.wf = x.wf → k.lev = x.lev + 1 → k.rn = x.rn → w.length ≤ 10 → (w ++ x.wk).length ≤ 30 * 7 ^ n := fun w x h1 h2 h3 hw => by
      obtain ⟨m, _, a, b, c⟩ := sub x h1 h2 h3
      rw [str_len_app]
      omega
    cases k with
    | int => simp only [Kd.wk]; have : ("int" : Str).length ≤ 30 := by decide +kernel
             omega
    | bool => simp only [Kd.wk]; have : ("bool" : Str).length ≤ 30 := by decide +kernel
              omega
    | unit => simp only [Kd.wk]; have : ("unit" : Str).length ≤ 30 := by decide +kernel
              omega
    | rcd x =>
      have hb := (h.rn x (by simp [Kd.rn])).sok.1
      simp only [Kd.wk]
      omega
    | box x => simp only [Kd.wk]; exact two _ x (by simp only [Kd.wf]) rfl (by simp only [Kd.rn]) (by decide +kernel)
    | maybe x => simp only [Kd.wk]; exact two _ x (by simp only [Kd.wf]) rfl (by simp only [Kd.rn]) (by decide +kernel)
    | shared x => simp only [Kd.wk]; exact two _ x (by simp only [Kd.wf]) rfl (by simp only [Kd.rn]) (by decide +kernel)
    | excl x => simp only [Kd.wk]; exact two _ x (by simp only [Kd.wf]) rfl (by simp only [Kd.rn]) (by decide +kernel)
    | tup l =>
      have hl := h.len
      obtain ⟨x, hx, _⟩ := Kd.levs_mem l (by rintro rfl; simp at hl)
      have hlv := h.lev
      simp only [Kd.lev] at hlv
      have hxl := (Kd.levs_le l _).mp (Nat.le_refl _) x hx
      have hxp := x.lev_pos
      obtain ⟨m, rfl⟩ : ∃ m, n = m + 1 := ⟨n - 1, by omega⟩
      have hj := join_len (s := ", ") (B := 30 * 7 ^ m) (l := l.map Kd.wk) fun y hy => by
        obtain ⟨k, hk, rfl⟩ := List.mem_map.mp hy
        exact wk_len2 m k (h.part k hk)
      have e2 : (", " : Str).length = 2 := by decide +kernel
      have e1 : ("(" : Str).length = 1 := by decide +kernel
      have e3 : (")" : Str).length = 1 := by decide +kernel
      rw [List.length_map, e2] at hj
      have hj' : l.length * (30 * 7 ^ m + 2) ≤ 6 * (30 * 7 ^ m + 2) := Nat.mul_le_mul_right _ hl.2
      have p7m : 1 ≤ 7 ^ m := Nat.one_le_pow _ _ (by decide)
      simp only [Kd.wk, Kd.wks_map]
      rw [str_len_app, str_len_app, e1, e3, Nat.pow_succ]
      omega
theorem st_len {s : D} (h : StOk s) : (stS s).length ≤ 22 ∧ (stR s).length ≤ 2 ∧ ∀ t ∈ stR s, t.cps.toList ≠ [] := by
  have ed : ("." : Str).length = 1 := by decide +kernel
  rcases h with rfl | rfl | ⟨x, hx, rfl⟩ | ⟨i, hi, rfl⟩
  · exact ⟨by decide +kernel, by decide +kernel, by decide +kernel⟩
  · exact ⟨by decide +kernel, by decide +kernel, by decide +kernel⟩
  · have hq : ¬ (x = "?" ∨ x = "^") := fun h => by
      rcases h with rfl | rfl
      · exact name_A hx.nm (by decide +kernel)
      · exact name_A hx.nm (by decide +kernel)
    simp only [stR, stS, if_neg hq]
    have := hx.nm.len
    refine ⟨by rw [str_len_app, ed]; omega, Nat.le_refl 2, fun t ht => ?_⟩
    simp only [List.mem_cons, List.not_mem_nil, or_false] at ht
    rcases ht with rfl | rfl
    · decide +kernel
    · exact hx.ne
  · have := num_len (i := (i : Int)) (by omega)
    refine ⟨by show ("." ++ strD _).length ≤ 22; rw [str_len_app, ed]; omega, Nat.le_refl 2, fun t ht => ?_⟩
    simp only [stR, List.mem_cons, List.not_mem_nil, or_false] at ht
    rcases ht with rfl | rfl
    · decide +kernel
    · obtain ⟨c, cs, e, _⟩ := num_text (i : Int)
      rw [e]; simp
theorem pl_bnd {v : Str} {ss : List D} (h : Pk v ss) : (plS v ss).length ≤ 310 ∧ (plR v ss).length ≤ 30 ∧ ∀ t ∈ plR v ss, t.cps.toList ≠ [] := by
  have h1 := join_len (s := "") (B := 22) (l := ss.map stS) fun x hx => by
    obtain ⟨s, hs, rfl⟩ := List.mem_map.mp hx
    exact (st_len (h.st s hs)).1
  have h2 := flat_len (f := stR) (n := 2) (l := ss) fun s hs => (st_len (h.st s hs)).2.1
  have e0 : ("" : Str).length = 0 := rfl
  have h3 := h.l13
  have h4 := h.nm.nm.len
  rw [List.length_map, e0] at h1
  refine ⟨by rw [plS, str_len_app]; omega, by rw [plR, List.length_cons]; omega, fun t ht => ?_⟩
  rcases List.mem_cons.mp ht with rfl | ht
  · exact h.nm.ne
  · obtain ⟨l, hl, ht⟩ := List.mem_flatten.mp ht
    obtain ⟨s, hs, rfl⟩ := List.mem_map.mp hl
    exact (st_len (h.st s hs)).2.2 t ht
theorem par_bnd {B C : Nat} {l : List Ex} (hl : l.length ≤ 6) (h : ∀ e ∈ l, e.we.length ≤ B ∧ e.er.length ≤ C ∧ ∀ t ∈ e.er, t.cps.toList ≠ []) :
    (parS (l.map Ex.we)).length ≤ 6 * B + 14 ∧ (parR (l.map Ex.er)).length ≤ 6 * C + 8 ∧ ∀ t ∈ parR (l.map Ex.er), t.cps.toList ≠ [] := by
  have hj := join_len (s := ", ") (B := B) (l := l.map Ex.we) fun x hx => by
    obtain ⟨e, he, rfl⟩ := List.mem_map.mp hx
    exact (h e he).1
  have hs := sepL_len (B := C) (l := l.map Ex.er) fun x hx => by
    obtain ⟨e, he, rfl⟩ := List.mem_map.mp hx
    exact (h e he).2.1
  have e2 : (", " : Str).length = 2 := by decide +kernel
  have e1 : ("(" : Str).length = 1 := by decide +kernel
  have e3 : (")" : Str).length = 1 := by decide +kernel
  rw [List.length_map, e2] at hj
  rw [List.length_map] at hs
  have hj' : l.length * (B + 2) ≤ 6 * (B + 2) := Nat.mul_le_mul_right _ hl
  have hs' : l.length * (C + 1) ≤ 6 * (C + 1) := Nat.mul_le_mul_right _ hl
  refine ⟨by rw [parS, str_len_app, str_len_app, e1, e3]; omega, by simp [parR]; omega, fun t ht => ?_⟩
  rw [parR, List.cons_append] at ht
  rcases List.mem_cons.mp ht with rfl | ht
  · decide +kernel
  · rcases List.mem_append.mp ht with ht | ht
    · rcases sepL_mem ht with rfl | ⟨ρ, hρ, ht⟩
      · decide +kernel
      · obtain ⟨e, he, rfl⟩ := List.mem_map.mp hρ
        exact (h e he).2.2 t ht
    · rw [List.mem_singleton] at ht; subst ht; decide +kernel
theorem ex_bnd : ∀ (n : Nat) (e : Ex), EOk (n + 1) e → e.we.length ≤ 1500 * 7 ^ n ∧ e.er.length ≤ 3000 * 7 ^ n ∧ ∀ t ∈ e.er, t.cps.toList ≠ []
  | n, e, h => by
    have p7 : 1 ≤ 7 ^ n := Nat.one_le_pow _ _ (by decide)
    have one : ∀ t : Str, t.length ≤ 1500 → t.cps.toList ≠ [] → t.length ≤ 1500 * 7 ^ n ∧ [t].length ≤ 3000 * 7 ^ n ∧ ∀ x ∈ [t], x.cps.toList ≠ [] := fun t h1 h2 => by
      refine ⟨by omega, by simp; omega, fun x hx => by rw [List.mem_singleton] at hx; subst hx; exact h2⟩
    have sub : ∀ e : Ex, EOk n e → ∃ m, n = m + 1 ∧ 7 ^ n = 7 ^ m * 7 ∧ 1 ≤ 7 ^ m ∧ e.we.length ≤ 1500 * 7 ^ m ∧ e.er.length ≤ 3000 * 7 ^ m ∧ ∀ t ∈ e.er, t.cps.toList ≠ [] := fun e he => by
      cases n with
      | zero => exact nomatch he
      | succ m => exact ⟨m, rfl, Nat.pow_succ .., Nat.one_le_pow _ _ (by decide), ex_bnd m e he⟩
    have pr : ∀ l : List Ex, l.length ≤ 6 → (∀ e ∈ l, EOk n e) → (parS (l.map Ex.we)).length ≤ 1500 * 7 ^ n - 40 ∧ (parR (l.map Ex.er)).length ≤ 3000 * 7 ^ n - 40 ∧ ∀ t ∈ parR (l.map Ex.er), t.cps.toList ≠ [] := fun l hl he => by
      cases n with
      | zero =>
        have hn : l = [] := by
          cases l with
          | nil => rfl
          | cons e r => exact nomatch he e List.mem_cons_self
        subst hn
        exact ⟨by decide +kernel, by decide +kernel, by decide +kernel⟩
      | succ m =>
        have p7m : 1 ≤ 7 ^ m := Nat.one_le_pow _ _ (by decide)
        obtain ⟨a, b, c⟩ := par_bnd (B := 1500 * 7 ^ m) (C := 3000 * 7 ^ m) hl fun e h => ex_bnd m e (he e h)
        rw [Nat.pow_succ]
        exact ⟨by omega, by omega, c⟩
    cases h with
    | int h =>
      simp only [Ex.we, Ex.er]
      have := num_len (i := ‹Int›) (by omega)
      obtain ⟨c, cs, e, _⟩ := num_text ‹Int›
      exact one _ (by omega) (by rw [e]; simp)
    | bool b => simp only [Ex.we, Ex.er]; cases b <;> exact one _ (by decide +kernel) (by decide +kernel)
    | unit => simp only [Ex.we, Ex.er]; exact one _ (by decide +kernel) (by decide +kernel)
    | none h =>
      rename_i k
      have h1 := wk_len2 2 k h
      obtain ⟨_, h2, h3⟩ := kr_bnd 3 k h
      have e1 : ("none[" : Str).length = 5 := by decide +kernel
      have e2 : ("]" : Str).length = 1 := by decide +kernel
      simp only [Ex.we, Ex.er]
      refine ⟨by rw [str_len_app, str_len_app, e1, e2]; omega, by simp; omega, fun t ht => ?_⟩
      simp only [List.mem_cons, List.mem_append, List.not_mem_nil, or_false] at ht
      rcases ht with rfl | rfl | ht | rfl
      · decide +kernel
      · decide +kernel
      · exact h3 t ht
      · decide +kernel
    | use h =>
      obtain ⟨a, b, c⟩ := pl_bnd h
      simp only [Ex.we, Ex.er]
      exact ⟨by omega, by omega, c⟩
    | is h =>
      obtain ⟨a, b, c⟩ := pl_bnd h
      have e1 : (" is some" : Str).length = 8 := by decide +kernel
      simp only [Ex.we, Ex.er]
      refine ⟨by rw [str_len_app, e1]; omega, by simp; omega, fun t ht => ?_⟩
      simp only [List.mem_cons, List.mem_append, List.not_mem_nil, or_false] at ht
      rcases ht with ht | rfl | rfl
      · exact c t ht
      · decide +kernel
      · decide +kernel
    | bor h =>
      rename_i m v ss
      obtain ⟨a, b, c⟩ := pl_bnd h
      simp only [Ex.we, Ex.er]
      have e1 : (if m then ("&mut " : Str) else "&").length ≤ 5 := by cases m <;> decide +kernel
      refine ⟨by rw [str_len_app]; omega, by simp; omega, fun t ht => ?_⟩
      rcases List.mem_cons.mp ht with rfl | ht
      · cases m <;> decide +kernel
      · exact c t ht
    | un hw he =>
      obtain ⟨m, _, e7, p7m, a, b, c⟩ := sub _ he
      have hwl : ∀ w ∈ unW, w.length ≤ 10 ∧ w.cps.toList ≠ [] := by decide +kernel
      obtain ⟨w1, w2⟩ := hwl _ hw
      have e1 : (" " : Str).length = 1 := by decide +kernel
      simp only [Ex.we, Ex.er]
      refine ⟨by rw [str_len_app, str_len_app, e1]; omega, by rw [List.length_cons]; omega, fun t ht => ?_⟩
      rcases List.mem_cons.mp ht with rfl | ht
      · exact w2
      · exact c t ht
    | swap hp he =>
      obtain ⟨m, _, e7, p7m, a, b, c⟩ := sub _ he
      obtain ⟨a2, b2, c2⟩ := pl_bnd hp
      have e1 : ("swap " : Str).length = 5 := by decide +kernel
      have e2 : (" with " : Str).length = 6 := by decide +kernel
      simp only [Ex.we, Ex.er]
      refine ⟨by rw [str_len_app, str_len_app, str_len_app, e1, e2]; omega, by simp; omega, fun t ht => ?_⟩
      simp only [List.mem_cons, List.mem_append] at ht
      rcases ht with rfl | ht | rfl | ht
      · decide +kernel
      · exact c2 t ht
      · decide +kernel
      · exact c t ht
    | op hs hl hr =>
      obtain ⟨m, e0, e7, p7m, a, b, c⟩ := sub _ hl
      obtain ⟨m', e0', _, _, a2, b2, c2⟩ := sub _ hr
      obtain rfl : m' = m := by omega
      have hwl : ∀ w ∈ opW, w.length ≤ 10 ∧ w.cps.toList ≠ [] := by decide +kernel
      obtain ⟨w1, w2⟩ := hwl _ hs
      have e1 : (" " : Str).length = 1 := by decide +kernel
      have e2 : ("(" : Str).length = 1 := by decide +kernel
      have e3 : (")" : Str).length = 1 := by decide +kernel
      simp only [Ex.we, Ex.er]
      refine ⟨by rw [str_len_app, str_len_app, str_len_app, str_len_app, str_len_app, str_len_app, e1, e2, e3]; omega, by simp; omega, fun t ht => ?_⟩
      simp only [List.mem_cons, List.mem_append, List.not_mem_nil, or_false] at ht
      rcases ht with rfl | ht | rfl | ht | rfl
      · decide +kernel
      · exact c t ht
      · exact w2
      · exact c2 t ht
      · decide +kernel
    | tup _ h6 hl =>
      obtain ⟨a, b, c⟩ := pr _ h6 hl
      simp only [Ex.we, Ex.er, Ex.wes_map, Ex.ers_map]
      exact ⟨by omega, by omega, c⟩
    | rcd hx h6 hl =>
      obtain ⟨a, b, c⟩ := pr _ h6 hl
      have := hx.sok.1
      simp only [Ex.we, Ex.er, Ex.wes_map, Ex.ers_map]
      refine ⟨by rw [str_len_app]; omega, by rw [List.length_cons]; omega, fun t ht => ?_⟩
      rcases List.mem_cons.mp ht with rfl | ht
      · obtain ⟨c, cs, e, _⟩ := hx.hd
        rw [e]; simp
      · exact c t ht
    | call hx h6 hl =>
      obtain ⟨a, b, c⟩ := pr _ h6 hl
      have := hx.nm.len
      simp only [Ex.we, Ex.er, Ex.wes_map, Ex.ers_map]
      refine ⟨by rw [str_len_app]; omega, by rw [List.length_cons]; omega, fun t ht => ?_⟩
      rcases List.mem_cons.mp ht with rfl | ht
      · exact hx.ne
      · exact c t ht
end
/-! ### statements -/
inductive St where
  | act (w : Str) (e : Ex)
  | lt (x : Str) (e : Ex)
  | sto (v : Str) (ss : List D) (e : Ex)
  | iff (e : Ex) (b c : List St)
  | whl (e : Ex) (b : List St)
mutual
def St.d : St → D
  | .act w e => .tup [.str w, e.d]
  | .lt x e => .tup [.str "let", .str x, e.d]
  | .sto v ss e => .tup [.str "store", plcD v ss, e.d]
  | .iff e b c => .tup [.str "if", e.d, .tup (St.ds b), .tup (St.ds c)]
  | .whl e b => .tup [.str "while", e.d, .tup (St.ds b)]
def St.ds : List St → List D
  | [] => []
  | s :: r => s.d :: St.ds r
end
theorem St.ds_map : ∀ l : List St, St.ds l = l.map St.d
  | [] => by simp only [St.ds, List.map_nil]
  | k :: r => by simp only [St.ds, List.map_cons, St.ds_map r]
mutual
def St.nn : St → Nat
  | .act _ e => 1 + e.nn
  | .lt _ e => 1 + e.nn
  | .sto _ _ e => 1 + e.nn
  | .iff e b c => 1 + e.nn + St.nns b + St.nns c
  | .whl e b => 1 + e.nn + St.nns b
def St.nns : List St → Nat
  | [] => 0
  | s :: r => s.nn + St.nns r
end
theorem St.nns_app : ∀ (l : List St) (e : St), St.nns (l ++ [e]) = St.nns l + e.nn
  | [], e => by simp only [List.nil_append, St.nns]; omega
  | x :: r, e => by
    rw [List.cons_append]
    simp only [St.nns]
    rw [St.nns_app r e]
    omega
def acW : List Str := ["do", "print", "return"]
/-- a statement of a depth -/
inductive SOk : Nat → St → Prop
  | act {n : Nat} {w : Str} {e : Ex} : w ∈ acW → EOk 36 e → SOk (n + 1) (.act w e)
  | lt {n : Nat} {x : Str} {e : Ex} : Nm x → EOk 36 e → SOk (n + 1) (.lt x e)
  | sto {n : Nat} {v : Str} {ss : List D} {e : Ex} : Pk v ss → EOk 36 e → SOk (n + 1) (.sto v ss e)
  | iff {n : Nat} {e : Ex} {b c : List St} : EOk 36 e → b.length ≤ 5 → c.length ≤ 5 → (∀ s ∈ b, SOk n s) → (∀ s ∈ c, SOk n s) → SOk (n + 1) (.iff e b c)
  | whl {n : Nat} {e : Ex} {b : List St} : EOk 36 e → b.length ≤ 5 → (∀ s ∈ b, SOk n s) → SOk (n + 1) (.whl e b)
def mg4 (d : Nat) : Str := mulS "    " d
mutual
/-- the lines -/
def St.ls (d : Nat) : St → List Str
  | .act w e => [mg4 d ++ w ++ " " ++ e.we ++ ";"]
  | .lt x e => [mg4 d ++ "let " ++ x ++ " = " ++ e.we ++ ";"]
  | .sto v ss e => [mg4 d ++ plS v ss ++ " = " ++ e.we ++ ";"]
  | .iff e b c => (mg4 d ++ "if " ++ e.we ++ " {") :: (St.lss (d + 1) b ++ ((mg4 d ++ "} else {") :: (St.lss (d + 1) c ++ [mg4 d ++ "}"])))
  | .whl e b => (mg4 d ++ "while " ++ e.we ++ " {") :: (St.lss (d + 1) b ++ [mg4 d ++ "}"])
def St.lss (d : Nat) : List St → List Str
  | [] => []
  | s :: r => St.ls d s ++ St.lss d r
end
mutual
/-- the rows -/
def St.rs (d : Nat) : St → List (Nat × List Str)
  | .act w e => [(d, w :: (e.er ++ [(";" : Str)]))]
  | .lt x e => [(d, ("let" : Str) :: x :: ("=" : Str) :: (e.er ++ [(";" : Str)]))]
  | .sto v ss e => [(d, plR v ss ++ (("=" : Str) :: (e.er ++ [(";" : Str)])))]
  | .iff e b c => (d, ("if" : Str) :: (e.er ++ [("{" : Str)])) :: (St.rss (d + 1) b ++ ((d, (["}", "else", "{"] : List Str)) :: (St.rss (d + 1) c ++ [(d, [("}" : Str)])])))
  | .whl e b => (d, ("while" : Str) :: (e.er ++ [("{" : Str)])) :: (St.rss (d + 1) b ++ [(d, [("}" : Str)])])
def St.rss (d : Nat) : List St → List (Nat × List Str)
  | [] => []
  | s :: r => St.rs d s ++ St.rss d r
end
def nl (s : Str) : Str := s ++ "\n"
def txS (q : Nat × List Str) : Str := mulS "    " q.1 ++ lineS q.2 ++ "\n"
theorem w_line {w : Str} {e : Ex} {z : Str} (h : EOk 36 e) (hB : w ∉ inB) (hn : named w = false) : lineS (w :: (e.er ++ [z])) = w ++ " " ++ e.we ++ (gap (lastD w e.er) z ++ z) := by
  have hr := er_rt 36 e h
  rw [lineS, rest_app, hr.line w hn, rest, rest, s_nil, pre_no hB]
  simp only [Str.append_assoc]
theorem semi (p : Str) : gap p ";" ++ ";" = (";" : Str) := by rw [gap_A (by decide +kernel), nil_s]
theorem brace {p : Str} (h : p ∉ inB) : gap p "{" ++ "{" = (" {" : Str) := by
  rw [gap_pre (by decide +kernel) (fun e => absurd e (by decide +kernel)), pre_no h]
  decide +kernel
theorem ac_p {w : Str} (h : w ∈ acW) : w ∉ inB ∧ named w = false := by
  simp only [acW, List.mem_cons, List.not_mem_nil, or_false] at h
  rcases h with rfl | rfl | rfl <;> decide +kernel
theorem eq_rest {p : Str} {e : Ex} (h : EOk 36 e) (hp : p ∉ inB) : rest p (("=" : Str) :: (e.er ++ [(";" : Str)])) = " = " ++ e.we ++ ";" := by
  have hr := er_rt 36 e h
  rw [rest, rest_app, hr.line "=" (by decide +kernel), rest, rest, s_nil, semi, gap_pre (t := "=") (by decide +kernel) (fun e => absurd e (by decide +kernel)), pre_no hp, pre_no (p := "=") (by decide +kernel), show (" = " : Str) = " " ++ ("=" ++ " ") by decide +kernel]
  simp only [Str.append_assoc]
theorem rs_txt : ∀ (n d : Nat) (s : St), SOk n s → (s.rs d).map txS = (s.ls d).map nl
  | 0, _, _, h => nomatch h
  | n + 1, d, s, h => by
    have lss : ∀ l : List St, (∀ s ∈ l, SOk n s) → (St.rss (d + 1) l).map txS = (St.lss (d + 1) l).map nl := by
      intro l
      induction l with
      | nil => intro _; simp [St.rss, St.lss]
      | cons a r ih =>
        intro hl
        simp only [St.rss, St.lss, List.map_append]
        rw [rs_txt n (d + 1) a (hl a List.mem_cons_self), ih fun s hs => hl s (List.mem_cons_of_mem _ hs)]
    have one : ∀ (ρ : List Str) (x : Str), lineS ρ = x → txS (d, ρ) = nl (mg4 d ++ x) := fun ρ x h => by rw [txS, h, nl, mg4]
    have bo : txS (d, [("}" : Str)]) = nl (mg4 d ++ "}") := one _ _ (s_nil _)
    have el : txS (d, (["}", "else", "{"] : List Str)) = nl (mg4 d ++ "} else {") := one _ _ (by decide +kernel)
    cases h with
    | act hw he =>
      obtain ⟨a, b⟩ := ac_p hw
      simp only [St.rs, St.ls, List.map_cons, List.map_nil]
      rw [one _ _ (w_line he a b), semi]
      simp only [Str.append_assoc]
    | lt hx he =>
      rename_i x e
      simp only [St.rs, St.ls, List.map_cons, List.map_nil]
      rw [one _ ("let " ++ x ++ " = " ++ e.we ++ ";") (by
        rw [lineS, rest, eq_rest he (name_B hx.nm), gap_pre (name_A hx.nm) (fun e => absurd e hx.par), pre_no (p := "let") (by decide +kernel), show ("let " : Str) = "let" ++ " " by decide +kernel]
        simp only [Str.append_assoc])]
      simp only [Str.append_assoc]
    | sto hp he =>
      rename_i v ss e
      have hq := pl_rt hp
      simp only [St.rs, St.ls, List.map_cons, List.map_nil]
      rw [one _ (plS v ss ++ " = " ++ e.we ++ ";") (by
        have hl := hq.line "(" (by decide +kernel)
        have hla := hq.last "("
        rw [plR, rest, show pre "(" = "" from if_pos (by decide +kernel), gap_pre (name_A hp.nm.nm) (fun e => absurd e hp.nm.par), show pre "(" = "" from if_pos (by decide +kernel), nil_s, nil_s] at hl
        rw [plR, lastD] at hla
        rw [plR, List.cons_append, lineS, rest_app, eq_rest he hla, ← Str.append_assoc, hl]
        simp only [Str.append_assoc])]
      simp only [Str.append_assoc]
    | iff he _ _ hb hc =>
      have hr := er_rt 36 _ he
      simp only [St.rs, St.ls, List.map_cons, List.map_append, List.map_nil]
      rw [lss _ hb, lss _ hc, bo, el, one _ _ (w_line he (by decide +kernel) (by decide +kernel)), brace (hr.last _), show ("if " : Str) = "if" ++ " " by decide +kernel]
      simp only [Str.append_assoc]
    | whl he _ hb =>
      have hr := er_rt 36 _ he
      simp only [St.rs, St.ls, List.map_cons, List.map_append, List.map_nil]
      rw [lss _ hb, bo, one _ _ (w_line he (by decide +kernel) (by decide +kernel)), brace (hr.last _), show ("while " : Str) = "while" ++ " " by decide +kernel]
      simp only [Str.append_assoc]
theorem SOk.mono : ∀ {n m : Nat} {e : St}, SOk n e → n ≤ m → SOk m e
  | 0, _, _, h, _ => nomatch h
  | n + 1, 0, _, _, h => by omega
  | n + 1, m + 1, _, .act hw he, _ => .act hw he
  | n + 1, m + 1, _, .lt hw he, _ => .lt hw he
  | n + 1, m + 1, _, .sto hw he, _ => .sto hw he
  | n + 1, m + 1, _, .iff h1 h2 h3 h4 h5, h => .iff h1 h2 h3 (fun s hs => SOk.mono (h4 s hs) (by omega)) (fun s hs => SOk.mono (h5 s hs) (by omega))
  | n + 1, m + 1, _, .whl h1 h2 h3, h => .whl h1 h2 fun s hs => SOk.mono (h3 s hs) (by omega)
end My
set_option maxHeartbeats 4000000
namespace My
open PySem L2 DL
/-! ### sizes by nodes -/
theorem join_sum {s : Str} : ∀ l : List Str, (Str.join s l).length ≤ (l.map (·.length)).sum + l.length * s.length
  | [] => Nat.zero_le _
  | [x] => by
    show x.length ≤ _
    simp
  | x :: y :: r => by
    have := join_sum (s := s) (y :: r)
    show (x ++ s ++ Str.join s (y :: r)).length ≤ _
    rw [str_len_app, str_len_app, List.map_cons, List.sum_cons, List.length_cons, Nat.add_mul, Nat.one_mul]
    omega
theorem we_nn : ∀ (n : Nat) (e : Ex), EOk n e → e.we.length ≤ 1500 * e.nn
  | 0, _, h => nomatch h
  | n + 1, e, h => by
    have pr : ∀ l : List Ex, l.length ≤ 6 → (∀ e ∈ l, EOk n e) → (parS (l.map Ex.we)).length ≤ 1500 * Ex.nns l + 14 := fun l hl he => by
      have h1 := join_sum (s := ", ") (l.map Ex.we)
      have e2 : (", " : Str).length = 2 := by decide +kernel
      have e1 : ("(" : Str).length = 1 := by decide +kernel
      have e3 : (")" : Str).length = 1 := by decide +kernel
      have h2 : ((l.map Ex.we).map (·.length)).sum ≤ 1500 * Ex.nns l := by
        clear h1 hl
        induction l with
        | nil => simp [Ex.nns]
        | cons a r ih =>
          have ha := we_nn n a (he a List.mem_cons_self)
          have hr := ih fun e h => he e (List.mem_cons_of_mem _ h)
          simp only [List.map_cons, List.sum_cons, Ex.nns] at hr ⊢
          omega
      rw [List.length_map, e2] at h1
      rw [parS, str_len_app, str_len_app, e1, e3]
      omega
    have lf : ∀ {e : Ex}, EOk 1 e → e.we.length ≤ 1500 := fun h => by have := (ex_bnd 0 _ h).1; omega
    have e1 : (" " : Str).length = 1 := by decide +kernel
    cases h with
    | int h => have := lf (.int h); simp only [Ex.nn]; omega
    | bool b => have := lf (.bool b); simp only [Ex.nn]; omega
    | unit => have := lf .unit; simp only [Ex.nn]; omega
    | none h => have := lf (.none h); simp only [Ex.nn]; omega
    | use h => have := lf (.use h); simp only [Ex.nn]; omega
    | is h => have := lf (.is h); simp only [Ex.nn]; omega
    | bor h =>
      rename_i bm v ss
      have := lf (.bor (m := bm) h)
      simp only [Ex.nn]; omega
    | un hw he =>
      have h1 := we_nn n _ he
      have hwl : ∀ w ∈ unW, w.length ≤ 10 := by decide +kernel
      have h2 := hwl _ hw
      simp only [Ex.nn, Ex.we]
      rw [str_len_app, str_len_app, e1]
      omega
    | swap hp he =>
      have h1 := we_nn n _ he
      have h2 := (pl_bnd hp).1
      have e4 : ("swap " : Str).length = 5 := by decide +kernel
      have e5 : (" with " : Str).length = 6 := by decide +kernel
      simp only [Ex.nn, Ex.we]
      rw [str_len_app, str_len_app, str_len_app, e4, e5]
      omega
    | op hs hl hr =>
      have h1 := we_nn n _ hl
      have h2 := we_nn n _ hr
      have hwl : ∀ w ∈ opW, w.length ≤ 10 := by decide +kernel
      have h3 := hwl _ hs
      have e4 : ("(" : Str).length = 1 := by decide +kernel
      have e5 : (")" : Str).length = 1 := by decide +kernel
      simp only [Ex.nn, Ex.we]
      rw [str_len_app, str_len_app, str_len_app, str_len_app, str_len_app, str_len_app, e1, e4, e5]
      omega
    | tup _ h6 hl =>
      have := pr _ h6 hl
      simp only [Ex.nn, Ex.we, Ex.wes_map]
      omega
    | rcd hx h6 hl =>
      have := pr _ h6 hl
      have := hx.sok.1
      simp only [Ex.nn, Ex.we, Ex.wes_map]
      rw [str_len_app]
      omega
    | call hx h6 hl =>
      have := pr _ h6 hl
      have := hx.nm.len
      simp only [Ex.nn, Ex.we, Ex.wes_map]
      rw [str_len_app]
      omega
def lsum (l : List Str) : Nat := (l.map (·.length)).sum
theorem lsum_app (a b : List Str) : lsum (a ++ b) = lsum a + lsum b := by simp [lsum]
theorem lsum_cons (x : Str) (b : List Str) : lsum (x :: b) = x.length + lsum b := by simp [lsum]
theorem mg4_len (d : Nat) : (mg4 d).length ≤ 4 * d := by
  have := mulS_len "    " d
  have e : ("    " : Str).length = 4 := by decide +kernel
  rw [e] at this
  exact this
/-- the text of a statement's lines, and how many lines there are -/
theorem ls_bnd : ∀ (n d : Nat) (s : St), SOk n s → d + n ≤ 40 → lsum (s.ls d) ≤ 3000 * s.nn ∧ (s.ls d).length ≤ 3 * s.nn
  | 0, _, _, h, _ => nomatch h
  | n + 1, d, s, h, hd => by
    have hm := mg4_len d
    have lss : ∀ l : List St, (∀ s ∈ l, SOk n s) → lsum (St.lss (d + 1) l) ≤ 3000 * St.nns l ∧ (St.lss (d + 1) l).length ≤ 3 * St.nns l := by
      intro l
      induction l with
      | nil => intro _; simp [St.lss, lsum, St.nns]
      | cons a r ih =>
        intro hl
        have h1 := ls_bnd n (d + 1) a (hl a List.mem_cons_self) (by omega)
        have h2 := ih fun s hs => hl s (List.mem_cons_of_mem _ hs)
        simp only [St.lss, St.nns, lsum_app, List.length_append]
        omega
    have e1 : (" " : Str).length = 1 := by decide +kernel
    have e2 : (";" : Str).length = 1 := by decide +kernel
    have e3 : ("let " : Str).length = 4 := by decide +kernel
    have e4 : (" = " : Str).length = 3 := by decide +kernel
    have e5 : ("if " : Str).length = 3 := by decide +kernel
    have e6 : (" {" : Str).length = 2 := by decide +kernel
    have e7 : ("while " : Str).length = 6 := by decide +kernel
    have e8 : ("} else {" : Str).length = 8 := by decide +kernel
    have e9 : ("}" : Str).length = 1 := by decide +kernel
    have e0 : lsum [] = 0 := rfl
    cases h with
    | act hw he =>
      have h1 := we_nn 36 _ he
      have hwl : ∀ w ∈ acW, w.length ≤ 10 := by decide +kernel
      have h3 := hwl _ hw
      simp only [St.ls, St.nn, lsum_cons, e0, str_len_app, e1, e2, List.length_cons, List.length_nil]
      omega
    | lt hx he =>
      have h1 := we_nn 36 _ he
      have := hx.nm.len
      simp only [St.ls, St.nn, lsum_cons, e0, str_len_app, e2, e3, e4, List.length_cons, List.length_nil]
      omega
    | sto hp he =>
      have h1 := we_nn 36 _ he
      have := (pl_bnd hp).1
      simp only [St.ls, St.nn, lsum_cons, e0, str_len_app, e2, e4, List.length_cons, List.length_nil]
      omega
    | iff he _ _ hb hc =>
      have h1 := we_nn 36 _ he
      have h2 := lss _ hb
      have h3 := lss _ hc
      simp only [St.ls, St.nn, lsum_cons, lsum_app, e0, str_len_app, e5, e6, e8, e9, List.length_cons, List.length_append, List.length_nil]
      omega
    | whl he _ hb =>
      have h1 := we_nn 36 _ he
      have h2 := lss _ hb
      simp only [St.ls, St.nn, lsum_cons, lsum_app, e0, str_len_app, e6, e7, e9, List.length_cons, List.length_append, List.length_nil]
      omega
theorem lss_bnd {n d : Nat} (hd : d + n ≤ 40) : ∀ l : List St, (∀ s ∈ l, SOk n s) → lsum (St.lss d l) ≤ 3000 * St.nns l ∧ (St.lss d l).length ≤ 3 * St.nns l
  | [], _ => by simp [St.lss, lsum, St.nns]
  | a :: r, hl => by
    have h1 := ls_bnd n d a (hl a List.mem_cons_self) hd
    have h2 := lss_bnd hd r fun s hs => hl s (List.mem_cons_of_mem _ hs)
    simp only [St.lss, St.nns, lsum_app, List.length_append]
    omega
theorem lss_snoc (d : Nat) : ∀ (l : List St) (s : St), St.lss d (l ++ [s]) = St.lss d l ++ St.ls d s
  | [], s => by simp [St.lss]
  | a :: r, s => by
    rw [List.cons_append]
    simp only [St.lss]
    rw [lss_snoc d r s, List.append_assoc]
theorem rss_snoc (d : Nat) : ∀ (l : List St) (s : St), St.rss d (l ++ [s]) = St.rss d l ++ St.rs d s
  | [], s => by simp [St.rss]
  | a :: r, s => by
    rw [List.cons_append]
    simp only [St.rss]
    rw [rss_snoc d r s, List.append_assoc]
theorem kr_ln6 : ∀ (n : Nat) (k : Kd), Tk (n + 1) k → k.kr.length + 2 ≤ 3 * 6 ^ n
  | n, k, h => by
    have p6 : 1 ≤ 6 ^ n := Nat.one_le_pow _ _ (by decide)
    have sub : ∀ x : Kd, k.wf = x.wf → k.lev = x.lev + 1 → k.rn = x.rn → x.kr.length + 3 ≤ 3 * 6 ^ n := fun x h1 h2 h3 => by
      have hl := h.lev
      have hp := x.lev_pos
      obtain ⟨m, rfl⟩ : ∃ m, n = m + 1 := ⟨n - 1, by omega⟩
      have := kr_ln6 m x ⟨h1.symm.trans h.wf, by omega, fun y hy => h.rn y (by rw [h3]; exact hy)⟩
      have p7 : 1 ≤ 6 ^ m := Nat.one_le_pow _ _ (by decide)
      rw [Nat.pow_succ]
      omega
    cases k with
    | int => simp only [Kd.kr, List.length_cons, List.length_nil]; omega
    | bool => simp only [Kd.kr, List.length_cons, List.length_nil]; omega
    | unit => simp only [Kd.kr, List.length_cons, List.length_nil]; omega
    | rcd x => simp only [Kd.kr, List.length_cons, List.length_nil]; omega
    | box x => have := sub x (by simp only [Kd.wf]) rfl (by simp only [Kd.rn]); simp only [Kd.kr, List.length_cons]; omega
    | maybe x => have := sub x (by simp only [Kd.wf]) rfl (by simp only [Kd.rn]); simp only [Kd.kr, List.length_cons]; omega
    | shared x => have := sub x (by simp only [Kd.wf]) rfl (by simp only [Kd.rn]); simp only [Kd.kr, List.length_cons]; omega
    | excl x => have := sub x (by simp only [Kd.wf]) rfl (by simp only [Kd.rn]); simp only [Kd.kr, List.length_cons]; omega
    | tup l =>
      have hl := h.len
      obtain ⟨x, hx, _⟩ := Kd.levs_mem l (by rintro rfl; simp at hl)
      have hlv := h.lev
      simp only [Kd.lev] at hlv
      have hxl := (Kd.levs_le l _).mp (Nat.le_refl _) x hx
      have hxp := x.lev_pos
      obtain ⟨m, rfl⟩ : ∃ m, n = m + 1 := ⟨n - 1, by omega⟩
      have p7 : 1 ≤ 6 ^ m := Nat.one_le_pow _ _ (by decide)
      have hs := sepL_len (B := 3 * 6 ^ m - 2) (l := l.map Kd.kr) fun y hy => by
        obtain ⟨k, hk, rfl⟩ := List.mem_map.mp hy
        have := kr_ln6 m k (h.part k hk)
        omega
      rw [List.length_map] at hs
      have hs' : l.length * (3 * 6 ^ m - 2 + 1) ≤ 6 * (3 * 6 ^ m - 2 + 1) := Nat.mul_le_mul_right _ hl.2
      simp only [Kd.kr, Kd.krs_map, List.length_cons, List.length_append, List.length_nil]
      rw [Nat.pow_succ]
      omega
theorem sep_sum : ∀ l : List (List Str), (sepL l).length ≤ (l.map (·.length)).sum + l.length
  | [] => Nat.zero_le _
  | [x] => by simp [sepL]
  | x :: y :: r => by
    have := sep_sum (y :: r)
    simp only [sepL, List.length_append, List.length_cons, List.map_cons, List.sum_cons, List.length_nil] at this ⊢
    omega
theorem er_nn : ∀ (n : Nat) (e : Ex), EOk n e → e.er.length ≤ 120 * e.nn
  | 0, _, h => nomatch h
  | n + 1, e, h => by
    have pr : ∀ l : List Ex, l.length ≤ 6 → (∀ e ∈ l, EOk n e) → (parR (l.map Ex.er)).length ≤ 120 * Ex.nns l + 8 := fun l hl he => by
      have h1 := sep_sum (l.map Ex.er)
      have h2 : ((l.map Ex.er).map (·.length)).sum ≤ 120 * Ex.nns l := by
        clear h1 hl
        induction l with
        | nil => simp [Ex.nns]
        | cons a r ih =>
          have ha := er_nn n a (he a List.mem_cons_self)
          have hr := ih fun e h => he e (List.mem_cons_of_mem _ h)
          simp only [List.map_cons, List.sum_cons, Ex.nns] at hr ⊢
          omega
      rw [List.length_map] at h1
      simp only [parR, List.length_append, List.length_cons, List.length_nil]
      omega
    cases h with
    | int h => simp only [Ex.nn, Ex.er, List.length_cons, List.length_nil]; omega
    | bool b => simp only [Ex.nn, Ex.er, List.length_cons, List.length_nil]; omega
    | unit => simp only [Ex.nn, Ex.er, List.length_cons, List.length_nil]; omega
    | none h =>
      have := kr_ln6 2 _ h
      simp only [Ex.nn, Ex.er, List.length_cons, List.length_append, List.length_nil]; omega
    | use h => have := (pl_bnd h).2.1; simp only [Ex.nn, Ex.er]; omega
    | is h => have := (pl_bnd h).2.1; simp only [Ex.nn, Ex.er, List.length_cons, List.length_append, List.length_nil]; omega
    | bor h => have := (pl_bnd h).2.1; simp only [Ex.nn, Ex.er, List.length_cons]; omega
    | un hw he => have := er_nn n _ he; simp only [Ex.nn, Ex.er, List.length_cons]; omega
    | swap hp he =>
      have h1 := er_nn n _ he
      have := (pl_bnd hp).2.1
      simp only [Ex.nn, Ex.er, List.length_cons, List.length_append]; omega
    | op hs hl hr =>
      have h1 := er_nn n _ hl
      have h2 := er_nn n _ hr
      simp only [Ex.nn, Ex.er, List.length_cons, List.length_append, List.length_nil]; omega
    | tup _ h6 hl => have := pr _ h6 hl; simp only [Ex.nn, Ex.er, Ex.ers_map]; omega
    | rcd hx h6 hl => have := pr _ h6 hl; simp only [Ex.nn, Ex.er, Ex.ers_map, List.length_cons]; omega
    | call hx h6 hl => have := pr _ h6 hl; simp only [Ex.nn, Ex.er, Ex.ers_map, List.length_cons]; omega
theorem nns_take {l : List St} {i : Nat} {s : St} (h : l[i]? = some s) : s.nn ≤ St.nns l ∧ St.nns (l.take i) ≤ St.nns l := by
  have key : ∀ (l : List St) (i : Nat) (s : St), l[i]? = some s → s.nn + St.nns (l.take i) ≤ St.nns l := by
    intro l
    induction l with
    | nil => intro i s h; simp at h
    | cons a r ih =>
      intro i s h
      cases i with
      | zero =>
        have e : a = s := by simpa using h
        subst e
        simp only [List.take_zero, St.nns]
        omega
      | succ i =>
        have := ih i s (by simpa using h)
        simp only [List.take_succ_cons, St.nns]
        omega
  have := key l i s h
  omega
/-- rows and tokens by nodes -/
theorem rs_len : ∀ (n d : Nat) (s : St), SOk n s → (s.rs d).length ≤ 3 * s.nn ∧ ((s.rs d).map (·.2)).flatten.length ≤ 200 * s.nn
  | 0, _, _, h => nomatch h
  | n + 1, d, s, h => by
    have lss : ∀ l : List St, (∀ s ∈ l, SOk n s) → (St.rss (d + 1) l).length ≤ 3 * St.nns l ∧ ((St.rss (d + 1) l).map (·.2)).flatten.length ≤ 200 * St.nns l := by
      intro l
      induction l with
      | nil => intro _; simp [St.rss]
      | cons a r ih2 =>
        intro hl
        have h1 := rs_len n (d + 1) a (hl a List.mem_cons_self)
        have h2 := ih2 fun s hs => hl s (List.mem_cons_of_mem _ hs)
        simp only [St.rss, St.nns, List.length_append, List.map_append, List.flatten_append]
        omega
    cases h with
    | act hw he => have := er_nn 36 _ he; simp only [St.rs, St.nn, List.map_cons, List.map_nil, List.flatten_cons, List.flatten_nil, List.length_append, List.length_cons, List.length_nil]; omega
    | lt hx he => have := er_nn 36 _ he; simp only [St.rs, St.nn, List.map_cons, List.map_nil, List.flatten_cons, List.flatten_nil, List.length_append, List.length_cons, List.length_nil]; omega
    | sto hp he => have := er_nn 36 _ he; have := (pl_bnd hp).2.1; simp only [St.rs, St.nn, List.map_cons, List.map_nil, List.flatten_cons, List.flatten_nil, List.length_append, List.length_cons, List.length_nil]; omega
    | iff he _ _ hb hc =>
      have := er_nn 36 _ he
      have h2 := lss _ hb
      have h3 := lss _ hc
      simp only [St.rs, St.nn, List.map_cons, List.map_append, List.map_nil, List.flatten_cons, List.flatten_append, List.flatten_nil, List.length_append, List.length_cons, List.length_nil]
      omega
    | whl he _ hb =>
      have := er_nn 36 _ he
      have h2 := lss _ hb
      simp only [St.rs, St.nn, List.map_cons, List.map_append, List.map_nil, List.flatten_cons, List.flatten_append, List.flatten_nil, List.length_append, List.length_cons, List.length_nil]
      omega
theorem rss_len {n d : Nat} : ∀ l : List St, (∀ s ∈ l, SOk n s) → (St.rss d l).length ≤ 3 * St.nns l
  | [], _ => by simp [St.rss]
  | a :: r, hl => by
    have h1 := (rs_len n d a (hl a List.mem_cons_self)).1
    have h2 := rss_len (d := d) r fun s hs => hl s (List.mem_cons_of_mem _ hs)
    simp only [St.rss, St.nns, List.length_append]
    omega
theorem rss_tok {n d : Nat} : ∀ l : List St, (∀ s ∈ l, SOk n s) → ((St.rss d l).map (·.2)).flatten.length ≤ 200 * St.nns l
  | [], _ => by simp [St.rss]
  | a :: r, hl => by
    have h1 := (rs_len n d a (hl a List.mem_cons_self)).2
    have h2 := rss_tok (d := d) r fun s hs => hl s (List.mem_cons_of_mem _ hs)
    simp only [St.rss, St.nns, List.length_append, List.map_append, List.flatten_append]
    omega
theorem nns_mem : ∀ {l : List Ex} {e : Ex}, e ∈ l → e.nn ≤ Ex.nns l
  | a :: r, e, h => by
    simp only [Ex.nns]
    rcases List.mem_cons.mp h with rfl | h
    · omega
    · have := nns_mem h
      omega
theorem er_b {n : Nat} {e : Ex} (h : EOk n e) (hn : e.nn ≤ 1000) : e.er.length ≤ 120000 := by
  have := er_nn n e h
  omega
theorem we_b {n : Nat} {e : Ex} (h : EOk n e) (hn : e.nn ≤ 1000) : e.we.length ≤ 1500000 := by
  have := we_nn n e h
  omega
theorem er_ne {n : Nat} {e : Ex} (h : EOk n e) : ∀ t ∈ e.er, t.cps.toList ≠ [] := by
  cases n with
  | zero => exact nomatch h
  | succ m => exact (ex_bnd m e h).2.2
theorem par_b {n : Nat} {l : List Ex} (h6 : l.length ≤ 6) (hl : ∀ e ∈ l, EOk n e) (hn : Ex.nns l ≤ 1000) : (parS (l.map Ex.we)).length ≤ 6 * 1500000 + 14 ∧ (parR (l.map Ex.er)).length ≤ 6 * 120000 + 8 ∧ ∀ t ∈ parR (l.map Ex.er), t.cps.toList ≠ [] :=
  par_bnd h6 fun e h => ⟨we_b (hl e h) (by have := nns_mem h; omega), er_b (hl e h) (by have := nns_mem h; omega), er_ne (hl e h)⟩
/-! ### the tokens of statements -/
mutual
def St.toks : St → List Str
  | .act w e => w :: (e.raw ++ [(";" : Str)])
  | .lt x e => ("let" : Str) :: x :: ("=" : Str) :: (e.raw ++ [(";" : Str)])
  | .sto v ss e => plW v ss ++ (("=" : Str) :: (e.raw ++ [(";" : Str)]))
  | .iff e b c => ("if" : Str) :: (e.raw ++ (("{" : Str) :: (St.tokss b ++ (("}" : Str) :: ("else" : Str) :: ("{" : Str) :: (St.tokss c ++ [("}" : Str)])))))
  | .whl e b => ("while" : Str) :: (e.raw ++ (("{" : Str) :: (St.tokss b ++ [("}" : Str)])))
def St.tokss : List St → List Str
  | [] => []
  | s :: r => s.toks ++ St.tokss r
end
def blockW (l : List St) : List Str := ("{" : Str) :: (St.tokss l ++ [("}" : Str)])
theorem ac_kw {w : Str} (h : w ∈ acW) : isKw w = true ∧ w ≠ "=" ∧ w ≠ "if" ∧ w ≠ "while" ∧ w ≠ "let" := (show ∀ w ∈ acW, isKw w = true ∧ w ≠ "=" ∧ w ≠ "if" ∧ w ≠ "while" ∧ w ≠ "let" by decide +kernel) w h
def rowsT (L : List (Nat × List Str)) : List Str := (L.map (·.2)).flatten
theorem rowsT_app (a b : List (Nat × List Str)) : rowsT (a ++ b) = rowsT a ++ rowsT b := by unfold rowsT; rw [List.map_append, List.flatten_append]
theorem rowsT_cons (a : Nat × List Str) (b : List (Nat × List Str)) : rowsT (a :: b) = a.2 ++ rowsT b := by unfold rowsT; rw [List.map_cons, List.flatten_cons]
theorem rowsT_nil : rowsT [] = [] := rfl
theorem rs_raw : ∀ (n d : Nat) (s : St), SOk n s → rawL (rowsT (s.rs d)) = s.toks
  | 0, _, _, h => nomatch h
  | n + 1, d, s, h => by
    have lss : ∀ l : List St, (∀ s ∈ l, SOk n s) → rawL (rowsT (St.rss (d + 1) l)) = St.tokss l := by
      intro l
      induction l with
      | nil => intro _; simp only [St.rss, St.tokss]; rfl
      | cons a r ih =>
        intro hl
        simp only [St.rss, St.tokss]
        rw [rowsT_app, rawL_app, rs_raw n (d + 1) a (hl a List.mem_cons_self), ih fun s hs => hl s (List.mem_cons_of_mem _ hs)]
    have cl : rawL (rowsT [(d, [("}" : Str)])]) = [("}" : Str)] := by rw [rowsT_cons, rowsT_nil]; exact rawL_one [] (by decide +kernel)
    have sc : rawL [(";" : Str)] = [(";" : Str)] := rawL_one [] (by decide +kernel)
    have op : rawL [("{" : Str)] = [("{" : Str)] := rawL_one [] (by decide +kernel)
    cases h with
    | act hw he =>
      simp only [St.rs, St.toks]
      rw [rowsT_cons, rowsT_nil, List.append_nil]
      dsimp only
      rw [rawL_one _ (kw_split (ac_kw hw).1), rawL_app, sc]
      rfl
    | lt hx he =>
      simp only [St.rs, St.toks]
      rw [rowsT_cons, rowsT_nil, List.append_nil]
      dsimp only
      rw [rawL_one _ (by decide +kernel), rawL_one _ (name_split hx.nm), rawL_one _ (by decide +kernel), rawL_app, sc]
      rfl
    | sto hp he =>
      simp only [St.rs, St.toks]
      rw [rowsT_cons, rowsT_nil, List.append_nil]
      dsimp only
      rw [rawL_app, pl_raw hp, rawL_one _ (by decide +kernel), rawL_app, sc]
      rfl
    | iff he _ _ hb hc =>
      simp only [St.rs, St.toks]
      rw [rowsT_cons, rowsT_app, rowsT_cons, rowsT_app, rawL_app, rawL_app, lss _ hb, rawL_app, rawL_app, lss _ hc, cl]
      dsimp only
      rw [rawL_one _ (by decide +kernel), rawL_app, op, rawL_one _ (by decide +kernel), rawL_one _ (by decide +kernel), op]
      simp only [List.append_assoc, List.cons_append, List.nil_append]
      rfl
    | whl he _ hb =>
      simp only [St.rs, St.toks]
      rw [rowsT_cons, rowsT_app, rawL_app, rawL_app, lss _ hb, cl]
      dsimp only
      rw [rawL_one _ (by decide +kernel), rawL_app, op]
      simp only [List.append_assoc, List.cons_append, List.nil_append]
      rfl
theorem rss_raw {n d : Nat} : ∀ l : List St, (∀ s ∈ l, SOk n s) → rawL (rowsT (St.rss d l)) = St.tokss l
  | [], _ => by simp only [St.rss, St.tokss]; rfl
  | a :: r, hl => by
    simp only [St.rss, St.tokss]
    rw [rowsT_app, rawL_app, rs_raw n d a (hl a List.mem_cons_self), rss_raw r fun s hs => hl s (List.mem_cons_of_mem _ hs)]
/-! tokens that may stand -/
structure Tk1 (t : Str) : Prop where
  wf : WfT t
  ln : t.length ≤ 20
  ne : t ≠ "="
theorem kw_tk {t : Str} (h : isKw t = true) : WfT t ∧ t.length ≤ 20 := by
  unfold isKw at h
  rw [Bool.or_eq_true, decide_eq_true_eq, decide_eq_true_eq] at h
  have k : (words ++ signs).all (fun t => decide (t.length ≤ 20)) = true := by decide +kernel
  have hl := of_decide_eq_true (List.all_eq_true.mp k t (List.mem_append.mpr h))
  rcases h with h | h
  · exact ⟨(word_wf h).2, hl⟩
  · exact ⟨.sign h, hl⟩
theorem kw1 {t : Str} (h : isKw t = true) (h2 : t ≠ "=") : Tk1 t := ⟨(kw_tk h).1, (kw_tk h).2, h2⟩
theorem _root_.My.TkOk.t1 {t : Str} (h : TkOk t) : Tk1 t := ⟨h.wf, h.ln, h.ne.1⟩
theorem _root_.My.NumOk.t1 {n : Nat} (h : NumOk n) : Tk1 (numS n) := ⟨h.wf, by have := h.ln; omega, h.ne.2.2.1⟩
theorem cs1 {a : Str} {r : List Str} (h1 : Tk1 a) (h2 : ∀ t ∈ r, Tk1 t) : ∀ t ∈ a :: r, Tk1 t := fun t ht => by
  rcases List.mem_cons.mp ht with rfl | ht
  · exact h1
  · exact h2 t ht
theorem ap1 {a b : List Str} (h1 : ∀ t ∈ a, Tk1 t) (h2 : ∀ t ∈ b, Tk1 t) : ∀ t ∈ a ++ b, Tk1 t := fun t ht => (List.mem_append.mp ht).elim (h1 t) (h2 t)
theorem nl1 : ∀ t ∈ ([] : List Str), Tk1 t := fun _ h => nomatch h
theorem pl1 {v : Str} {ss : List D} (h : Pk v ss) : ∀ t ∈ plW v ss, Tk1 t := by
  refine cs1 (nm_ok h.nm).t1 fun t ht => ?_
  unfold stsW at ht
  obtain ⟨l, hl, ht⟩ := List.mem_flatten.mp ht
  obtain ⟨s, hs, rfl⟩ := List.mem_map.mp hl
  rcases h.st s hs with rfl | rfl | ⟨x, hx, rfl⟩ | ⟨i, hi, rfl⟩
  · simp only [stW, true_or, if_true, List.mem_singleton] at ht; subst ht; exact kw1 (by decide +kernel) (by decide +kernel)
  · simp only [stW, or_true, if_true, List.mem_singleton] at ht; subst ht; exact kw1 (by decide +kernel) (by decide +kernel)
  · simp only [stW] at ht
    split at ht
    · rw [List.mem_singleton.mp ht]; exact (nm_ok hx).t1
    · exact cs1 (kw1 (by decide +kernel) (by decide +kernel)) (cs1 (nm_ok hx).t1 nl1) t ht
  · simp only [stW, Int.toNat_natCast] at ht
    exact cs1 (kw1 (by decide +kernel) (by decide +kernel)) (cs1 (num_ok hi).t1 nl1) t ht
theorem un1 {w : Str} (h : w ∈ unW) : w ≠ "=" := (show ∀ w ∈ unW, w ≠ "=" by decide +kernel) w h
theorem op1 {w : Str} (h : w ∈ opW) : w ≠ "=" := (show ∀ w ∈ opW, w ≠ "=" by decide +kernel) w h
theorem ex1 : ∀ (n : Nat) (e : Ex), EOk n e → ∀ t ∈ e.raw, Tk1 t
  | 0, _, h => nomatch h
  | n + 1, e, h => by
    have pr : ∀ l : List Ex, (∀ e ∈ l, EOk n e) → ∀ t ∈ parW (l.map Ex.raw), Tk1 t := fun l hl => by
      refine cs1 (kw1 (by decide +kernel) (by decide +kernel)) (ap1 (fun t ht => ?_) (cs1 (kw1 (by decide +kernel) (by decide +kernel)) nl1))
      refine com_mem (P := Tk1) (kw1 (by decide +kernel) (by decide +kernel)) (fun l' hl' t ht => ?_) ht
      obtain ⟨k, hk, rfl⟩ := List.mem_map.mp hl'
      exact ex1 n k (hl k hk) t ht
    cases h with
    | int hi =>
      rename_i i
      rw [xr_int (by have := hi.1; have := hi.2; omega)]
      unfold intRw
      split
      · exact cs1 (num_ok (by omega)).t1 nl1
      · exact cs1 (kw1 (by decide +kernel) (by decide +kernel)) (cs1 (num_ok (by omega)).t1 nl1)
    | bool b => rw [xr_bool]; cases b <;> exact cs1 (kw1 (by decide +kernel) (by decide +kernel)) nl1
    | unit => rw [xr_unit]; exact cs1 (kw1 (by decide +kernel) (by decide +kernel)) nl1
    | none hk => rw [xr_none]; exact cs1 (kw1 (by decide +kernel) (by decide +kernel)) (cs1 (kw1 (by decide +kernel) (by decide +kernel)) (ap1 (fun t ht => (kr_ok 3 _ hk t ht).t1) (cs1 (kw1 (by decide +kernel) (by decide +kernel)) nl1)))
    | use hp => rw [xr_use hp]; exact pl1 hp
    | is hp => rw [xr_is hp]; exact ap1 (pl1 hp) (cs1 (kw1 (by decide +kernel) (by decide +kernel)) (cs1 (kw1 (by decide +kernel) (by decide +kernel)) nl1))
    | bor hp =>
      rename_i m v ss
      rw [xr_bor hp]
      refine ap1 ?_ (pl1 hp)
      cases m
      · exact cs1 (kw1 (by decide +kernel) (by decide +kernel)) nl1
      · exact cs1 (kw1 (by decide +kernel) (by decide +kernel)) (cs1 (kw1 (by decide +kernel) (by decide +kernel)) nl1)
    | un hw he => rw [xr_un hw]; exact cs1 (kw1 (un_kw hw) (un1 hw)) (ex1 n _ he)
    | swap hp he => rw [xr_swap hp]; exact cs1 (kw1 (by decide +kernel) (by decide +kernel)) (ap1 (pl1 hp) (cs1 (kw1 (by decide +kernel) (by decide +kernel)) (ex1 n _ he)))
    | op hs hl hr => rw [xr_op hs]; exact cs1 (kw1 (by decide +kernel) (by decide +kernel)) (ap1 (ex1 n _ hl) (cs1 (kw1 (op_kw hs) (op1 hs)) (ap1 (ex1 n _ hr) (cs1 (kw1 (by decide +kernel) (by decide +kernel)) nl1))))
    | tup h2 h6 hl => rw [xr_tup]; exact pr _ hl
    | rcd hx h6 hl => rw [xr_rcd hx]; exact cs1 (big_ok hx).t1 (pr _ hl)
    | call hx h6 hl => rw [xr_call hx]; exact cs1 (nm_ok hx).t1 (pr _ hl)
/-- the first token of an expression is no equals sign -/
theorem ex_hd {n : Nat} {e : Ex} (h : EOk n e) : ∃ t ts, e.raw = t :: ts ∧ t ≠ "=" ∧ t ≠ "==" := by
  obtain ⟨m, rfl⟩ := eok_pos h
  obtain ⟨t, ts, er, hs⟩ := esh h
  have hf : formT t = "number" → t ≠ "=" ∧ t ≠ "==" := fun h => by
    refine ⟨fun e => ?_, fun e => ?_⟩
    · rw [e, eq_forms.1] at h; revert h; decide +kernel
    · rw [e, eq_forms.2] at h; revert h; decide +kernel
  refine ⟨t, ts, er, ?_⟩
  rcases esh_cls hs with ⟨h1 | rfl, _⟩ | ⟨_, _, ⟨h1, _⟩ | ⟨_, ⟨_, hn, _⟩ | ⟨_, ⟨rfl, _⟩ | ⟨_, ⟨rfl, _⟩ | ⟨_, hw⟩⟩⟩⟩⟩
  · exact hf h1
  · decide +kernel
  · refine ⟨fun e => ?_, fun e => ?_⟩
    · rw [e, eq_forms.1] at h1; revert h1; decide +kernel
    · rw [e, eq_forms.2] at h1; revert h1; decide +kernel
  · exact (nm_ok hn).ne
  · decide +kernel
  · decide +kernel
  · exact (show ∀ w ∈ (["true", "false", "unit", "none", "swap", "some", "box", "unbox", "not"] : List Str), w ≠ "=" ∧ w ≠ "==" by decide +kernel) _ (wsh_kw hw)
theorem eqF_app : ∀ {a b : List Str}, (∀ t ∈ a, Tk1 t) → EqF b → EqF (a ++ b)
  | [], b, _, h => h
  | x :: r, b, h1, h2 => by
    have ih := eqF_app (a := r) (b := b) (fun t ht => h1 t (List.mem_cons_of_mem _ ht)) h2
    rw [List.cons_append]
    cases e : r ++ b with
    | nil => exact trivial
    | cons y z => exact ⟨fun e => absurd e (h1 x List.mem_cons_self).ne, e ▸ ih⟩
theorem eqF_eq {n : Nat} {e : Ex} {b : List Str} (h : EOk n e) (hb : EqF (e.raw ++ b)) : EqF (("=" : Str) :: (e.raw ++ b)) := by
  obtain ⟨t, ts, er, h1⟩ := ex_hd h
  rw [er, List.cons_append] at hb ⊢
  exact ⟨fun _ => h1, hb⟩
structure StF (ts : List Str) : Prop where
  tk : ∀ t ∈ ts, WfT t ∧ t.length ≤ 20
  eq : ∀ b, EqF b → EqF (ts ++ b)
theorem StF.app {a b : List Str} (h1 : StF a) (h2 : StF b) : StF (a ++ b) := ⟨fun t ht => (List.mem_append.mp ht).elim (h1.tk t) (h2.tk t), fun c hc => by rw [List.append_assoc]; exact h1.eq _ (h2.eq _ hc)⟩
theorem StF.of {a : List Str} (h : ∀ t ∈ a, Tk1 t) : StF a := ⟨fun t ht => ⟨(h t ht).wf, (h t ht).ln⟩, fun b hb => eqF_app h hb⟩
theorem StF.cons {x : Str} {a : List Str} (h1 : Tk1 x) (h2 : StF a) : StF (x :: a) := StF.app (a := [x]) (StF.of (cs1 h1 nl1)) h2
theorem StF.eqc {n : Nat} {e : Ex} {a : List Str} (h : EOk n e) (h2 : StF a) : StF (("=" : Str) :: (e.raw ++ a)) := by
  have h3 := StF.app (StF.of (ex1 n e h)) h2
  refine ⟨fun t ht => ?_, fun b hb => ?_⟩
  · rcases List.mem_cons.mp ht with rfl | ht
    · exact kw_tk (by decide +kernel)
    · exact h3.tk t ht
  · have := h3.eq b hb
    rw [List.append_assoc] at this
    rw [List.cons_append, List.append_assoc]
    exact eqF_eq h this
theorem StF.nil : StF [] := ⟨fun _ h => (nomatch h), fun _ h => h⟩
theorem st_f : ∀ (n : Nat) (s : St), SOk n s → StF s.toks
  | 0, _, h => nomatch h
  | n + 1, s, h => by
    have lss : ∀ l : List St, (∀ s ∈ l, SOk n s) → StF (St.tokss l) := by
      intro l
      induction l with
      | nil => intro _; simp only [St.tokss]; exact StF.nil
      | cons a r ih =>
        intro hl
        simp only [St.tokss]
        exact (st_f n a (hl a List.mem_cons_self)).app (ih fun s hs => hl s (List.mem_cons_of_mem _ hs))
    have k1 : ∀ {t : Str}, isKw t = true → t ≠ "=" → Tk1 t := kw1
    have sc : StF [(";" : Str)] := StF.of (cs1 (kw1 (by decide +kernel) (by decide +kernel)) nl1)
    have cl : StF [("}" : Str)] := StF.of (cs1 (kw1 (by decide +kernel) (by decide +kernel)) nl1)
    have xf : ∀ {e : Ex}, EOk 36 e → StF e.raw := fun h => StF.of (ex1 36 _ h)
    cases h with
    | act hw he => simp only [St.toks]; exact StF.cons (kw1 (ac_kw hw).1 (ac_kw hw).2.1) ((xf he).app sc)
    | lt hx he => simp only [St.toks]; exact StF.cons (k1 (by decide +kernel) (by decide +kernel)) (StF.cons (nm_ok hx).t1 (StF.eqc he sc))
    | sto hp he => simp only [St.toks]; exact (StF.of (pl1 hp)).app (StF.eqc he sc)
    | iff he _ _ hb hc =>
      simp only [St.toks]
      exact StF.cons (k1 (by decide +kernel) (by decide +kernel)) ((xf he).app (StF.cons (k1 (by decide +kernel) (by decide +kernel)) ((lss _ hb).app (StF.cons (k1 (by decide +kernel) (by decide +kernel)) (StF.cons (k1 (by decide +kernel) (by decide +kernel)) (StF.cons (k1 (by decide +kernel) (by decide +kernel)) ((lss _ hc).app cl)))))))
    | whl he _ hb =>
      simp only [St.toks]
      exact StF.cons (k1 (by decide +kernel) (by decide +kernel)) ((xf he).app (StF.cons (k1 (by decide +kernel) (by decide +kernel)) ((lss _ hb).app cl)))
theorem sts_f {n : Nat} : ∀ l : List St, (∀ s ∈ l, SOk n s) → StF (St.tokss l)
  | [], _ => by simp only [St.tokss]; exact StF.nil
  | a :: r, hl => by
    simp only [St.tokss]
    exact (st_f n a (hl a List.mem_cons_self)).app (sts_f r fun s hs => hl s (List.mem_cons_of_mem _ hs))
end My
set_option maxHeartbeats 4000000
namespace My
open PySem L2 DL
/-! ### statements, parsed -/
inductive SmOk : List Str → D → Prop
  | act {w : Str} {e : Ex} : w ∈ acW → EOk 36 e → SmOk (w :: e.raw) (.tup [.str w, e.d])
  | lt {x : Str} {e : Ex} : Nm x → EOk 36 e → SmOk (("let" : Str) :: x :: ("=" : Str) :: e.raw) (.tup [.str "let", .str x, e.d])
  | sto {v : Str} {ss : List D} {e : Ex} : Pk v ss → EOk 36 e → SmOk (plW v ss ++ (("=" : Str) :: e.raw)) (.tup [.str "store", plcD v ss, e.d])
theorem fol_semi (r : List Str) : Fol ((";" : Str) :: r) := fol_of (by decide +kernel)
theorem fol_brace (r : List Str) : Fol (("{" : Str) :: r) := fol_of (by decide +kernel)
theorem tok_hd : ∀ (n : Nat) (s : St), SOk n s → ∃ t ts, s.toks = t :: ts ∧ t ≠ "}"
  | 0, _, h => nomatch h
  | n + 1, _, .act hw he => ⟨_, _, by simp only [St.toks]; rfl, (show ∀ w ∈ acW, w ≠ "}" by decide +kernel) _ hw⟩
  | n + 1, _, .lt hx he => ⟨_, _, by simp only [St.toks]; rfl, by decide +kernel⟩
  | n + 1, _, .sto hp he => ⟨_, _, by simp only [St.toks, plW, List.cons_append]; rfl, nm_kw hp.nm (by decide +kernel)⟩
  | n + 1, _, .iff _ _ _ _ _ => ⟨_, _, by simp only [St.toks]; rfl, by decide +kernel⟩
  | n + 1, _, .whl _ _ _ => ⟨_, _, by simp only [St.toks]; rfl, by decide +kernel⟩
def BOk (n : Nat) (l : List St) : Prop := l.length ≤ 1000 ∧ ∀ s ∈ l, SOk n s
def blkD (l : List St) : D := .tup (l.map St.d)
section
variable {P : Program} {w : World} {K : PySem.W.Frag} {mg : Str → Option Value} {base : Heap} {f : Addr} {fd : FuncData} {C T : Addr}
theorem ok_psimple {k : Nat} (hk : 5 ≤ k) (cp : PCls K C) (F : Fun K "parse_simple" "Parser.parse_simple" st_Parser_parse_simple f fd) (b : Binds K fd ["self"] []) (Mm : Meth K C "parse_simple" f)
    (C_takes : CalleeM P w K mg base C "takes" 3 ["self", "text"] (spTakes C T)) (C_expect : CalleeM P w K mg base C "expect" 4 ["self", "text"] (spExpect C T)) (C_form : CalleeM P w K mg base C "take_form" 2 ["self", "form"] (spForm C T))
    (C_place : CalleeM P w K mg base C "parse_place" 5 ["self"] (spItemF C T FolS (fun x : Str × List D => Pk x.1 x.2) (fun x => plW x.1 x.2) (fun x => plcD x.1 x.2)))
    (C_expr : CalleeM P w K mg base C "parse_expression" k ["self"] (spItemF C T Fol (EOk 36) Ex.raw Ex.d)) :
    CalleeM P w K mg base C "parse_simple" (k + 1) ["self"] (spItemF C T Fol (fun a : List Str × D => SmOk a.1 a.2) (fun a => a.1) (fun a => a.2)) := by
  refine ⟨f, fd, fn3 F scope_Parser_parse_simple (fun ds M Q ⟨_, _, _, e, _⟩ => by rw [e]; rfl) (fun cdv A outer sh H E' hr ds M Q ⟨E, ⟨ts, d⟩, rr, e, hs, hfo, hp, q⟩ => ?_), Mm, b⟩
  subst e
  have h3 : Room 3 _ := hr.mono (by omega)
  have h4 : Room 4 _ := hr.mono (by omega)
  replace hs : SmOk ts d := hs
  replace hp : PT C T E M (ts ++ rr) := hp
  replace q : ∀ M', PT C T E M' rr → Keep E.p M M' → Q d M' := q
  cases hs with
  | @act x e hw he =>
    have hp : PT C T E M (x :: (e.raw ++ rr)) := hp
    have hx := ac_kw hw
    refine ss_if (t_takes cp C_takes h3 rfl hp (by decide +kernel) (e_str ⟨rfl, rfl⟩) (fun h => absurd h hx.2.2.2.2) fun _ => BQ.f ?_)
    refine ss_cons (s_for PassesOwn.never (i_tup (e_tup (a_cons (e_str (a_cons (e_str (a_cons (e_str (a_nil ⟨by show 3 ≤ sizeLine; decide, ?_⟩))))))))))
    refine ⟨fun i σ' M2 => ∃ d1 : Option D, σ' = [some (.ref E.p), none, d1, none] ∧ M2 = M ∧ ∀ w ∈ acW.take i, x ≠ w, ⟨none, rfl, rfl, by simp⟩, fun _ _ _ _ _ => trivial, ?_, ?_⟩
    · rintro i d' σ' M' hd ⟨d1, rfl, rfl, hno⟩
      rw [show [D.str "do", D.str "print", D.str "return"] = acW.map D.str from rfl] at hd
      obtain ⟨wd, hw', rfl⟩ := get_map hd
      have hwm := List.mem_of_getElem? hw'
      refine g_name 2 scope_Parser_parse_simple.nd ?_
      refine ss_one (s_if (t_takes cp C_takes h3 rfl hp (ac_kw hwm).1 (e_var 2 rfl ⟨rfl, rfl⟩) (fun ht M2 hp2 k2 => BQ.t ?_) fun ht => BQ.f (ss_nil ⟨_, rfl, rfl, ?_⟩)))
      · subst ht
        exact ss_one (s_ret (e_tup (a_cons (e_var 2 rfl (a_cons (e_itemF cp C_expr hr rfl he hfo hp2 fun M5 hp5 k5 => a_nil ⟨by show 2 ≤ sizeLine; decide, Wk.here (q M5 hp5 (k2.trans k5))⟩))))))
      · intro w2 hw2
        rw [List.take_add_one, hw'] at hw2
        rcases List.mem_append.mp hw2 with h | h
        · exact hno w2 h
        · rw [List.mem_singleton.mp h]; exact ht
    · rintro σ' M' ⟨d1, rfl, rfl, hno⟩
      exact absurd rfl (hno x hw)
  | @lt x e hx he =>
    have hp : PT C T E M (("let" : Str) :: x :: ("=" : Str) :: (e.raw ++ rr)) := hp
    refine ss_if (t_takes cp C_takes h3 rfl hp (by decide +kernel) (e_str ⟨rfl, rfl⟩) (fun _ M2 hp2 k2 => BQ.t ?_) fun h => absurd rfl h)
    refine ss_cons (s_asg 1 scope_Parser_parse_simple.nd (e_form cp C_form (hr.mono (by omega)) rfl hp2 (nm_form hx).1 fun M3 hp3 k3 => ?_))
    refine ss_cons (s_expect cp C_expect h4 rfl hp3 (by decide +kernel) fun M4 hp4 k4 => ?_)
    exact ss_one (s_ret (e_tup (a_cons (e_str (a_cons (e_var 1 rfl (a_cons (e_itemF cp C_expr hr rfl he hfo hp4 fun M5 hp5 k5 => a_nil ⟨by show 3 ≤ sizeLine; decide, Wk.here (q M5 hp5 (((k2.trans k3).trans k4).trans k5))⟩))))))))
  | @sto v ss e hpk he =>
    rw [List.append_assoc, List.cons_append] at hp
    have hp' : PT C T E M (v :: (stsW ss ++ (("=" : Str) :: (e.raw ++ rr)))) := hp
    have hv : ∀ w : Str, isKw w = true → v ≠ w := fun w h => nm_kw hpk.nm h
    refine ss_if (t_takes cp C_takes h3 rfl hp' (by decide +kernel) (e_str ⟨rfl, rfl⟩) (fun h => absurd h (hv _ (by decide +kernel))) fun _ => BQ.f ?_)
    refine ss_cons (s_for PassesOwn.never (i_tup (e_tup (a_cons (e_str (a_cons (e_str (a_cons (e_str (a_nil ⟨by show 3 ≤ sizeLine; decide, ?_⟩))))))))))
    refine ⟨fun i σ' M2 => ∃ d1 : Option D, σ' = [some (.ref E.p), none, d1, none] ∧ M2 = M, ⟨none, rfl, rfl⟩, fun _ _ _ _ _ => trivial, ?_, ?_⟩
    · rintro i d' σ' M' hd ⟨d1, rfl, rfl⟩
      rw [show [D.str "do", D.str "print", D.str "return"] = acW.map D.str from rfl] at hd
      obtain ⟨wd, hw', rfl⟩ := get_map hd
      have hwm := List.mem_of_getElem? hw'
      refine g_name 2 scope_Parser_parse_simple.nd ?_
      exact ss_one (s_if (t_takes cp C_takes h3 rfl hp' (ac_kw hwm).1 (e_var 2 rfl ⟨rfl, rfl⟩) (fun ht => absurd ht (hv _ (ac_kw hwm).1)) fun ht => BQ.f (ss_nil ⟨_, rfl, rfl⟩)))
    rintro σ' M' ⟨d1, rfl, rfl⟩
    refine ss_cons (s_asg 3 scope_Parser_parse_simple.nd (e_itemF (a := (v, ss)) cp C_place (hr.mono (by omega)) rfl hpk ⟨"=", _, rfl, by decide +kernel⟩ hp fun M3 hp3 k3 => ?_))
    refine ss_cons (s_expect cp C_expect h4 rfl hp3 (by decide +kernel) fun M4 hp4 k4 => ?_)
    exact ss_one (s_ret (e_tup (a_cons (e_str (a_cons (e_var 3 rfl (a_cons (e_itemF cp C_expr hr rfl he hfo hp4 fun M5 hp5 k5 => a_nil ⟨by show 3 ≤ sizeLine; decide, Wk.here (q M5 hp5 ((k3.trans k4).trans k5))⟩))))))))
theorem ok_pblock (cp : PCls K C) (F : Fun K "parse_block" "Parser.parse_block" st_Parser_parse_block f fd) (b : Binds K fd ["self"] []) (Mm : Meth K C "parse_block" f) (m_tuple : mg "tuple" = none)
    (C_takes : CalleeM P w K mg base C "takes" 3 ["self", "text"] (spTakes C T)) (C_expect : CalleeM P w K mg base C "expect" 4 ["self", "text"] (spExpect C T))
    (n k : Nat) (hk : 4 ≤ k) (C_stm : CalleeM P w K mg base C "parse_statement" k ["self"] (spItem C T (SOk n) St.toks St.d)) :
    CalleeM P w K mg base C "parse_block" (k + 1) ["self"] (spItem C T (BOk n) blockW blkD) := by
  refine ⟨f, fd, fn3 F scope_Parser_parse_block (fun ds M Q ⟨_, _, _, e, _⟩ => by rw [e]; rfl) (fun cdv A outer sh H E' hr ds M Q ⟨E, l, rr, e, ⟨hln, hl⟩, hp, q⟩ => ?_), Mm, b⟩
  subst e
  have h3 : Room 3 _ := hr.mono (by omega)
  simp only [blockW, List.cons_append, List.append_assoc, List.nil_append] at hp
  refine ss_cons (s_expect cp C_expect (hr.mono (by omega)) rfl hp (by decide +kernel) fun M1 hp1 k1 => ?_)
  refine ss_cons (s_asg 1 scope_Parser_parse_block.nd (e_lst (a_nil ⟨by show 0 ≤ sizeLine; decide, fun qa M2 f2 e2 l2 => ?_⟩)))
  obtain ⟨o1, o2⟩ := hp1.out f2
  refine ss_cons (s_while (fun m σ' M' => σ' = [some (.ref E.p), some (.ref qa)] ∧ ∃ d2 r2, l = d2 ++ r2 ∧ m = r2.length ∧ M' qa = some (.lst (d2.map St.d)) ∧ PT C T E M' (St.tokss r2 ++ (("}" : Str) :: rr)) ∧ Keep E.p M1 M') l.length ⟨rfl, [], l, rfl, rfl, e2, hp1.le l2, l2.keep⟩ PassesOwn.never ?_)
  rintro m σ' M3 ⟨rfl, d2, r2, e2', rfl, ea, hp3, k3⟩
  have hdl : d2.length ≤ 1000 := by
    have := congrArg List.length e2'
    rw [List.length_append] at this
    omega
  cases r2 with
  | nil =>
    simp only [St.tokss, List.nil_append] at hp3
    rw [List.append_nil] at e2'
    refine t_not (t_takes cp C_takes h3 rfl hp3 (by decide +kernel) (e_str ⟨rfl, rfl⟩) (fun _ M4 hp4 k4 => ⟨fun h => absurd h (by decide), fun _ => ?_⟩) fun h => absurd rfl h)
    refine ss_one (s_ret (e_tuplec m_tuple (a_cons (e_var 1 rfl (a_nil ⟨_, k4.at o2 ea, ?_⟩)))))
    rw [← e2']
    exact Wk.here (q M4 hp4 ((k1.trans k3).trans k4))
  | cons s r2 =>
    have hs := hl s (by rw [e2']; simp)
    obtain ⟨t, ts, et, hne⟩ := tok_hd n s hs
    simp only [St.tokss, List.append_assoc] at hp3
    have hp3' := hp3
    rw [et, List.cons_append] at hp3'
    refine t_not (t_takes cp C_takes h3 rfl hp3' (by decide +kernel) (e_str ⟨rfl, rfl⟩) (fun h => absurd h hne) fun _ => ⟨fun _ => ?_, fun h => absurd h (by decide)⟩)
    refine ss_one (s_append 1 ea rfl (e_item cp C_stm hr rfl hs hp3 fun M4 hp4 k4 => ⟨_, k4.at o2 ea, szlt (by rw [List.length_map]; omega), fun M5 e5 k5 => ?_⟩))
    exact ⟨r2.length, by simp, rfl, d2 ++ [s], r2, by rw [e2']; simp, rfl, by rw [e5]; simp, hp4.setQ k5 (k4.at o2 ea) o1, (k3.trans k4).setN' f2 k5⟩
theorem stm_cls {n : Nat} {s : St} (h : SOk (n + 1) s) : (∃ ts, SmOk ts s.d ∧ s.toks = ts ++ [(";" : Str)] ∧ ∃ t ts', ts = t :: ts' ∧ t ≠ "if" ∧ t ≠ "while") ∨
    (∃ e b c, s = .iff e b c ∧ EOk 36 e ∧ b.length ≤ 5 ∧ c.length ≤ 5 ∧ (∀ s ∈ b, SOk n s) ∧ ∀ s ∈ c, SOk n s) ∨ (∃ e b, s = .whl e b ∧ EOk 36 e ∧ b.length ≤ 5 ∧ ∀ s ∈ b, SOk n s) := by
  cases h with
  | @act _ x e hw he => exact .inl ⟨_, by simp only [St.d]; exact .act hw he, by simp only [St.toks, List.cons_append], x, _, rfl, (ac_kw hw).2.2.1, (ac_kw hw).2.2.2.1⟩
  | @lt _ x e hx he => exact .inl ⟨_, by simp only [St.d]; exact .lt hx he, by simp only [St.toks, List.cons_append], _, _, rfl, by decide +kernel, by decide +kernel⟩
  | @sto _ v ss e hpk he => exact .inl ⟨plW v ss ++ (("=" : Str) :: e.raw), by simp only [St.d]; exact .sto hpk he, by simp only [St.toks, List.cons_append, List.append_assoc], v, _, rfl, nm_kw hpk.nm (by decide +kernel), nm_kw hpk.nm (by decide +kernel)⟩
  | @iff _ e b1 c1 he h5 h6 hb hc => exact .inr (.inl ⟨_, _, _, rfl, he, h5, h6, hb, hc⟩)
  | @whl _ e b1 he h5 hb => exact .inr (.inr ⟨_, _, rfl, he, h5, hb⟩)
theorem ok_pstm {kE : Nat} (hkE : 5 ≤ kE) (cp : PCls K C) (F : Fun K "parse_statement" "Parser.parse_statement" st_Parser_parse_statement f fd) (b : Binds K fd ["self"] []) (Mm : Meth K C "parse_statement" f)
    (C_takes : CalleeM P w K mg base C "takes" 3 ["self", "text"] (spTakes C T)) (C_expect : CalleeM P w K mg base C "expect" 4 ["self", "text"] (spExpect C T))
    (C_expr : CalleeM P w K mg base C "parse_expression" kE ["self"] (spItemF C T Fol (EOk 36) Ex.raw Ex.d))
    (C_simple : CalleeM P w K mg base C "parse_simple" (kE + 1) ["self"] (spItemF C T Fol (fun a : List Str × D => SmOk a.1 a.2) (fun a => a.1) (fun a => a.2)))
    (C_block : ∀ n k, 4 ≤ k → CalleeM P w K mg base C "parse_statement" k ["self"] (spItem C T (SOk n) St.toks St.d) → CalleeM P w K mg base C "parse_block" (k + 1) ["self"] (spItem C T (BOk n) blockW blkD)) :
    ∀ n, CalleeM P w K mg base C "parse_statement" (2 * n + kE + 2) ["self"] (spItem C T (SOk n) St.toks St.d) := by
  intro n
  induction n with
  | zero =>
    refine ⟨f, fd, fn3 F scope_Parser_parse_statement (fun ds M Q ⟨_, _, _, e, _⟩ => by rw [e]; rfl) (fun cdv A outer sh H E' hr ds M Q ⟨E, s, rr, e, hs, _⟩ => ?_), Mm, b⟩
    exact nomatch hs
  | succ n ih =>
    have c_block := C_block n _ (by omega) ih
    refine ⟨f, fd, fn3 F scope_Parser_parse_statement (fun ds M Q ⟨_, _, _, e, _⟩ => by rw [e]; rfl) (fun cdv A outer sh H E' hr ds M Q ⟨E, s, rr, e, hs, hp, q⟩ => ?_), Mm, b⟩
    subst e
    have h3 : Room 3 _ := hr.mono (by omega)
    have h4 : Room 4 _ := hr.mono (by omega)
    rcases stm_cls hs with ⟨ts, hsm, e1, t, ts', e3, n1, n2⟩ | ⟨e, b1, c1, rfl, he, h5, h6, hb, hc⟩ | ⟨e, b1, rfl, he, h5, hb⟩
    · rw [e1, List.append_assoc] at hp
      have hp' := hp
      rw [e3, List.cons_append] at hp'
      refine ss_if (t_takes cp C_takes h3 rfl hp' (by decide +kernel) (e_str ⟨rfl, rfl⟩) (fun h => absurd h n1) fun _ => BQ.f ?_)
      refine ss_if (t_takes cp C_takes h3 rfl hp' (by decide +kernel) (e_str ⟨rfl, rfl⟩) (fun h => absurd h n2) fun _ => BQ.f ?_)
      refine ss_cons (s_asg 3 scope_Parser_parse_statement.nd (e_itemF (a := (ts, s.d)) cp C_simple (hr.mono (by omega)) rfl hsm (fol_semi _) hp fun M3 hp3 k3 => ?_))
      refine ss_cons (s_expect cp C_expect h4 rfl hp3 (by decide +kernel) fun M4 hp4 k4 => ?_)
      exact ss_one (s_ret (e_var 3 rfl (Wk.here (q M4 hp4 (k3.trans k4)))))
    · have hp : PT C T E M (("if" : Str) :: (e.raw ++ (blockW b1 ++ (("else" : Str) :: (blockW c1 ++ rr))))) := by simpa only [St.toks, blockW, List.append_assoc, List.cons_append, List.nil_append] using hp
      refine ss_if (t_takes cp C_takes h3 rfl hp (by decide +kernel) (e_str ⟨rfl, rfl⟩) (fun _ M2 hp2 k2 => BQ.t ?_) fun h => absurd rfl h)
      refine ss_cons (s_asg 1 scope_Parser_parse_statement.nd (e_itemF cp C_expr (hr.mono (by omega)) rfl he (fol_brace _) hp2 fun M3 hp3 k3 => ?_))
      refine ss_cons (s_asg 2 scope_Parser_parse_statement.nd (e_item cp c_block (hr.mono (by omega)) rfl ⟨by omega, hb⟩ hp3 fun M4 hp4 k4 => ?_))
      refine ss_cons (s_expect cp C_expect h4 rfl hp4 (by decide +kernel) fun M5 hp5 k5 => ?_)
      refine ss_one (s_ret (e_tup (a_cons (e_str (a_cons (e_var 1 rfl (a_cons (e_var 2 rfl (a_cons (e_item cp c_block (hr.mono (by omega)) rfl ⟨by omega, hc⟩ hp5 fun M6 hp6 k6 => a_nil ⟨by show 4 ≤ sizeLine; decide, ?_⟩))))))))))
      have := q M6 hp6 ((((k2.trans k3).trans k4).trans k5).trans k6)
      simp only [St.d, St.ds_map] at this
      exact Wk.here this
    · have hp : PT C T E M (("while" : Str) :: (e.raw ++ (blockW b1 ++ rr))) := by simpa only [St.toks, blockW, List.append_assoc, List.cons_append, List.nil_append] using hp
      refine ss_if (t_takes cp C_takes h3 rfl hp (by decide +kernel) (e_str ⟨rfl, rfl⟩) (fun h => absurd h (by decide +kernel)) fun _ => BQ.f ?_)
      refine ss_if (t_takes cp C_takes h3 rfl hp (by decide +kernel) (e_str ⟨rfl, rfl⟩) (fun _ M2 hp2 k2 => BQ.t ?_) fun h => absurd rfl h)
      refine ss_cons (s_asg 1 scope_Parser_parse_statement.nd (e_itemF cp C_expr (hr.mono (by omega)) rfl he (fol_brace _) hp2 fun M3 hp3 k3 => ?_))
      refine ss_one (s_ret (e_tup (a_cons (e_str (a_cons (e_var 1 rfl (a_cons (e_item cp c_block (hr.mono (by omega)) rfl ⟨by omega, hb⟩ hp3 fun M6 hp6 k6 => a_nil ⟨by show 3 ≤ sizeLine; decide, ?_⟩))))))))
      have := q M6 hp6 ((k2.trans k3).trans k6)
      simp only [St.d, St.ds_map] at this
      exact Wk.here this
end
section
variable {P : Program} {w : World} {K : PySem.W.Frag} {mg : Str → Option Value} {base : Heap} {f : Addr} {fd : FuncData}
def spStm (n : Nat) : Sp3 := fun ds M Q => ∃ (a : Addr) (ns : List Int) (room : Nat), ds = [.ref a, .rol (ns.map D.int), .int (room : Int)] ∧ ∃ t0 : Int, StT M a t0 ∧ 1 ≤ room ∧ room ≤ n ∧ ∀ s M', SOk room s → s.nn ≤ 2 + 14 * (t0 - 1).toNat → StT M' a (t0 - (s.nn : Int)) → Keep a M M' → Q s.d M'
def spBlk (n : Nat) : Sp3 := fun ds M Q => ∃ (a : Addr) (ns : List Int) (room many : Nat), ds = [.ref a, .rol (ns.map D.int), .int (room : Int), .int (many : Int)] ∧ ∃ t0 : Int, StT M a t0 ∧ 1 ≤ room ∧ room ≤ n ∧ 1 ≤ many ∧ many ≤ 6 ∧ ∀ l M', (∀ s ∈ l, SOk room s) → l.length + 1 ≤ many → St.nns l ≤ 14 * (t0 - 1).toNat + 2 * l.length → StT M' a (t0 - (St.nns l : Int)) → Keep a M M' → Q (.tup (l.map St.d)) M'
theorem pk_blk {n k : Nat} (F : Fun K "_law_block" "_law_block" st__law_block f fd) (b : Binds K fd ["_law_state", "_law_script", "_law_room", "_law_many"] []) (g : mg "_law_block" = some (.ref f)) (m_range : mg "range" = none) (m_tuple : mg "tuple" = none)
    (C__law_pick : Callee P w K mg base "_law_pick" 1 ["_law_state", "_law_script", "_law_many"] spPick)
    (C__law_statement : Callee P w K mg base "_law_statement" (k + 1) ["_law_state", "_law_script", "_law_room"] (spStm n)) :
    Callee P w K mg base "_law_block" (k + 2) ["_law_state", "_law_script", "_law_room", "_law_many"] (spBlk n) := by
  refine callee F scope__law_block g b (fun ds M Q ⟨_, _, _, _, e, _⟩ => by rw [e]; rfl) (fun cdv A outer s H E hr ds M Q ⟨a, ns, room, many, e, t0, hp, hr1, hrn, hm1, hm6, q⟩ => ?_)
  subst e
  refine ss_cons (s_asg 4 scope__law_block.nd (e_lst (a_nil ⟨by show 0 ≤ sizeLine; decide, fun p M1 f1 e1 l1 => ?_⟩)))
  have np := hp.apart f1
  refine ss_cons (s_for PassesOwn.never (i_rng1 m_range (e_call C__law_pick (hr.mono (by omega)) (a_cons (e_var 0 rfl (a_cons (e_var 1 rfl (a_cons (e_var 3 rfl (a_nil ⟨a, ns, many, rfl, _, hp.le l1, by omega, by omega, fun c M2 h2 h2' hp2 k2 => ⟨by omega, by omega, ?_⟩⟩))))))))))
  refine ⟨fun i σ' M' => ∃ (l : List St) (d5 : Option D), σ' = [some (.ref a), some (.rol (ns.map D.int)), some (.int (room : Int)), some (.int (many : Int)), some (.ref p), d5] ∧ M' p = some (.lst (l.map St.d)) ∧ l.length = i ∧ (∀ s ∈ l, SOk room s) ∧ StT M' a (t0 - (St.nns l : Int)) ∧ St.nns l ≤ 14 * (t0 - 1).toNat + 2 * i ∧ Keep a M M',
    ⟨[], none, rfl, k2 _ _ np e1, rfl, (fun _ h => nomatch h), by simp only [St.nns]; rw [show t0 - ((0 : Nat) : Int) = t0 by omega]; exact hp2, by simp only [St.nns]; omega, l1.keep.trans k2⟩, fun _ _ _ _ _ => trivial, ?_, ?_⟩
  · rintro i d σ' M3 hd ⟨l, d5, rfl, el, hl, ok, hp3, hs3, k3⟩
    obtain ⟨hi, rfl⟩ := rgD_get hd
    refine g_name 5 scope__law_block.nd ?_
    refine ss_one (s_expr (e_lm PySem.F.slot_list_append PySem.F.type_list_append mt_append rd_app (e_var 4 rfl ⟨⟨_, el⟩, a_cons (e_call C__law_statement hr (a_cons (e_var 0 rfl (a_cons (e_var 1 rfl (a_cons (e_var 2 rfl (a_nil ⟨a, ns, room, rfl, _, hp3, hr1, hrn, fun s M4 hs hn hp4 k4 => a_nil ⟨_, k4 _ _ np el, szlt (by rw [List.length_map]; omega), fun M5 e5 k5 => ?_⟩⟩))))))))⟩)))
    refine ⟨l ++ [s], _, rfl, by rw [e5]; simp, by simp [hl], fun x hx => (List.mem_append.mp hx).elim (ok x) (fun z => by simp at z; subst z; exact hs), ?_, ?_, (k3.trans k4).other k5 ?_⟩
    · rw [St.nns_app, show t0 - ((St.nns l + s.nn : Nat) : Int) = t0 - (St.nns l : Int) - (s.nn : Int) by omega]
      exact hp4.keep k5 np
    · rw [St.nns_app]
      omega
    · cases h : M p with
      | none => rfl
      | some m => rw [l1 _ _ h] at e1; exact absurd f1 (by rw [h]; simp)
  · rintro σ' M3 ⟨l, d5, rfl, el, hl, ok, hp3, hs3, k3⟩
    rw [rgD_length] at hl hs3
    exact ss_one (s_ret (e_tuplec m_tuple (a_cons (e_var 4 rfl (a_nil ⟨_, el, Wk.here (q l M3 ok (by omega) (by omega) hp3 k3)⟩)))))
theorem ok_stm (F : Fun K "_law_statement" "_law_statement" st__law_statement f fd) (b : Binds K fd ["_law_state", "_law_script", "_law_room"] []) (g : mg "_law_statement" = some (.ref f)) (m_int : mg "int" = none)
    (C__law_pick : Callee P w K mg base "_law_pick" 1 ["_law_state", "_law_script", "_law_many"] spPick)
    (C__law_name : Callee P w K mg base "_law_name" 2 ["_law_state", "_law_script"] spName)
    (C__law_place : Callee P w K mg base "_law_place" 3 ["_law_state", "_law_script"] spPl)
    (C__law_expression : ∀ n, Callee P w K mg base "_law_expression" (n + 5) ["_law_state", "_law_script", "_law_room"] (spEx n))
    (W : ∀ n k, Callee P w K mg base "_law_statement" (k + 1) ["_law_state", "_law_script", "_law_room"] (spStm n) → Callee P w K mg base "_law_block" (k + 2) ["_law_state", "_law_script", "_law_room", "_law_many"] (spBlk n)) :
    ∀ n, Callee P w K mg base "_law_statement" (2 * n + 9) ["_law_state", "_law_script", "_law_room"] (spStm n)
  | 0 => Callee.none g F.kp b fun ds M Q ⟨_, _, room, _, _, _, h1, h2, _⟩ => by omega
  | n + 1 => by
    have C__law_block := W n _ (ok_stm F b g m_int C__law_pick C__law_name C__law_place C__law_expression W n)
    refine callee F scope__law_statement g b (fun ds M Q ⟨_, _, _, e, _⟩ => by rw [e]; rfl) (fun cdv A outer s H E hr ds M Q ⟨a, ns, room, e, t0, hp, hr1, hrn, q⟩ => ?_)
    subst e
    obtain ⟨m, rfl⟩ : ∃ m, room = m + 1 := ⟨room - 1, by omega⟩
    obtain ⟨x1, x2, x3, ex, hx1, hx2, hx3, hx4⟩ := id hp
    refine ss_cons (s_asgG (e_sub (e_ix (e_var 0 rfl (e_int ⟨_, _, ex, rfl, e_int (g_sub (e_var 0 rfl (e_int ⟨_, _, ex, rfl, fun M1 e1 k1 => ?_⟩)))⟩)))))
    have hp1 : StT M1 a (t0 - 1) := ⟨_, _, _, e1, hx1, hx2, hx3, hx4⟩
    refine ss_cons (s_asg 3 scope__law_statement.nd (e_call C__law_pick (hr.mono (by omega)) (a_cons (e_var 0 rfl (a_cons (e_var 1 rfl (a_cons (e_int (a_nil ⟨a, ns, 8, rfl, _, hp1, by decide, by decide, fun c M2 h2 h2' hp2 k2 => ?_⟩)))))))))
    have K2 := k1.trans k2
    obtain ⟨y1, y2, y3, ey, _⟩ := id hp2
    have e2 := ey
    refine ss_cut (fun σ' M' => ∃ c : Int, σ' = [some (.ref a), some (.rol (ns.map D.int)), some (.int ((m + 1 : Nat) : Int)), some (.int c), none, none] ∧ M' = M2 ∧ 0 ≤ c ∧ c < 8 ∧ (m = 0 → c < 6) ∧ (t0 < 2 → c < 6)) (s_if (t_w (w_or (t_lt (e_var 2 rfl (e_int ?_)))))) ?_
    · have go : ∀ c : Int, 0 ≤ c % 6 ∧ c % 6 < 6 := fun c => ⟨Int.emod_nonneg _ (by decide), Int.emod_lt_of_pos _ (by decide)⟩
      have g7 := go c
      refine ⟨fun hc => BQ.t ?_, fun hc => ?_⟩
      · refine ss_one (s_asg 3 scope__law_statement.nd (e_mod (e_intc m_int (a_cons (e_var 3 rfl (a_nil (e_int ⟨by show (0 : Int) < _; decide, ?_⟩)))))))
        exact ⟨_, rfl, rfl, g7.1, by omega, fun _ => g7.2, fun _ => g7.2⟩
      have hc := of_decide_eq_false hc
      refine w_or1 (t_lt (e_ix (e_var 0 rfl (e_int ⟨_, _, e2, rfl, e_int ⟨fun hc2 => ?_, fun hc2 => ss_nil ⟨_, rfl, rfl, h2, h2', fun h => by omega, fun h => by have := of_decide_eq_false hc2; omega⟩⟩⟩))))
      refine ss_one (s_asg 3 scope__law_statement.nd (e_mod (e_intc m_int (a_cons (e_var 3 rfl (a_nil (e_int ⟨by show (0 : Int) < _; decide, ?_⟩)))))))
      exact ⟨_, rfl, rfl, g7.1, by omega, fun _ => g7.2, fun _ => g7.2⟩
    rintro σ' M' ⟨c, rfl, rfl, h2, h2', hm7, ht7⟩
    refine ss_cons (s_asg 4 scope__law_statement.nd (e_call (C__law_expression 3) (hr.mono (by omega)) (a_cons (e_var 0 rfl (a_cons (e_var 1 rfl (a_cons (e_int (a_nil ⟨a, ns, 3, rfl, _, hp2, by omega, by omega, fun e M3 he0 hn hp3 k3 => ?_⟩)))))))))
    have K3 := K2.trans k3
    have he := EOk.mono he0 (show 3 ≤ 36 by decide)
    have ec : t0 - ((1 + e.nn : Nat) : Int) = t0 - 1 - (e.nn : Int) := by omega
    refine ss_if (t_eq ⟨_, hr⟩ (e_var 3 rfl (e_int ⟨trivial, ?_⟩)))
    refine ⟨fun hc => ?_, fun hc0 => ?_⟩
    · refine ss_one (s_ret (e_tup (a_cons (e_str (a_cons (e_call C__law_name (hr.mono (by omega)) (a_cons (e_var 0 rfl (a_cons (e_var 1 rfl (a_nil ⟨a, ns, rfl, _, hp3, fun x M4 hx hw hp4 k4 => a_cons (e_var 4 rfl (a_nil ⟨by show 3 ≤ sizeLine; decide, Wk.here ?_⟩))⟩)))))))))))
      have := q (.lt x e) M4 (.lt ⟨hx, hw⟩ he) (by simp only [St.nn]; omega) (by simp only [St.nn]; rw [ec]; exact hp4) (K3.trans k4)
      simpa only [St.d] using this
    refine ss_if (t_lt (e_var 3 rfl (e_int ?_)))
    refine ⟨fun hc => ?_, fun hc4 => ?_⟩
    · have hc := of_decide_eq_true hc
      rw [eqv_int] at hc0
      have hc0 := of_decide_eq_false hc0
      refine ss_one (s_ret (e_tup (a_cons (e_ix (e_lst (a_cons (e_str (a_cons (e_str (a_cons (e_str (a_nil ⟨by show 3 ≤ sizeLine; decide, fun p3 M4 f4 e4 l4 => e_sub (e_var 3 rfl (e_int ?_))⟩))))))))))))
      obtain ⟨y, hy, _⟩ := atI_lt (xs := acW.map D.str) (show 0 ≤ c - 1 by omega) (by show _ < ((3 : Nat) : Int); omega)
      obtain ⟨wd, hwd, rfl⟩ := List.mem_map.mp (atI_mem hy)
      refine ⟨_, _, e4, hy, a_cons (e_var 4 rfl (a_nil ⟨by show 2 ≤ sizeLine; decide, Wk.here ?_⟩))⟩
      have := q (.act wd e) M4 (.act hwd he) (by simp only [St.nn]; omega) (by simp only [St.nn]; rw [ec]; exact hp3.le l4) (K3.to l4)
      simpa only [St.d] using this
    refine ss_if (t_lt (e_var 3 rfl (e_int ?_)))
    refine ⟨fun hc => ?_, fun hc6 => ?_⟩
    · refine ss_one (s_ret (e_tup (a_cons (e_str (a_cons (e_call C__law_place (hr.mono (by omega)) (a_cons (e_var 0 rfl (a_cons (e_var 1 rfl (a_nil ⟨a, ns, rfl, _, hp3, fun v ss M4 hpl hp4 k4 => a_cons (e_var 4 rfl (a_nil ⟨by show 3 ≤ sizeLine; decide, Wk.here ?_⟩))⟩)))))))))))
      have := q (.sto v ss e) M4 (.sto hpl he) (by simp only [St.nn]; omega) (by simp only [St.nn]; rw [ec]; exact hp4) (K3.trans k4)
      simpa only [St.d] using this
    have hc6 := of_decide_eq_false hc6
    have ht2 : 2 ≤ t0 := by
      by_cases h : t0 < 2
      · exact absurd (ht7 h) hc6
      · omega
    have hm1 : 1 ≤ m := by
      rcases Nat.eq_zero_or_pos m with h | h
      · exact absurd (hm7 h) hc6
      · exact h
    have er : ((m + 1 : Nat) : Int) - 1 = (m : Int) := by omega
    refine ss_cons (s_asg 5 scope__law_statement.nd (e_call C__law_block hr (a_cons (e_var 0 rfl (a_cons (e_var 1 rfl (a_cons (e_sub (e_var 2 rfl (e_int (a_cons (e_int (a_nil ⟨a, ns, m, 4, by show [D.ref a, .rol (ns.map D.int), .int (((m + 1 : Nat) : Int) - 1), .int 4] = _; rw [er]; rfl, _, hp3, hm1, by omega, by decide, by decide, fun b1 M4 hb1 hl1 hn1 hp4 k4 => ?_⟩)))))))))))))
    have K4 := K3.trans k4
    refine ss_if (t_eq ⟨_, hr⟩ (e_var 3 rfl (e_int ⟨trivial, ?_⟩)))
    refine ⟨fun hc => ?_, fun hc7 => ?_⟩
    · refine ss_one (s_ret (e_tup (a_cons (e_str (a_cons (e_var 4 rfl (a_cons (e_var 5 rfl (a_cons (e_call C__law_block hr (a_cons (e_var 0 rfl (a_cons (e_var 1 rfl (a_cons (e_sub (e_var 2 rfl (e_int (a_cons (e_int (a_nil ⟨a, ns, m, 4, by show [D.ref a, .rol (ns.map D.int), .int (((m + 1 : Nat) : Int) - 1), .int 4] = _; rw [er]; rfl, _, hp4, hm1, by omega, by decide, by decide, fun b2 M5 hb2 hl2 hn2 hp5 k5 => a_nil ⟨by show 4 ≤ sizeLine; decide, Wk.here ?_⟩⟩)))))))))))))))))))))
      have := q (.iff e b1 b2) M5 (.iff he (by omega) (by omega) hb1 hb2) (by simp only [St.nn]; omega) (by simp only [St.nn]; rw [show t0 - ((1 + e.nn + St.nns b1 + St.nns b2 : Nat) : Int) = t0 - 1 - (e.nn : Int) - (St.nns b1 : Int) - (St.nns b2 : Int) by omega]; exact hp5) (K4.trans k5)
      simpa only [St.d, St.ds_map] using this
    · refine ss_one (s_ret (e_tup (a_cons (e_str (a_cons (e_var 4 rfl (a_cons (e_var 5 rfl (a_nil ⟨by show 3 ≤ sizeLine; decide, Wk.here ?_⟩)))))))))
      have := q (.whl e b1) M4 (.whl he (by omega) hb1) (by simp only [St.nn]; omega) (by simp only [St.nn]; rw [show t0 - ((1 + e.nn + St.nns b1 : Nat) : Int) = t0 - 1 - (e.nn : Int) - (St.nns b1 : Int) by omega]; exact hp4) K4
      simpa only [St.d, St.ds_map] using this
end
end My
set_option maxHeartbeats 4000000
namespace My
open PySem L2 DL
theorem joinE_snoc : ∀ (l : List Str) (x : Str), Str.join "" (l ++ [x]) = Str.join "" l ++ x
  | [], x => (nil_s x).symm
  | [y], x => by
    show y ++ "" ++ x = y ++ x
    rw [s_nil]
  | y :: z :: r, x => by
    have := joinE_snoc (z :: r) x
    show y ++ "" ++ Str.join "" ((z :: r) ++ [x]) = (y ++ "" ++ Str.join "" (z :: r)) ++ x
    rw [this]
    simp only [Str.append_assoc]
theorem len1 : ("(" : Str).length = 1 := by decide +kernel
theorem sum_le {B : Nat} : ∀ {l : List Str}, (∀ x ∈ l, x.length ≤ B) → (l.map (·.length)).sum ≤ l.length * B
  | [], _ => Nat.zero_le _
  | x :: r, h => by
    have h1 := h x List.mem_cons_self
    have h2 := sum_le (B := B) (l := r) fun z hz => h z (List.mem_cons_of_mem _ hz)
    rw [List.map_cons, List.sum_cons, List.length_cons, Nat.add_mul, Nat.one_mul]
    omega
section
variable {P : Program} {w : World} {K : PySem.W.Frag} {mg : Str → Option Value} {base : Heap} {f : Addr} {fd : FuncData}
def spWk (n : Nat) : Sp3 := fun ds M Q => ∃ k : Kd, ds = [k.d] ∧ n ≤ 3 ∧ Tk n k ∧ ∀ M', Mle M M' → Q (.str k.wk) M'
theorem ok_wkind (F : Fun K "write_kind" "write_kind" st_write_kind f fd) (b : Binds K fd ["kind"] []) (g : mg "write_kind" = some (.ref f)) :
    ∀ n, Callee P w K mg base "write_kind" n ["kind"] (spWk n)
  | 0 => Callee.none g F.kp b fun ds M Q ⟨k, _, _, h, _⟩ => by have := h.lev; have := k.lev_pos; omega
  | n + 1 => by
    have C_write_kind := ok_wkind F b g n
    refine callee F scope_write_kind g b (fun ds M Q ⟨k, e, _⟩ => by rw [e]; rfl) (fun cdv A outer s H E hr ds M Q ⟨k, e, hn3, tk, q⟩ => ?_)
    subst e
    rw [Kd.d_eq]
    have ret : ∀ (x : Str) M', Mle M M' → k.wk = x → Wk Q (.str x) M' := fun x M' l h => by rw [h] at q; exact Wk.here (q _ l)
    have b7 : 7 ^ n ≤ 7 ^ 2 := Nat.pow_le_pow_right (by decide) (by omega)
    have sub : ∀ x : Kd, k.wf = x.wf → k.lev = x.lev + 1 → k.rn = x.rn → Tk n x ∧ x.wk.length ≤ 1470 := fun x h1 h2 h3 => by
      have t : Tk n x := ⟨h1.symm.trans tk.wf, by have := tk.lev; omega, fun y hy => tk.rn y (by rw [h3]; exact hy)⟩
      exact ⟨t, by have := (kr_bnd n x t).1; omega⟩
    refine ss_if (t_eq ⟨_, hr⟩ (e_ix (e_var 0 rfl (e_int ⟨_, atI_hd, e_str ⟨trivial, ?_⟩⟩))))
    rw [eqv_str]
    refine ⟨fun h => ?_, fun h1 => ?_⟩
    · obtain ⟨x, rfl⟩ := tag_rcd (of_decide_eq_true h)
      exact ss_one (s_ret (e_ix (e_var 0 rfl (e_int ⟨_, atI_hd1, ret _ _ (Mle.refl _) (by simp only [Kd.wk])⟩))))
    have one : k.tag = "box" ∨ k.tag = "maybe" → ∃ x : Kd, k.tl = [x.d] ∧ k.wk = k.tag ++ " " ++ x.wk ∧ (Tk n x ∧ x.wk.length ≤ 1470) ∧ k.tag.length ≤ 10 := fun h => by
      rcases h with h | h
      · obtain ⟨x, rfl⟩ := tag_box h
        exact ⟨x, rfl, by simp only [Kd.wk, Kd.tag], sub x (by simp only [Kd.wf]) rfl (by simp only [Kd.rn]), by show ("box" : Str).length ≤ 10; decide +kernel⟩
      · obtain ⟨x, rfl⟩ := tag_maybe h
        exact ⟨x, rfl, by simp only [Kd.wk, Kd.tag], sub x (by simp only [Kd.wf]) rfl (by simp only [Kd.rn]), by show ("maybe" : Str).length ≤ 10; decide +kernel⟩
    have e1 : (" " : Str).length = 1 := by decide +kernel
    refine ss_if (t_post (fun b M' => M' = M ∧ b = (decide (k.tag = "box") || decide (k.tag = "maybe"))) (t_w (w_or (t_eq ⟨_, hr⟩ (e_ix (e_var 0 rfl (e_int ⟨_, atI_hd, e_str ⟨trivial, ?_⟩⟩)))))) ?_)
    · rw [eqv_str]
      refine ⟨fun h => ⟨rfl, by rw [h]; rfl⟩, fun h => w_or1 (t_eq ⟨_, hr⟩ (e_ix (e_var 0 rfl (e_int ⟨_, atI_hd, e_str ⟨trivial, ?_⟩⟩))))⟩
      rw [eqv_str]
      exact ⟨rfl, by rw [h]; rfl⟩
    rintro b M0 ⟨rfl, rfl⟩
    refine ⟨fun h => ?_, fun h => ?_⟩
    · rw [Bool.or_eq_true, decide_eq_true_eq, decide_eq_true_eq] at h
      obtain ⟨x, etl, ew, ⟨tx, hx⟩, ht⟩ := one h
      rw [etl]
      refine ss_one (s_ret (e_add (e_add (e_ix (e_var 0 rfl (e_int ⟨_, atI_hd, e_str ⟨szM (by omega), e_call C_write_kind hr (a_cons (e_ix (e_var 0 rfl (e_int ⟨_, atI_hd1, a_nil ⟨x, rfl, by omega, tx, fun M2 l2 => ⟨szM (by rw [str_len_app]; omega), ret _ _ l2 ew⟩⟩⟩))))⟩⟩))))))
    obtain ⟨h2, h3⟩ := Bool.or_eq_false_iff.mp h
    have h2 := of_decide_eq_false h2
    have h3 := of_decide_eq_false h3
    refine ss_if (t_eq ⟨_, hr⟩ (e_ix (e_var 0 rfl (e_int ⟨_, atI_hd, e_str ⟨trivial, ?_⟩⟩))))
    rw [eqv_str]
    refine ⟨fun h => ?_, fun h4 => ?_⟩
    · obtain ⟨x, rfl⟩ := tag_shared (of_decide_eq_true h)
      obtain ⟨tx, hx⟩ := sub x (by simp only [Kd.wf]) rfl (by simp only [Kd.rn])
      have ea : ("&" : Str).length = 1 := by decide +kernel
      refine ss_one (s_ret (e_add (e_str (e_call C_write_kind hr (a_cons (e_ix (e_var 0 rfl (e_int ⟨_, atI_hd1, a_nil ⟨x, rfl, by omega, tx, fun M2 l2 => ⟨szM (by omega), ret _ _ l2 (by simp only [Kd.wk])⟩⟩⟩))))))))
    refine ss_if (t_eq ⟨_, hr⟩ (e_ix (e_var 0 rfl (e_int ⟨_, atI_hd, e_str ⟨trivial, ?_⟩⟩))))
    rw [eqv_str]
    refine ⟨fun h => ?_, fun h5 => ?_⟩
    · obtain ⟨x, rfl⟩ := tag_excl (of_decide_eq_true h)
      obtain ⟨tx, hx⟩ := sub x (by simp only [Kd.wf]) rfl (by simp only [Kd.rn])
      have ea : ("&mut " : Str).length = 5 := by decide +kernel
      refine ss_one (s_ret (e_add (e_str (e_call C_write_kind hr (a_cons (e_ix (e_var 0 rfl (e_int ⟨_, atI_hd1, a_nil ⟨x, rfl, by omega, tx, fun M2 l2 => ⟨szM (by omega), ret _ _ l2 (by simp only [Kd.wk])⟩⟩⟩))))))))
    refine ss_if (t_eq ⟨_, hr⟩ (e_ix (e_var 0 rfl (e_int ⟨_, atI_hd, e_str ⟨trivial, ?_⟩⟩))))
    rw [eqv_str]
    refine ⟨fun h => ?_, fun h6 => ?_⟩
    · obtain ⟨l, rfl⟩ := tag_tup (of_decide_eq_true h)
      have hl := tk.len
      have hp := fun k hk => kr_bnd n k (tk.part k hk)
      have ep : ("(" : Str).length = 1 := by decide +kernel
      have ep2 : (")" : Str).length = 1 := by decide +kernel
      have ep3 : (", " : Str).length = 2 := by decide +kernel
      refine ss_one (s_ret (e_add (e_add (e_str (e_join (e_str ⟨_, rfl, ?_⟩))))))
      refine e_lc 1 scope_write_kind.nd (blkOk_by (N := ["kind", "item"]) (sc := defScope st_write_kind) (by decide +kernel)) (i_tup (e_ix (e_var 0 rfl (e_int ⟨_, atI_hd1, ?_⟩))))
      refine fun p hp0 => ⟨fun i M' => Mle M0 M' ∧ M' p = some (.lst (((l.take i).map Kd.wk).map D.str)), fun M' e l => ⟨l, e⟩, fun _ _ _ _ => trivial, fun i d M' hd ⟨lm, ea⟩ s0 H0 C cl fp => ?_, fun M' ⟨lm, ea⟩ => ?_⟩
      · obtain ⟨x, hx, rfl⟩ := get_map hd
        refine e_call C_write_kind (hr.mono (by omega)) (a_cons (e_var 1 rfl (a_nil ⟨x, rfl, by omega, tk.part x (List.mem_of_getElem? hx), fun M2 l2 => ⟨_, l2.at ea, szlt (by rw [List.length_map, List.length_map, List.length_take]; omega), fun M3 e3 k3 => ⟨(lm.trans l2).other k3 hp0, ?_⟩⟩⟩)))
        rw [e3, List.take_add_one, hx]
        simp
      rw [List.length_map, List.take_length] at ea
      refine ⟨l.map Kd.wk, .inl ⟨p, rfl, ea⟩, ?_, ?_⟩
      · have := sum_le (B := 30 * 7 ^ n) (l := l.map Kd.wk) fun x hx => by
          obtain ⟨k, hk, rfl⟩ := List.mem_map.mp hx
          exact (hp k hk).1
        rw [List.length_map] at this ⊢
        have h8 : l.length * (30 * 7 ^ n) ≤ 6 * (30 * 7 ^ n) := Nat.mul_le_mul_right _ hl.2
        have h9 : l.length * (", " : Str).length ≤ 6 * (", " : Str).length := Nat.mul_le_mul_right _ hl.2
        rw [ep3] at h9 ⊢
        omega
      · have hj := join_len (s := ", ") (B := 30 * 7 ^ n) (l := l.map Kd.wk) fun x hx => by
          obtain ⟨k, hk, rfl⟩ := List.mem_map.mp hx
          exact (hp k hk).1
        rw [List.length_map, ep3] at hj
        have h8 : l.length * (30 * 7 ^ n + 2) ≤ 6 * (30 * 7 ^ n + 2) := Nat.mul_le_mul_right _ hl.2
        refine ⟨szM (by omega), e_str ⟨szM (by rw [str_len_app]; omega), ret _ _ lm (by simp only [Kd.wk, Kd.wks_map])⟩⟩
    · refine ss_one (s_ret (e_ix (e_var 0 rfl (e_int ⟨_, atI_hd, ret _ _ (Mle.refl _) ?_⟩))))
      have h1 := of_decide_eq_false h1
      have h4 := of_decide_eq_false h4
      have h5 := of_decide_eq_false h5
      have h6 := of_decide_eq_false h6
      cases k <;> simp only [Kd.tag] at h1 h2 h3 h4 h5 h6 <;> first | (simp only [Kd.wk, Kd.tag]; done) | exact absurd trivial h1 | exact absurd trivial h2 | exact absurd trivial h3 | exact absurd trivial h4 | exact absurd trivial h5 | exact absurd trivial h6
def spWf : Sp3 := fun ds M Q => ∃ fs : List (Str × Kd), ds = [.tup (fs.map fD)] ∧ fs.length ≤ 7 ∧ (∀ p ∈ fs, Fd p) ∧ ∀ M', Mle M M' → Q (.str (fsS fs)) M'
theorem ok_wflds (F : Fun K "write_fields" "write_fields" st_write_fields f fd) (b : Binds K fd ["fields"] []) (g : mg "write_fields" = some (.ref f))
    (C_write_kind : ∀ n, Callee P w K mg base "write_kind" n ["kind"] (spWk n)) :
    Callee P w K mg base "write_fields" 4 ["fields"] spWf := by
  refine callee F scope_write_fields g b (fun ds M Q ⟨fs, e, _⟩ => by rw [e]; rfl) (fun cdv A outer s H E hr ds M Q ⟨fs, e, hl, hf, q⟩ => ?_)
  subst e
  refine ss_one (s_ret (e_join (e_str ⟨_, rfl, ?_⟩)))
  refine e_lc2 1 2 scope_write_fields.nd (blkOk_by (N := ["fields", "name", "kind"]) (sc := defScope st_write_fields) (by decide +kernel)) (i_tup (e_var 0 rfl ?_))
  refine fun p hp0 => ⟨fun i M' => Mle M M' ∧ M' p = some (.lst (((fs.take i).map fS).map D.str)), fun M' e l => ⟨l, e⟩, fun _ _ _ _ => trivial, fun i d M' hd ⟨lm, ea⟩ => ?_, fun M' ⟨lm, ea⟩ => ?_⟩
  · obtain ⟨x, hx, rfl⟩ := get_map hd
    have hfx := hf x (List.mem_of_getElem? hx)
    have hn := hfx.nm.nm.len
    have hk := (kr_bnd 3 x.2 hfx.k).1
    have e2 : (": " : Str).length = 2 := by decide +kernel
    refine ⟨.str x.1, x.2.d, rfl, fun s0 H0 C cl fp => ?_⟩
    refine e_add (e_add (e_var 1 rfl (e_str ⟨szM (by omega), e_call (C_write_kind 3) (hr.mono (by omega)) (a_cons (e_var 2 rfl (a_nil ⟨x.2, rfl, by omega, hfx.k, fun M2 l2 => ⟨szM (by rw [str_len_app]; omega), _, l2.at ea, szlt (by rw [List.length_map, List.length_map, List.length_take]; omega), fun M3 e3 k3 => ⟨(lm.trans l2).other k3 hp0, ?_⟩⟩⟩)))⟩)))
    rw [e3, List.take_add_one, hx]
    simp [fS]
  rw [List.length_map, List.take_length] at ea
  refine ⟨fs.map fS, .inl ⟨p, rfl, ea⟩, ?_, Wk.here (q _ lm)⟩
  have := sum_le (B := 10313) (l := fs.map fS) fun x hx => by
    obtain ⟨p, hp, rfl⟩ := List.mem_map.mp hx
    exact fS_len (hf p hp)
  rw [List.length_map] at this ⊢
  have ep3 : (", " : Str).length = 2 := by decide +kernel
  rw [ep3]
  omega
end
section
variable {P : Program} {w : World} {K : PySem.W.Frag} {mg : Str → Option Value} {base : Heap} {f : Addr} {fd : FuncData}
def spWpl : Sp3 := fun ds M Q => ∃ (v : Str) (ss : List D), ds = [plcD v ss] ∧ Pk v ss ∧ ∀ M', Mle M M' → Q (.str (plS v ss)) M'
theorem ok_wplace (F : Fun K "write_place" "write_place" st_write_place f fd) (b : Binds K fd ["place"] []) (g : mg "write_place" = some (.ref f)) (m_str : mg "str" = none) :
    Callee P w K mg base "write_place" 1 ["place"] spWpl := by
  refine callee F scope_write_place g b (fun ds M Q ⟨_, _, e, _⟩ => by rw [e]; rfl) (fun cdv A outer s H E hr ds M Q ⟨v, ss, e, hp, q⟩ => ?_)
  subst e
  refine ss_cons (s_asg 1 scope_write_place.nd (e_ix (e_var 0 rfl (e_int ⟨_, atI_hd, ?_⟩))))
  refine ss_cons (s_for PassesOwn.never (i_tup (e_ix (e_var 0 rfl (e_int ⟨_, atI_hd1, ?_⟩)))))
  refine ⟨fun i σ' M' => ∃ d2 : Option D, σ' = [some (plcD v ss), some (.str (plS v (ss.take i))), d2] ∧ M' = M, ⟨none, by show _ = [some (plcD v ss), some (D.str (v ++ "")), none]; rw [s_nil]; rfl, rfl⟩, fun _ _ _ _ _ => trivial, ?_, ?_⟩
  · rintro i d σ' M' hd ⟨d2, rfl, rfl⟩
    have hst := hp.st d (List.mem_of_getElem? hd)
    obtain ⟨hs1, _, _⟩ := st_len hst
    have hpb := (pl_bnd (v := v) (ss := ss.take i) ⟨hp.nm, by rw [List.length_take]; have := hp.l13; omega, fun s hs => hp.st s (List.mem_of_mem_take hs)⟩).1
    have hsn : plS v (ss.take (i + 1)) = plS v (ss.take i) ++ stS d := by
      rw [plS, plS, List.take_add_one, hd, List.map_append, Option.toList_some, List.map_cons, List.map_nil, joinE_snoc]
      simp only [Str.append_assoc]
    have ed : ("." : Str).length = 1 := by decide +kernel
    have eq1 : ("?" : Str).length = 1 := by decide +kernel
    have eq2 : ("^" : Str).length = 1 := by decide +kernel
    refine g_name 2 scope_write_place.nd ?_
    rcases hst with rfl | rfl | ⟨x, hx, rfl⟩ | ⟨k, hk, rfl⟩
    · refine ss_one (s_if (t_w (w_or (t_eq ⟨_, hr⟩ (e_var 2 rfl (e_str ⟨trivial, ?_⟩))))))
      rw [eqv_str]
      refine ⟨fun _ => BQ.t ?_, fun h => absurd (of_decide_eq_false h) (by decide +kernel)⟩
      exact ss_one (s_asg 1 scope_write_place.nd (e_add (e_var 1 rfl (e_var 2 rfl ⟨szM (by omega), _, by rw [hsn]; rfl, rfl⟩))))
    · refine ss_one (s_if (t_w (w_or (t_eq ⟨_, hr⟩ (e_var 2 rfl (e_str ⟨trivial, ?_⟩))))))
      rw [eqv_str]
      refine ⟨fun h => absurd (of_decide_eq_true h) (by decide +kernel), fun _ => w_or1 (t_eq ⟨_, hr⟩ (e_var 2 rfl (e_str ⟨trivial, ?_⟩)))⟩
      rw [eqv_str]
      refine ⟨fun _ => ?_, fun h => absurd (of_decide_eq_false h) (by decide +kernel)⟩
      exact ss_one (s_asg 1 scope_write_place.nd (e_add (e_var 1 rfl (e_var 2 rfl ⟨szM (by omega), _, by rw [hsn]; rfl, rfl⟩))))
    · have hq : ¬ (x = "?" ∨ x = "^") := fun h => by
        rcases h with rfl | rfl
        · exact name_A hx.nm (by decide +kernel)
        · exact name_A hx.nm (by decide +kernel)
      have hxl := hx.nm.len
      refine ss_one (s_if (t_w (w_or (t_eq ⟨_, hr⟩ (e_var 2 rfl (e_str ⟨trivial, ?_⟩))))))
      rw [eqv_str]
      refine ⟨fun h => absurd (.inl (of_decide_eq_true h)) hq, fun _ => w_or1 (t_eq ⟨_, hr⟩ (e_var 2 rfl (e_str ⟨trivial, ?_⟩)))⟩
      rw [eqv_str]
      refine ⟨fun h => absurd (.inr (of_decide_eq_true h)) hq, fun _ => ?_⟩
      refine ss_one (s_asg 1 scope_write_place.nd (e_add (e_add (e_var 1 rfl (e_str ⟨szM (by omega), e_strD m_str (a_cons (e_var 2 rfl (a_nil ⟨szM (by rw [str_len_app]; omega), ?_⟩)))⟩)))))
      refine ⟨some (.str x), ?_, rfl⟩
      rw [hsn, show stS (.str x) = "." ++ x by simp only [stS, if_neg hq]]
      simp only [Str.append_assoc]
      rfl
    · have hl := num_len (i := (k : Int)) (by omega)
      have h20 : ((k : Int).natAbs).log2 < 1920 := by
        by_cases h0 : k = 0
        · subst h0; decide
        · have : (k : Int).natAbs.log2 < 40 := (Nat.log2_lt (by omega)).mpr (by omega)
          omega
      refine ss_one (s_if (t_w (w_or (t_eq ⟨_, hr⟩ (e_var 2 rfl (e_str ⟨trivial, ?_⟩))))))
      rw [eqv_is]
      refine ⟨fun h => absurd h (by decide), fun _ => w_or1 (t_eq ⟨_, hr⟩ (e_var 2 rfl (e_str ⟨trivial, ?_⟩)))⟩
      rw [eqv_is]
      refine ⟨fun h => absurd h (by decide), fun _ => ?_⟩
      refine ss_one (s_asg 1 scope_write_place.nd (e_add (e_add (e_var 1 rfl (e_str ⟨szM (by omega), e_strD m_str (a_cons (e_var 2 rfl (a_nil ⟨h20, szM (by rw [str_len_app]; omega), ?_⟩)))⟩)))))
      refine ⟨some (.int (k : Int)), ?_, rfl⟩
      rw [hsn, show stS (.int (k : Int)) = "." ++ strD (.int (k : Int)) from rfl]
      simp only [Str.append_assoc]
      rfl
  · rintro σ' M' ⟨d2, rfl, rfl⟩
    rw [List.take_length]
    exact ss_one (s_ret (e_var 1 rfl (Wk.here (q _ (Mle.refl _)))))
def spWe (n : Nat) : Sp3 := fun ds M Q => ∃ e : Ex, ds = [e.d] ∧ e.nn ≤ 1000 ∧ EOk n e ∧ ∀ M', Mle M M' → Q (.str e.we) M'
def spWes (n : Nat) : Sp3 := fun ds M Q => ∃ l : List Ex, ds = [.tup (l.map Ex.d)] ∧ Ex.nns l ≤ 1000 ∧ l.length ≤ 6 ∧ (∀ e ∈ l, EOk n e) ∧ ∀ M', Mle M M' → Q (.str (parS (l.map Ex.we))) M'
theorem pk_wes {n k : Nat} (F : Fun K "write_expressions" "write_expressions" st_write_expressions f fd) (b : Binds K fd ["expressions"] []) (g : mg "write_expressions" = some (.ref f))
    (C_write_expression : Callee P w K mg base "write_expression" k ["expression"] (spWe n)) :
    Callee P w K mg base "write_expressions" (k + 1) ["expressions"] (spWes n) := by
  refine callee F scope_write_expressions g b (fun ds M Q ⟨_, e, _⟩ => by rw [e]; rfl) (fun cdv A outer s H E hr ds M Q ⟨l, e, hn, hl, he, q⟩ => ?_)
  subst e
  have ep : ("(" : Str).length = 1 := by decide +kernel
  have ep2 : (")" : Str).length = 1 := by decide +kernel
  have ep3 : (", " : Str).length = 2 := by decide +kernel
  refine ss_one (s_ret (e_add (e_add (e_str (e_join (e_str ⟨_, rfl, ?_⟩))))))
  refine e_lc 1 scope_write_expressions.nd (blkOk_by (N := ["expressions", "part"]) (sc := defScope st_write_expressions) (by decide +kernel)) (i_tup (e_var 0 rfl ?_))
  refine fun p hp0 => ⟨fun i M' => Mle M M' ∧ M' p = some (.lst (((l.take i).map Ex.we).map D.str)), fun M' e l => ⟨l, e⟩, fun _ _ _ _ => trivial, fun i d M' hd ⟨lm, ea⟩ s0 H0 C cl fp => ?_, fun M' ⟨lm, ea⟩ => ?_⟩
  · obtain ⟨x, hx, rfl⟩ := get_map hd
    refine e_call C_write_expression (hr.mono (by omega)) (a_cons (e_var 1 rfl (a_nil ⟨x, rfl, by have := nns_mem (List.mem_of_getElem? hx); omega, he x (List.mem_of_getElem? hx), fun M2 l2 => ⟨_, l2.at ea, szlt (by rw [List.length_map, List.length_map, List.length_take]; omega), fun M3 e3 k3 => ⟨(lm.trans l2).other k3 hp0, ?_⟩⟩⟩)))
    rw [e3, List.take_add_one, hx]
    simp
  rw [List.length_map, List.take_length] at ea
  have hb : ∀ x ∈ l.map Ex.we, x.length ≤ 1500000 := fun x hx => by
    obtain ⟨e, h, rfl⟩ := List.mem_map.mp hx
    exact we_b (he e h) (by have := nns_mem h; omega)
  refine ⟨l.map Ex.we, .inl ⟨p, rfl, ea⟩, ?_, ?_⟩
  · have := sum_le hb
    rw [List.length_map] at this ⊢
    rw [ep3]
    omega
  · have hj := join_len (s := ", ") hb
    rw [List.length_map, ep3] at hj
    exact ⟨szM (by omega), e_str ⟨szM (by rw [str_len_app]; omega), Wk.here (q _ lm)⟩⟩
def Lit : Ex → Prop
  | .int _ => True
  | .bool _ => True
  | .unit => True
  | .none _ => True
  | _ => False
def spWl : Sp3 := fun ds M Q => ∃ (n : Nat) (e : Ex), ds = [e.d] ∧ EOk n e ∧ Lit e ∧ ∀ M', Mle M M' → Q (.str e.we) M'
theorem ok_wlit (F : Fun K "write_literal" "write_literal" st_write_literal f fd) (b : Binds K fd ["expression"] []) (g : mg "write_literal" = some (.ref f)) (m_str : mg "str" = none)
    (C_write_kind : ∀ n, Callee P w K mg base "write_kind" n ["kind"] (spWk n)) :
    Callee P w K mg base "write_literal" 4 ["expression"] spWl := by
  refine callee F scope_write_literal g b (fun ds M Q ⟨_, _, e, _⟩ => by rw [e]; rfl) (fun cdv A outer s H E hr ds M Q ⟨n, e, ee, he, hl, q⟩ => ?_)
  subst ee
  rename_i hsp
  clear hsp
  cases he <;> first | exact hl.elim | skip
  · simp only [Ex.d, Ex.we] at q ⊢
    rename_i iv hi
    refine ss_if (t_eq ⟨_, hr⟩ (e_ix (e_var 0 rfl (e_int ⟨_, atI_hd, e_str ⟨trivial, ?_⟩⟩))))
    rw [eqv_str]
    refine ⟨fun _ => ?_, fun h => absurd (of_decide_eq_false h) (by decide +kernel)⟩
    have h20 : iv.natAbs.log2 < 1920 := by
      by_cases h0 : iv.natAbs = 0
      · rw [h0]; decide
      · have : iv.natAbs.log2 < 80 := (Nat.log2_lt h0).mpr (by omega)
        omega
    exact ss_one (s_ret (e_strD m_str (a_cons (e_ix (e_var 0 rfl (e_int ⟨_, atI_hd1, a_nil ⟨h20, Wk.here (q _ (Mle.refl _))⟩⟩))))))
  · simp only [Ex.d, Ex.we] at q ⊢
    rename_i b
    refine ss_if (t_eq ⟨_, hr⟩ (e_ix (e_var 0 rfl (e_int ⟨_, atI_hd, e_str ⟨trivial, ?_⟩⟩))))
    rw [eqv_str]
    refine ⟨fun h => absurd (of_decide_eq_true h) (by decide +kernel), fun _ => ?_⟩
    refine ss_if (t_eq ⟨_, hr⟩ (e_ix (e_var 0 rfl (e_int ⟨_, atI_hd, e_str ⟨trivial, ?_⟩⟩))))
    rw [eqv_str]
    refine ⟨fun _ => ?_, fun h => absurd (of_decide_eq_false h) (by decide +kernel)⟩
    refine ss_one (s_ret (v_if (t_truth (e_ix (e_var 0 rfl (e_int ⟨_, atI_hd1, ?_⟩))))))
    cases b <;> simp only [Bool.false_eq_true, if_false, if_true] at q
    · exact ⟨fun h => absurd h (by decide), fun _ => e_str (Wk.here (q _ (Mle.refl _)))⟩
    · exact ⟨fun _ => e_str (Wk.here (q _ (Mle.refl _))), fun h => absurd h (by decide)⟩
  · simp only [Ex.d, Ex.we] at q ⊢
    refine ss_if (t_eq ⟨_, hr⟩ (e_ix (e_var 0 rfl (e_int ⟨_, atI_hd, e_str ⟨trivial, ?_⟩⟩))))
    rw [eqv_str]
    refine ⟨fun h => absurd (of_decide_eq_true h) (by decide +kernel), fun _ => ?_⟩
    refine ss_if (t_eq ⟨_, hr⟩ (e_ix (e_var 0 rfl (e_int ⟨_, atI_hd, e_str ⟨trivial, ?_⟩⟩))))
    rw [eqv_str]
    refine ⟨fun h => absurd (of_decide_eq_true h) (by decide +kernel), fun _ => ?_⟩
    refine ss_if (t_eq ⟨_, hr⟩ (e_ix (e_var 0 rfl (e_int ⟨_, atI_hd, e_str ⟨trivial, ?_⟩⟩))))
    rw [eqv_str]
    refine ⟨fun h => absurd (of_decide_eq_true h) (by decide +kernel), fun _ => ?_⟩
    exact ss_one (s_ret (e_str (Wk.here (q _ (Mle.refl _)))))
  · simp only [Ex.d, Ex.we] at q ⊢
    rename_i k hk
    have h1 := wk_len2 2 k hk
    have e1 : ("none[" : Str).length = 5 := by decide +kernel
    have e2 : ("]" : Str).length = 1 := by decide +kernel
    refine ss_if (t_eq ⟨_, hr⟩ (e_ix (e_var 0 rfl (e_int ⟨_, atI_hd, e_str ⟨trivial, ?_⟩⟩))))
    rw [eqv_str]
    refine ⟨fun h => absurd (of_decide_eq_true h) (by decide +kernel), fun _ => ?_⟩
    refine ss_if (t_eq ⟨_, hr⟩ (e_ix (e_var 0 rfl (e_int ⟨_, atI_hd, e_str ⟨trivial, ?_⟩⟩))))
    rw [eqv_str]
    refine ⟨fun h => absurd (of_decide_eq_true h) (by decide +kernel), fun _ => ?_⟩
    refine ss_if (t_eq ⟨_, hr⟩ (e_ix (e_var 0 rfl (e_int ⟨_, atI_hd, e_str ⟨trivial, ?_⟩⟩))))
    rw [eqv_str]
    refine ⟨fun _ => ?_, fun h => absurd (of_decide_eq_false h) (by decide +kernel)⟩
    exact ss_one (s_ret (e_add (e_add (e_str (e_call (C_write_kind 3) (hr.mono (by omega)) (a_cons (e_ix (e_var 0 rfl (e_int ⟨_, atI_hd1, a_nil ⟨k, rfl, by omega, hk, fun M2 l2 => ⟨szM (by omega), e_str ⟨szM (by rw [str_len_app]; omega), Wk.here (q _ l2)⟩⟩⟩⟩)))))))))
theorem ok_we (F : Fun K "write_expression" "write_expression" st_write_expression f fd) (b : Binds K fd ["expression"] []) (g : mg "write_expression" = some (.ref f))
    (C_write_place : Callee P w K mg base "write_place" 1 ["place"] spWpl) (C_write_literal : Callee P w K mg base "write_literal" 4 ["expression"] spWl)
    (W : ∀ n k, Callee P w K mg base "write_expression" k ["expression"] (spWe n) → Callee P w K mg base "write_expressions" (k + 1) ["expressions"] (spWes n)) :
    ∀ n, Callee P w K mg base "write_expression" (2 * n + 4) ["expression"] (spWe n)
  | 0 => Callee.none g F.kp b fun ds M Q ⟨_, _, _, h, _⟩ => nomatch h
  | n + 1 => by
    have C_write_expression := ok_we F b g C_write_place C_write_literal W n
    have C_write_expressions := W n _ C_write_expression
    refine callee F scope_write_expression g b (fun ds M Q ⟨_, e, _⟩ => by rw [e]; rfl) (fun cdv A outer s H E hr ds M Q ⟨e, ee, hn5, he, q⟩ => ?_)
    subst ee
    rename_i hsp
    clear hsp
    have wl : ∀ {x : Ex}, EOk n x → x.nn ≤ 1000 → x.we.length ≤ 1500000 := we_b
    cases he
    · simp only [Ex.d]
      rename_i i h
      refine ss_cons (s_asg 1 scope_write_expression.nd (e_ix (e_var 0 rfl (e_int ⟨_, atI_hd, ?_⟩))))
      refine ss_if (t_eq ⟨_, hr⟩ (e_var 1 rfl (e_str ⟨trivial, ?_⟩)))
      rw [eqv_str]
      refine ⟨fun h => absurd (of_decide_eq_true h) (by decide +kernel), fun _ => ?_⟩
      refine ss_if (t_eq ⟨_, hr⟩ (e_var 1 rfl (e_str ⟨trivial, ?_⟩)))
      rw [eqv_str]
      refine ⟨fun h => absurd (of_decide_eq_true h) (by decide +kernel), fun _ => ?_⟩
      refine ss_if (t_eq ⟨_, hr⟩ (e_var 1 rfl (e_str ⟨trivial, ?_⟩)))
      rw [eqv_str]
      refine ⟨fun h => absurd (of_decide_eq_true h) (by decide +kernel), fun _ => ?_⟩
      refine ss_if (t_eq ⟨_, hr⟩ (e_var 1 rfl (e_str ⟨trivial, ?_⟩)))
      rw [eqv_str]
      refine ⟨fun h => absurd (of_decide_eq_true h) (by decide +kernel), fun _ => ?_⟩
      refine ss_if (t_eq ⟨_, hr⟩ (e_var 1 rfl (e_str ⟨trivial, ?_⟩)))
      rw [eqv_str]
      refine ⟨fun h => absurd (of_decide_eq_true h) (by decide +kernel), fun _ => ?_⟩
      refine ss_if (t_eq ⟨_, hr⟩ (e_var 1 rfl (e_str ⟨trivial, ?_⟩)))
      rw [eqv_str]
      refine ⟨fun h => absurd (of_decide_eq_true h) (by decide +kernel), fun _ => ?_⟩
      refine ss_if (t_w (w_or (t_eq ⟨_, hr⟩ (e_var 1 rfl (e_str ⟨trivial, ?_⟩)))))
      rw [eqv_str]
      refine ⟨fun h => absurd (of_decide_eq_true h) (by decide +kernel), fun _ => w_or1 (t_eq ⟨_, hr⟩ (e_var 1 rfl (e_str ⟨trivial, ?_⟩)))⟩
      rw [eqv_str]
      refine ⟨fun h => absurd (of_decide_eq_true h) (by decide +kernel), fun _ => ?_⟩
      refine ss_if (t_in (e_var 1 rfl (e_tup (a_cons (e_str (a_cons (e_str (a_cons (e_str (a_cons (e_str (a_nil ⟨by show 4 ≤ sizeLine; decide, rfl, rfl, ?_⟩))))))))))))
      rw [if_neg Bool.false_ne_true]
      have hin : ∀ x : Str, inD (.str x) [.str "some", .str "box", .str "unbox", .str "not"] = decide (x ∈ unW) := fun x => inD_strs x unW
      rw [hin]
      refine ⟨fun h => absurd (of_decide_eq_true h) (by decide +kernel), fun _ => ?_⟩
      have q' := q
      refine ss_one (s_ret (e_call C_write_literal (hr.mono (by omega)) (a_cons (e_var 0 rfl (a_nil ⟨1, .int i, by simp only [Ex.d], .int h, trivial, fun M2 l2 => Wk.here (q _ l2)⟩)))))
    · simp only [Ex.d]
      rename_i b
      refine ss_cons (s_asg 1 scope_write_expression.nd (e_ix (e_var 0 rfl (e_int ⟨_, atI_hd, ?_⟩))))
      refine ss_if (t_eq ⟨_, hr⟩ (e_var 1 rfl (e_str ⟨trivial, ?_⟩)))
      rw [eqv_str]
      refine ⟨fun h => absurd (of_decide_eq_true h) (by decide +kernel), fun _ => ?_⟩
      refine ss_if (t_eq ⟨_, hr⟩ (e_var 1 rfl (e_str ⟨trivial, ?_⟩)))
      rw [eqv_str]
      refine ⟨fun h => absurd (of_decide_eq_true h) (by decide +kernel), fun _ => ?_⟩
      refine ss_if (t_eq ⟨_, hr⟩ (e_var 1 rfl (e_str ⟨trivial, ?_⟩)))
      rw [eqv_str]
      refine ⟨fun h => absurd (of_decide_eq_true h) (by decide +kernel), fun _ => ?_⟩
      refine ss_if (t_eq ⟨_, hr⟩ (e_var 1 rfl (e_str ⟨trivial, ?_⟩)))
      rw [eqv_str]
      refine ⟨fun h => absurd (of_decide_eq_true h) (by decide +kernel), fun _ => ?_⟩
      refine ss_if (t_eq ⟨_, hr⟩ (e_var 1 rfl (e_str ⟨trivial, ?_⟩)))
      rw [eqv_str]
      refine ⟨fun h => absurd (of_decide_eq_true h) (by decide +kernel), fun _ => ?_⟩
      refine ss_if (t_eq ⟨_, hr⟩ (e_var 1 rfl (e_str ⟨trivial, ?_⟩)))
      rw [eqv_str]
      refine ⟨fun h => absurd (of_decide_eq_true h) (by decide +kernel), fun _ => ?_⟩
      refine ss_if (t_w (w_or (t_eq ⟨_, hr⟩ (e_var 1 rfl (e_str ⟨trivial, ?_⟩)))))
      rw [eqv_str]
      refine ⟨fun h => absurd (of_decide_eq_true h) (by decide +kernel), fun _ => w_or1 (t_eq ⟨_, hr⟩ (e_var 1 rfl (e_str ⟨trivial, ?_⟩)))⟩
      rw [eqv_str]
      refine ⟨fun h => absurd (of_decide_eq_true h) (by decide +kernel), fun _ => ?_⟩
      refine ss_if (t_in (e_var 1 rfl (e_tup (a_cons (e_str (a_cons (e_str (a_cons (e_str (a_cons (e_str (a_nil ⟨by show 4 ≤ sizeLine; decide, rfl, rfl, ?_⟩))))))))))))
      rw [if_neg Bool.false_ne_true]
      have hin : ∀ x : Str, inD (.str x) [.str "some", .str "box", .str "unbox", .str "not"] = decide (x ∈ unW) := fun x => inD_strs x unW
      rw [hin]
      refine ⟨fun h => absurd (of_decide_eq_true h) (by decide +kernel), fun _ => ?_⟩
      have q' := q
      refine ss_one (s_ret (e_call C_write_literal (hr.mono (by omega)) (a_cons (e_var 0 rfl (a_nil ⟨1, .bool b, by simp only [Ex.d], .bool b, trivial, fun M2 l2 => Wk.here (q _ l2)⟩)))))
    · simp only [Ex.d]
      refine ss_cons (s_asg 1 scope_write_expression.nd (e_ix (e_var 0 rfl (e_int ⟨_, atI_hd, ?_⟩))))
      refine ss_if (t_eq ⟨_, hr⟩ (e_var 1 rfl (e_str ⟨trivial, ?_⟩)))
      rw [eqv_str]
      refine ⟨fun h => absurd (of_decide_eq_true h) (by decide +kernel), fun _ => ?_⟩
      refine ss_if (t_eq ⟨_, hr⟩ (e_var 1 rfl (e_str ⟨trivial, ?_⟩)))
      rw [eqv_str]
      refine ⟨fun h => absurd (of_decide_eq_true h) (by decide +kernel), fun _ => ?_⟩
      refine ss_if (t_eq ⟨_, hr⟩ (e_var 1 rfl (e_str ⟨trivial, ?_⟩)))
      rw [eqv_str]
      refine ⟨fun h => absurd (of_decide_eq_true h) (by decide +kernel), fun _ => ?_⟩
      refine ss_if (t_eq ⟨_, hr⟩ (e_var 1 rfl (e_str ⟨trivial, ?_⟩)))
      rw [eqv_str]
      refine ⟨fun h => absurd (of_decide_eq_true h) (by decide +kernel), fun _ => ?_⟩
      refine ss_if (t_eq ⟨_, hr⟩ (e_var 1 rfl (e_str ⟨trivial, ?_⟩)))
      rw [eqv_str]
      refine ⟨fun h => absurd (of_decide_eq_true h) (by decide +kernel), fun _ => ?_⟩
      refine ss_if (t_eq ⟨_, hr⟩ (e_var 1 rfl (e_str ⟨trivial, ?_⟩)))
      rw [eqv_str]
      refine ⟨fun h => absurd (of_decide_eq_true h) (by decide +kernel), fun _ => ?_⟩
      refine ss_if (t_w (w_or (t_eq ⟨_, hr⟩ (e_var 1 rfl (e_str ⟨trivial, ?_⟩)))))
      rw [eqv_str]
      refine ⟨fun h => absurd (of_decide_eq_true h) (by decide +kernel), fun _ => w_or1 (t_eq ⟨_, hr⟩ (e_var 1 rfl (e_str ⟨trivial, ?_⟩)))⟩
      rw [eqv_str]
      refine ⟨fun h => absurd (of_decide_eq_true h) (by decide +kernel), fun _ => ?_⟩
      refine ss_if (t_in (e_var 1 rfl (e_tup (a_cons (e_str (a_cons (e_str (a_cons (e_str (a_cons (e_str (a_nil ⟨by show 4 ≤ sizeLine; decide, rfl, rfl, ?_⟩))))))))))))
      rw [if_neg Bool.false_ne_true]
      have hin : ∀ x : Str, inD (.str x) [.str "some", .str "box", .str "unbox", .str "not"] = decide (x ∈ unW) := fun x => inD_strs x unW
      rw [hin]
      refine ⟨fun h => absurd (of_decide_eq_true h) (by decide +kernel), fun _ => ?_⟩
      have q' := q
      refine ss_one (s_ret (e_call C_write_literal (hr.mono (by omega)) (a_cons (e_var 0 rfl (a_nil ⟨1, .unit, by simp only [Ex.d], .unit, trivial, fun M2 l2 => Wk.here (q _ l2)⟩)))))
    · simp only [Ex.d]
      rename_i k h
      refine ss_cons (s_asg 1 scope_write_expression.nd (e_ix (e_var 0 rfl (e_int ⟨_, atI_hd, ?_⟩))))
      refine ss_if (t_eq ⟨_, hr⟩ (e_var 1 rfl (e_str ⟨trivial, ?_⟩)))
      rw [eqv_str]
      refine ⟨fun h => absurd (of_decide_eq_true h) (by decide +kernel), fun _ => ?_⟩
      refine ss_if (t_eq ⟨_, hr⟩ (e_var 1 rfl (e_str ⟨trivial, ?_⟩)))
      rw [eqv_str]
      refine ⟨fun h => absurd (of_decide_eq_true h) (by decide +kernel), fun _ => ?_⟩
      refine ss_if (t_eq ⟨_, hr⟩ (e_var 1 rfl (e_str ⟨trivial, ?_⟩)))
      rw [eqv_str]
      refine ⟨fun h => absurd (of_decide_eq_true h) (by decide +kernel), fun _ => ?_⟩
      refine ss_if (t_eq ⟨_, hr⟩ (e_var 1 rfl (e_str ⟨trivial, ?_⟩)))
      rw [eqv_str]
      refine ⟨fun h => absurd (of_decide_eq_true h) (by decide +kernel), fun _ => ?_⟩
      refine ss_if (t_eq ⟨_, hr⟩ (e_var 1 rfl (e_str ⟨trivial, ?_⟩)))
      rw [eqv_str]
      refine ⟨fun h => absurd (of_decide_eq_true h) (by decide +kernel), fun _ => ?_⟩
      refine ss_if (t_eq ⟨_, hr⟩ (e_var 1 rfl (e_str ⟨trivial, ?_⟩)))
      rw [eqv_str]
      refine ⟨fun h => absurd (of_decide_eq_true h) (by decide +kernel), fun _ => ?_⟩
      refine ss_if (t_w (w_or (t_eq ⟨_, hr⟩ (e_var 1 rfl (e_str ⟨trivial, ?_⟩)))))
      rw [eqv_str]
      refine ⟨fun h => absurd (of_decide_eq_true h) (by decide +kernel), fun _ => w_or1 (t_eq ⟨_, hr⟩ (e_var 1 rfl (e_str ⟨trivial, ?_⟩)))⟩
      rw [eqv_str]
      refine ⟨fun h => absurd (of_decide_eq_true h) (by decide +kernel), fun _ => ?_⟩
      refine ss_if (t_in (e_var 1 rfl (e_tup (a_cons (e_str (a_cons (e_str (a_cons (e_str (a_cons (e_str (a_nil ⟨by show 4 ≤ sizeLine; decide, rfl, rfl, ?_⟩))))))))))))
      rw [if_neg Bool.false_ne_true]
      have hin : ∀ x : Str, inD (.str x) [.str "some", .str "box", .str "unbox", .str "not"] = decide (x ∈ unW) := fun x => inD_strs x unW
      rw [hin]
      refine ⟨fun h => absurd (of_decide_eq_true h) (by decide +kernel), fun _ => ?_⟩
      have q' := q
      refine ss_one (s_ret (e_call C_write_literal (hr.mono (by omega)) (a_cons (e_var 0 rfl (a_nil ⟨1, .none k, by simp only [Ex.d], .none h, trivial, fun M2 l2 => Wk.here (q _ l2)⟩)))))
    · simp only [Ex.d, Ex.we, Ex.nn] at q hn5 ⊢
      rename_i v ss h
      refine ss_cons (s_asg 1 scope_write_expression.nd (e_ix (e_var 0 rfl (e_int ⟨_, atI_hd, ?_⟩))))
      refine ss_if (t_eq ⟨_, hr⟩ (e_var 1 rfl (e_str ⟨trivial, ?_⟩)))
      rw [eqv_str]
      refine ⟨fun _ => ?_, fun h => absurd (of_decide_eq_false h) (by decide +kernel)⟩
      exact ss_one (s_ret (e_call C_write_place (hr.mono (by omega)) (a_cons (e_ix (e_var 0 rfl (e_int ⟨_, atI_hd1, a_nil ⟨v, ss, rfl, h, fun M2 l2 => Wk.here (q _ l2)⟩⟩))))))
    · simp only [Ex.d, Ex.we, Ex.nn] at q hn5 ⊢
      rename_i v ss h
      have hb := (pl_bnd h).1
      have e1 : (" is some" : Str).length = 8 := by decide +kernel
      refine ss_cons (s_asg 1 scope_write_expression.nd (e_ix (e_var 0 rfl (e_int ⟨_, atI_hd, ?_⟩))))
      refine ss_if (t_eq ⟨_, hr⟩ (e_var 1 rfl (e_str ⟨trivial, ?_⟩)))
      rw [eqv_str]
      refine ⟨fun h => absurd (of_decide_eq_true h) (by decide +kernel), fun _ => ?_⟩
      refine ss_if (t_eq ⟨_, hr⟩ (e_var 1 rfl (e_str ⟨trivial, ?_⟩)))
      rw [eqv_str]
      refine ⟨fun _ => ?_, fun h => absurd (of_decide_eq_false h) (by decide +kernel)⟩
      exact ss_one (s_ret (e_add (e_call C_write_place (hr.mono (by omega)) (a_cons (e_ix (e_var 0 rfl (e_int ⟨_, atI_hd1, a_nil ⟨v, ss, rfl, h, fun M2 l2 => e_str ⟨szM (by omega), Wk.here (q _ l2)⟩⟩⟩)))))))
    · simp only [Ex.d, Ex.we, Ex.nn] at q hn5 ⊢
      rename_i m v ss h
      have hb := (pl_bnd h).1
      have e1 : ("&mut " : Str).length = 5 := by decide +kernel
      have e2 : ("&" : Str).length = 1 := by decide +kernel
      refine ss_cons (s_asg 1 scope_write_expression.nd (e_ix (e_var 0 rfl (e_int ⟨_, atI_hd, ?_⟩))))
      refine ss_if (t_eq ⟨_, hr⟩ (e_var 1 rfl (e_str ⟨trivial, ?_⟩)))
      rw [eqv_str]
      refine ⟨fun h => absurd (of_decide_eq_true h) (by decide +kernel), fun _ => ?_⟩
      refine ss_if (t_eq ⟨_, hr⟩ (e_var 1 rfl (e_str ⟨trivial, ?_⟩)))
      rw [eqv_str]
      refine ⟨fun h => absurd (of_decide_eq_true h) (by decide +kernel), fun _ => ?_⟩
      refine ss_if (t_eq ⟨_, hr⟩ (e_var 1 rfl (e_str ⟨trivial, ?_⟩)))
      rw [eqv_str]
      refine ⟨fun _ => ?_, fun h => absurd (of_decide_eq_false h) (by decide +kernel)⟩
      refine ss_cons (s_asg 2 scope_write_expression.nd (v_if (t_eq ⟨_, hr⟩ (e_ix (e_var 0 rfl (e_int ⟨_, atI_hd1, e_str ⟨trivial, ?_⟩⟩))))))
      rw [eqv_str]
      cases m
      · refine ⟨fun h => absurd (of_decide_eq_true h) (by decide +kernel), fun _ => e_str ?_⟩
        exact ss_one (s_ret (e_add (e_var 2 rfl (e_call C_write_place (hr.mono (by omega)) (a_cons (e_ix (e_var 0 rfl (e_int ⟨_, rfl, a_nil ⟨v, ss, rfl, h, fun M2 l2 => ⟨szM (by omega), Wk.here (q _ l2)⟩⟩⟩))))))))
      · refine ⟨fun _ => e_str ?_, fun h => absurd (of_decide_eq_false h) (by decide +kernel)⟩
        exact ss_one (s_ret (e_add (e_var 2 rfl (e_call C_write_place (hr.mono (by omega)) (a_cons (e_ix (e_var 0 rfl (e_int ⟨_, rfl, a_nil ⟨v, ss, rfl, h, fun M2 l2 => ⟨szM (by omega), Wk.here (q _ l2)⟩⟩⟩))))))))
    · simp only [Ex.d, Ex.we, Ex.nn] at q hn5 ⊢
      rename_i wd x hw hx
      have hb := wl hx (by omega)
      have e1 : (" " : Str).length = 1 := by decide +kernel
      have hwl : ∀ w ∈ unW, w.length ≤ 10 := by decide +kernel
      have hw1 := hwl _ hw
      simp only [unW, List.mem_cons, List.not_mem_nil, or_false] at hw
      rcases hw with rfl | rfl | rfl | rfl
      · refine ss_cons (s_asg 1 scope_write_expression.nd (e_ix (e_var 0 rfl (e_int ⟨_, atI_hd, ?_⟩))))
        refine ss_if (t_eq ⟨_, hr⟩ (e_var 1 rfl (e_str ⟨trivial, ?_⟩)))
        rw [eqv_str]
        refine ⟨fun h => absurd (of_decide_eq_true h) (by decide +kernel), fun _ => ?_⟩
        refine ss_if (t_eq ⟨_, hr⟩ (e_var 1 rfl (e_str ⟨trivial, ?_⟩)))
        rw [eqv_str]
        refine ⟨fun h => absurd (of_decide_eq_true h) (by decide +kernel), fun _ => ?_⟩
        refine ss_if (t_eq ⟨_, hr⟩ (e_var 1 rfl (e_str ⟨trivial, ?_⟩)))
        rw [eqv_str]
        refine ⟨fun h => absurd (of_decide_eq_true h) (by decide +kernel), fun _ => ?_⟩
        refine ss_if (t_eq ⟨_, hr⟩ (e_var 1 rfl (e_str ⟨trivial, ?_⟩)))
        rw [eqv_str]
        refine ⟨fun h => absurd (of_decide_eq_true h) (by decide +kernel), fun _ => ?_⟩
        refine ss_if (t_eq ⟨_, hr⟩ (e_var 1 rfl (e_str ⟨trivial, ?_⟩)))
        rw [eqv_str]
        refine ⟨fun h => absurd (of_decide_eq_true h) (by decide +kernel), fun _ => ?_⟩
        refine ss_if (t_eq ⟨_, hr⟩ (e_var 1 rfl (e_str ⟨trivial, ?_⟩)))
        rw [eqv_str]
        refine ⟨fun h => absurd (of_decide_eq_true h) (by decide +kernel), fun _ => ?_⟩
        refine ss_if (t_w (w_or (t_eq ⟨_, hr⟩ (e_var 1 rfl (e_str ⟨trivial, ?_⟩)))))
        rw [eqv_str]
        refine ⟨fun h => absurd (of_decide_eq_true h) (by decide +kernel), fun _ => w_or1 (t_eq ⟨_, hr⟩ (e_var 1 rfl (e_str ⟨trivial, ?_⟩)))⟩
        rw [eqv_str]
        refine ⟨fun h => absurd (of_decide_eq_true h) (by decide +kernel), fun _ => ?_⟩
        refine ss_if (t_in (e_var 1 rfl (e_tup (a_cons (e_str (a_cons (e_str (a_cons (e_str (a_cons (e_str (a_nil ⟨by show 4 ≤ sizeLine; decide, rfl, rfl, ?_⟩))))))))))))
        rw [if_neg Bool.false_ne_true]
        have hin : ∀ x : Str, inD (.str x) [.str "some", .str "box", .str "unbox", .str "not"] = decide (x ∈ unW) := fun x => inD_strs x unW
        rw [hin]
        refine ⟨fun _ => ?_, fun h => absurd (of_decide_eq_false h) (by decide +kernel)⟩
        exact ss_one (s_ret (e_add (e_add (e_var 1 rfl (e_str ⟨szM (by rw [e1]; omega), e_call C_write_expression (hr.mono (by omega)) (a_cons (e_ix (e_var 0 rfl (e_int ⟨_, atI_hd1, a_nil ⟨x, rfl, by omega, hx, fun M2 l2 => ⟨szM (by rw [str_len_app, e1]; omega), Wk.here (q _ l2)⟩⟩⟩))))⟩)))))
      · refine ss_cons (s_asg 1 scope_write_expression.nd (e_ix (e_var 0 rfl (e_int ⟨_, atI_hd, ?_⟩))))
        refine ss_if (t_eq ⟨_, hr⟩ (e_var 1 rfl (e_str ⟨trivial, ?_⟩)))
        rw [eqv_str]
        refine ⟨fun h => absurd (of_decide_eq_true h) (by decide +kernel), fun _ => ?_⟩
        refine ss_if (t_eq ⟨_, hr⟩ (e_var 1 rfl (e_str ⟨trivial, ?_⟩)))
        rw [eqv_str]
        refine ⟨fun h => absurd (of_decide_eq_true h) (by decide +kernel), fun _ => ?_⟩
        refine ss_if (t_eq ⟨_, hr⟩ (e_var 1 rfl (e_str ⟨trivial, ?_⟩)))
        rw [eqv_str]
        refine ⟨fun h => absurd (of_decide_eq_true h) (by decide +kernel), fun _ => ?_⟩
        refine ss_if (t_eq ⟨_, hr⟩ (e_var 1 rfl (e_str ⟨trivial, ?_⟩)))
        rw [eqv_str]
        refine ⟨fun h => absurd (of_decide_eq_true h) (by decide +kernel), fun _ => ?_⟩
        refine ss_if (t_eq ⟨_, hr⟩ (e_var 1 rfl (e_str ⟨trivial, ?_⟩)))
        rw [eqv_str]
        refine ⟨fun h => absurd (of_decide_eq_true h) (by decide +kernel), fun _ => ?_⟩
        refine ss_if (t_eq ⟨_, hr⟩ (e_var 1 rfl (e_str ⟨trivial, ?_⟩)))
        rw [eqv_str]
        refine ⟨fun h => absurd (of_decide_eq_true h) (by decide +kernel), fun _ => ?_⟩
        refine ss_if (t_w (w_or (t_eq ⟨_, hr⟩ (e_var 1 rfl (e_str ⟨trivial, ?_⟩)))))
        rw [eqv_str]
        refine ⟨fun h => absurd (of_decide_eq_true h) (by decide +kernel), fun _ => w_or1 (t_eq ⟨_, hr⟩ (e_var 1 rfl (e_str ⟨trivial, ?_⟩)))⟩
        rw [eqv_str]
        refine ⟨fun h => absurd (of_decide_eq_true h) (by decide +kernel), fun _ => ?_⟩
        refine ss_if (t_in (e_var 1 rfl (e_tup (a_cons (e_str (a_cons (e_str (a_cons (e_str (a_cons (e_str (a_nil ⟨by show 4 ≤ sizeLine; decide, rfl, rfl, ?_⟩))))))))))))
        rw [if_neg Bool.false_ne_true]
        have hin : ∀ x : Str, inD (.str x) [.str "some", .str "box", .str "unbox", .str "not"] = decide (x ∈ unW) := fun x => inD_strs x unW
        rw [hin]
        refine ⟨fun _ => ?_, fun h => absurd (of_decide_eq_false h) (by decide +kernel)⟩
        exact ss_one (s_ret (e_add (e_add (e_var 1 rfl (e_str ⟨szM (by rw [e1]; omega), e_call C_write_expression (hr.mono (by omega)) (a_cons (e_ix (e_var 0 rfl (e_int ⟨_, atI_hd1, a_nil ⟨x, rfl, by omega, hx, fun M2 l2 => ⟨szM (by rw [str_len_app, e1]; omega), Wk.here (q _ l2)⟩⟩⟩))))⟩)))))
      · refine ss_cons (s_asg 1 scope_write_expression.nd (e_ix (e_var 0 rfl (e_int ⟨_, atI_hd, ?_⟩))))
        refine ss_if (t_eq ⟨_, hr⟩ (e_var 1 rfl (e_str ⟨trivial, ?_⟩)))
        rw [eqv_str]
        refine ⟨fun h => absurd (of_decide_eq_true h) (by decide +kernel), fun _ => ?_⟩
        refine ss_if (t_eq ⟨_, hr⟩ (e_var 1 rfl (e_str ⟨trivial, ?_⟩)))
        rw [eqv_str]
        refine ⟨fun h => absurd (of_decide_eq_true h) (by decide +kernel), fun _ => ?_⟩
        refine ss_if (t_eq ⟨_, hr⟩ (e_var 1 rfl (e_str ⟨trivial, ?_⟩)))
        rw [eqv_str]
        refine ⟨fun h => absurd (of_decide_eq_true h) (by decide +kernel), fun _ => ?_⟩
        refine ss_if (t_eq ⟨_, hr⟩ (e_var 1 rfl (e_str ⟨trivial, ?_⟩)))
        rw [eqv_str]
        refine ⟨fun h => absurd (of_decide_eq_true h) (by decide +kernel), fun _ => ?_⟩
        refine ss_if (t_eq ⟨_, hr⟩ (e_var 1 rfl (e_str ⟨trivial, ?_⟩)))
        rw [eqv_str]
        refine ⟨fun h => absurd (of_decide_eq_true h) (by decide +kernel), fun _ => ?_⟩
        refine ss_if (t_eq ⟨_, hr⟩ (e_var 1 rfl (e_str ⟨trivial, ?_⟩)))
        rw [eqv_str]
        refine ⟨fun h => absurd (of_decide_eq_true h) (by decide +kernel), fun _ => ?_⟩
        refine ss_if (t_w (w_or (t_eq ⟨_, hr⟩ (e_var 1 rfl (e_str ⟨trivial, ?_⟩)))))
        rw [eqv_str]
        refine ⟨fun h => absurd (of_decide_eq_true h) (by decide +kernel), fun _ => w_or1 (t_eq ⟨_, hr⟩ (e_var 1 rfl (e_str ⟨trivial, ?_⟩)))⟩
        rw [eqv_str]
        refine ⟨fun h => absurd (of_decide_eq_true h) (by decide +kernel), fun _ => ?_⟩
        refine ss_if (t_in (e_var 1 rfl (e_tup (a_cons (e_str (a_cons (e_str (a_cons (e_str (a_cons (e_str (a_nil ⟨by show 4 ≤ sizeLine; decide, rfl, rfl, ?_⟩))))))))))))
        rw [if_neg Bool.false_ne_true]
        have hin : ∀ x : Str, inD (.str x) [.str "some", .str "box", .str "unbox", .str "not"] = decide (x ∈ unW) := fun x => inD_strs x unW
        rw [hin]
        refine ⟨fun _ => ?_, fun h => absurd (of_decide_eq_false h) (by decide +kernel)⟩
        exact ss_one (s_ret (e_add (e_add (e_var 1 rfl (e_str ⟨szM (by rw [e1]; omega), e_call C_write_expression (hr.mono (by omega)) (a_cons (e_ix (e_var 0 rfl (e_int ⟨_, atI_hd1, a_nil ⟨x, rfl, by omega, hx, fun M2 l2 => ⟨szM (by rw [str_len_app, e1]; omega), Wk.here (q _ l2)⟩⟩⟩))))⟩)))))
      · refine ss_cons (s_asg 1 scope_write_expression.nd (e_ix (e_var 0 rfl (e_int ⟨_, atI_hd, ?_⟩))))
        refine ss_if (t_eq ⟨_, hr⟩ (e_var 1 rfl (e_str ⟨trivial, ?_⟩)))
        rw [eqv_str]
        refine ⟨fun h => absurd (of_decide_eq_true h) (by decide +kernel), fun _ => ?_⟩
        refine ss_if (t_eq ⟨_, hr⟩ (e_var 1 rfl (e_str ⟨trivial, ?_⟩)))
        rw [eqv_str]
        refine ⟨fun h => absurd (of_decide_eq_true h) (by decide +kernel), fun _ => ?_⟩
        refine ss_if (t_eq ⟨_, hr⟩ (e_var 1 rfl (e_str ⟨trivial, ?_⟩)))
        rw [eqv_str]
        refine ⟨fun h => absurd (of_decide_eq_true h) (by decide +kernel), fun _ => ?_⟩
        refine ss_if (t_eq ⟨_, hr⟩ (e_var 1 rfl (e_str ⟨trivial, ?_⟩)))
        rw [eqv_str]
        refine ⟨fun h => absurd (of_decide_eq_true h) (by decide +kernel), fun _ => ?_⟩
        refine ss_if (t_eq ⟨_, hr⟩ (e_var 1 rfl (e_str ⟨trivial, ?_⟩)))
        rw [eqv_str]
        refine ⟨fun h => absurd (of_decide_eq_true h) (by decide +kernel), fun _ => ?_⟩
        refine ss_if (t_eq ⟨_, hr⟩ (e_var 1 rfl (e_str ⟨trivial, ?_⟩)))
        rw [eqv_str]
        refine ⟨fun h => absurd (of_decide_eq_true h) (by decide +kernel), fun _ => ?_⟩
        refine ss_if (t_w (w_or (t_eq ⟨_, hr⟩ (e_var 1 rfl (e_str ⟨trivial, ?_⟩)))))
        rw [eqv_str]
        refine ⟨fun h => absurd (of_decide_eq_true h) (by decide +kernel), fun _ => w_or1 (t_eq ⟨_, hr⟩ (e_var 1 rfl (e_str ⟨trivial, ?_⟩)))⟩
        rw [eqv_str]
        refine ⟨fun h => absurd (of_decide_eq_true h) (by decide +kernel), fun _ => ?_⟩
        refine ss_if (t_in (e_var 1 rfl (e_tup (a_cons (e_str (a_cons (e_str (a_cons (e_str (a_cons (e_str (a_nil ⟨by show 4 ≤ sizeLine; decide, rfl, rfl, ?_⟩))))))))))))
        rw [if_neg Bool.false_ne_true]
        have hin : ∀ x : Str, inD (.str x) [.str "some", .str "box", .str "unbox", .str "not"] = decide (x ∈ unW) := fun x => inD_strs x unW
        rw [hin]
        refine ⟨fun _ => ?_, fun h => absurd (of_decide_eq_false h) (by decide +kernel)⟩
        exact ss_one (s_ret (e_add (e_add (e_var 1 rfl (e_str ⟨szM (by rw [e1]; omega), e_call C_write_expression (hr.mono (by omega)) (a_cons (e_ix (e_var 0 rfl (e_int ⟨_, atI_hd1, a_nil ⟨x, rfl, by omega, hx, fun M2 l2 => ⟨szM (by rw [str_len_app, e1]; omega), Wk.here (q _ l2)⟩⟩⟩))))⟩)))))
    · simp only [Ex.d, Ex.we, Ex.nn] at q hn5 ⊢
      rename_i v ss x h hx
      have hb := wl hx (by omega)
      have hp := (pl_bnd h).1
      have e1 : ("swap " : Str).length = 5 := by decide +kernel
      have e2 : (" with " : Str).length = 6 := by decide +kernel
      refine ss_cons (s_asg 1 scope_write_expression.nd (e_ix (e_var 0 rfl (e_int ⟨_, atI_hd, ?_⟩))))
      refine ss_if (t_eq ⟨_, hr⟩ (e_var 1 rfl (e_str ⟨trivial, ?_⟩)))
      rw [eqv_str]
      refine ⟨fun h => absurd (of_decide_eq_true h) (by decide +kernel), fun _ => ?_⟩
      refine ss_if (t_eq ⟨_, hr⟩ (e_var 1 rfl (e_str ⟨trivial, ?_⟩)))
      rw [eqv_str]
      refine ⟨fun h => absurd (of_decide_eq_true h) (by decide +kernel), fun _ => ?_⟩
      refine ss_if (t_eq ⟨_, hr⟩ (e_var 1 rfl (e_str ⟨trivial, ?_⟩)))
      rw [eqv_str]
      refine ⟨fun h => absurd (of_decide_eq_true h) (by decide +kernel), fun _ => ?_⟩
      refine ss_if (t_eq ⟨_, hr⟩ (e_var 1 rfl (e_str ⟨trivial, ?_⟩)))
      rw [eqv_str]
      refine ⟨fun _ => ?_, fun h => absurd (of_decide_eq_false h) (by decide +kernel)⟩
      exact ss_one (s_ret (e_add (e_add (e_add (e_str (e_call C_write_place (hr.mono (by omega)) (a_cons (e_ix (e_var 0 rfl (e_int ⟨_, atI_hd1, a_nil ⟨v, ss, rfl, h, fun M2 l2 => ⟨szM (by omega), e_str ⟨szM (by rw [str_len_app]; omega), e_call C_write_expression (hr.mono (by omega)) (a_cons (e_ix (e_var 0 rfl (e_int ⟨_, rfl, a_nil ⟨x, rfl, by omega, hx, fun M3 l3 => ⟨szM (by rw [str_len_app, str_len_app]; omega), Wk.here (q _ (l2.trans l3))⟩⟩⟩))))⟩⟩⟩⟩))))))))))
    · simp only [Ex.d, Ex.we, Ex.nn] at q hn5 ⊢
      rename_i sg l r hs hl hr2
      have hb := wl hl (by omega)
      have hb2 := wl hr2 (by omega)
      have hwl : ∀ w ∈ opW, w.length ≤ 10 := by decide +kernel
      have hw1 := hwl _ hs
      have e1 : (" " : Str).length = 1 := by decide +kernel
      have e2 : ("(" : Str).length = 1 := by decide +kernel
      have e3 : (")" : Str).length = 1 := by decide +kernel
      refine ss_cons (s_asg 1 scope_write_expression.nd (e_ix (e_var 0 rfl (e_int ⟨_, atI_hd, ?_⟩))))
      refine ss_if (t_eq ⟨_, hr⟩ (e_var 1 rfl (e_str ⟨trivial, ?_⟩)))
      rw [eqv_str]
      refine ⟨fun h => absurd (of_decide_eq_true h) (by decide +kernel), fun _ => ?_⟩
      refine ss_if (t_eq ⟨_, hr⟩ (e_var 1 rfl (e_str ⟨trivial, ?_⟩)))
      rw [eqv_str]
      refine ⟨fun h => absurd (of_decide_eq_true h) (by decide +kernel), fun _ => ?_⟩
      refine ss_if (t_eq ⟨_, hr⟩ (e_var 1 rfl (e_str ⟨trivial, ?_⟩)))
      rw [eqv_str]
      refine ⟨fun h => absurd (of_decide_eq_true h) (by decide +kernel), fun _ => ?_⟩
      refine ss_if (t_eq ⟨_, hr⟩ (e_var 1 rfl (e_str ⟨trivial, ?_⟩)))
      rw [eqv_str]
      refine ⟨fun h => absurd (of_decide_eq_true h) (by decide +kernel), fun _ => ?_⟩
      refine ss_if (t_eq ⟨_, hr⟩ (e_var 1 rfl (e_str ⟨trivial, ?_⟩)))
      rw [eqv_str]
      refine ⟨fun _ => ?_, fun h => absurd (of_decide_eq_false h) (by decide +kernel)⟩
      refine ss_cons (s_asg 3 scope_write_expression.nd (e_call C_write_expression (hr.mono (by omega)) (a_cons (e_ix (e_var 0 rfl (e_int ⟨_, rfl, a_nil ⟨l, rfl, by omega, hl, fun M2 l2 => ?_⟩⟩))))))
      refine ss_one (s_ret (e_add (e_add (e_add (e_add (e_add (e_add (e_str (e_var 3 rfl ⟨szM (by omega), e_str ⟨szM (by rw [str_len_app]; omega), e_ix (e_var 0 rfl (e_int ⟨_, atI_hd1, szM (by rw [str_len_app, str_len_app]; omega), e_str ⟨szM (by rw [str_len_app, str_len_app, str_len_app]; omega), e_call C_write_expression (hr.mono (by omega)) (a_cons (e_ix (e_var 0 rfl (e_int ⟨_, rfl, a_nil ⟨r, rfl, by omega, hr2, fun M3 l3 => ⟨szM (by rw [str_len_app, str_len_app, str_len_app, str_len_app]; omega), e_str ⟨szM (by rw [str_len_app, str_len_app, str_len_app, str_len_app, str_len_app]; omega), Wk.here (q _ (l2.trans l3))⟩⟩⟩⟩))))⟩⟩))⟩⟩)))))))))
    · simp only [Ex.d, Ex.we, Ex.ds_map, Ex.wes_map, Ex.nn] at q hn5 ⊢
      rename_i l hne h6 hl
      refine ss_cons (s_asg 1 scope_write_expression.nd (e_ix (e_var 0 rfl (e_int ⟨_, atI_hd, ?_⟩))))
      refine ss_if (t_eq ⟨_, hr⟩ (e_var 1 rfl (e_str ⟨trivial, ?_⟩)))
      rw [eqv_str]
      refine ⟨fun h => absurd (of_decide_eq_true h) (by decide +kernel), fun _ => ?_⟩
      refine ss_if (t_eq ⟨_, hr⟩ (e_var 1 rfl (e_str ⟨trivial, ?_⟩)))
      rw [eqv_str]
      refine ⟨fun h => absurd (of_decide_eq_true h) (by decide +kernel), fun _ => ?_⟩
      refine ss_if (t_eq ⟨_, hr⟩ (e_var 1 rfl (e_str ⟨trivial, ?_⟩)))
      rw [eqv_str]
      refine ⟨fun h => absurd (of_decide_eq_true h) (by decide +kernel), fun _ => ?_⟩
      refine ss_if (t_eq ⟨_, hr⟩ (e_var 1 rfl (e_str ⟨trivial, ?_⟩)))
      rw [eqv_str]
      refine ⟨fun h => absurd (of_decide_eq_true h) (by decide +kernel), fun _ => ?_⟩
      refine ss_if (t_eq ⟨_, hr⟩ (e_var 1 rfl (e_str ⟨trivial, ?_⟩)))
      rw [eqv_str]
      refine ⟨fun h => absurd (of_decide_eq_true h) (by decide +kernel), fun _ => ?_⟩
      refine ss_if (t_eq ⟨_, hr⟩ (e_var 1 rfl (e_str ⟨trivial, ?_⟩)))
      rw [eqv_str]
      refine ⟨fun _ => ?_, fun h => absurd (of_decide_eq_false h) (by decide +kernel)⟩
      exact ss_one (s_ret (e_call C_write_expressions (hr.mono (by omega)) (a_cons (e_ix (e_var 0 rfl (e_int ⟨_, atI_hd1, a_nil ⟨l, rfl, by omega, h6, hl, fun M2 l2 => Wk.here (q _ l2)⟩⟩))))))
    · simp only [Ex.d, Ex.we, Ex.ds_map, Ex.wes_map, Ex.nn] at q hn5 ⊢
      rename_i x l hx h6 hl
      have hxl := hx.sok.1
      have hpb := (par_b h6 hl (by omega)).1
      refine ss_cons (s_asg 1 scope_write_expression.nd (e_ix (e_var 0 rfl (e_int ⟨_, atI_hd, ?_⟩))))
      refine ss_if (t_eq ⟨_, hr⟩ (e_var 1 rfl (e_str ⟨trivial, ?_⟩)))
      rw [eqv_str]
      refine ⟨fun h => absurd (of_decide_eq_true h) (by decide +kernel), fun _ => ?_⟩
      refine ss_if (t_eq ⟨_, hr⟩ (e_var 1 rfl (e_str ⟨trivial, ?_⟩)))
      rw [eqv_str]
      refine ⟨fun h => absurd (of_decide_eq_true h) (by decide +kernel), fun _ => ?_⟩
      refine ss_if (t_eq ⟨_, hr⟩ (e_var 1 rfl (e_str ⟨trivial, ?_⟩)))
      rw [eqv_str]
      refine ⟨fun h => absurd (of_decide_eq_true h) (by decide +kernel), fun _ => ?_⟩
      refine ss_if (t_eq ⟨_, hr⟩ (e_var 1 rfl (e_str ⟨trivial, ?_⟩)))
      rw [eqv_str]
      refine ⟨fun h => absurd (of_decide_eq_true h) (by decide +kernel), fun _ => ?_⟩
      refine ss_if (t_eq ⟨_, hr⟩ (e_var 1 rfl (e_str ⟨trivial, ?_⟩)))
      rw [eqv_str]
      refine ⟨fun h => absurd (of_decide_eq_true h) (by decide +kernel), fun _ => ?_⟩
      refine ss_if (t_eq ⟨_, hr⟩ (e_var 1 rfl (e_str ⟨trivial, ?_⟩)))
      rw [eqv_str]
      refine ⟨fun h => absurd (of_decide_eq_true h) (by decide +kernel), fun _ => ?_⟩
      refine ss_if (t_w (w_or (t_eq ⟨_, hr⟩ (e_var 1 rfl (e_str ⟨trivial, ?_⟩)))))
      rw [eqv_str]
      refine ⟨fun h => absurd (of_decide_eq_true h) (by decide +kernel), fun _ => w_or1 (t_eq ⟨_, hr⟩ (e_var 1 rfl (e_str ⟨trivial, ?_⟩)))⟩
      rw [eqv_str]
      refine ⟨fun _ => ?_, fun h => absurd (of_decide_eq_false h) (by decide +kernel)⟩
      exact ss_one (s_ret (e_add (e_ix (e_var 0 rfl (e_int ⟨_, atI_hd1, e_call C_write_expressions (hr.mono (by omega)) (a_cons (e_ix (e_var 0 rfl (e_int ⟨_, rfl, a_nil ⟨l, rfl, by omega, h6, hl, fun M2 l2 => ⟨szM (by omega), Wk.here (q _ l2)⟩⟩⟩))))⟩)))))
    · simp only [Ex.d, Ex.we, Ex.ds_map, Ex.wes_map, Ex.nn] at q hn5 ⊢
      rename_i x l hx h6 hl
      have hxl := hx.nm.len
      have hpb := (par_b h6 hl (by omega)).1
      refine ss_cons (s_asg 1 scope_write_expression.nd (e_ix (e_var 0 rfl (e_int ⟨_, atI_hd, ?_⟩))))
      refine ss_if (t_eq ⟨_, hr⟩ (e_var 1 rfl (e_str ⟨trivial, ?_⟩)))
      rw [eqv_str]
      refine ⟨fun h => absurd (of_decide_eq_true h) (by decide +kernel), fun _ => ?_⟩
      refine ss_if (t_eq ⟨_, hr⟩ (e_var 1 rfl (e_str ⟨trivial, ?_⟩)))
      rw [eqv_str]
      refine ⟨fun h => absurd (of_decide_eq_true h) (by decide +kernel), fun _ => ?_⟩
      refine ss_if (t_eq ⟨_, hr⟩ (e_var 1 rfl (e_str ⟨trivial, ?_⟩)))
      rw [eqv_str]
      refine ⟨fun h => absurd (of_decide_eq_true h) (by decide +kernel), fun _ => ?_⟩
      refine ss_if (t_eq ⟨_, hr⟩ (e_var 1 rfl (e_str ⟨trivial, ?_⟩)))
      rw [eqv_str]
      refine ⟨fun h => absurd (of_decide_eq_true h) (by decide +kernel), fun _ => ?_⟩
      refine ss_if (t_eq ⟨_, hr⟩ (e_var 1 rfl (e_str ⟨trivial, ?_⟩)))
      rw [eqv_str]
      refine ⟨fun h => absurd (of_decide_eq_true h) (by decide +kernel), fun _ => ?_⟩
      refine ss_if (t_eq ⟨_, hr⟩ (e_var 1 rfl (e_str ⟨trivial, ?_⟩)))
      rw [eqv_str]
      refine ⟨fun h => absurd (of_decide_eq_true h) (by decide +kernel), fun _ => ?_⟩
      refine ss_if (t_w (w_or (t_eq ⟨_, hr⟩ (e_var 1 rfl (e_str ⟨trivial, ?_⟩)))))
      rw [eqv_str]
      refine ⟨fun _ => BQ.t ?_, fun h => absurd (of_decide_eq_false h) (by decide +kernel)⟩
      exact ss_one (s_ret (e_add (e_ix (e_var 0 rfl (e_int ⟨_, atI_hd1, e_call C_write_expressions (hr.mono (by omega)) (a_cons (e_ix (e_var 0 rfl (e_int ⟨_, rfl, a_nil ⟨l, rfl, by omega, h6, hl, fun M2 l2 => ⟨szM (by omega), Wk.here (q _ l2)⟩⟩⟩))))⟩)))))
end
end My
set_option maxHeartbeats 4000000
namespace My
open PySem L2 DL
section
variable {P : Program} {w : World} {K : PySem.W.Frag} {mg : Str → Option Value} {base : Heap} {f : Addr} {fd : FuncData}
theorem szltM {n : Nat} (h : n ≤ 16000000) : n < sizeLine := by rw [sizeLine_eq]; omega
def spWst (n : Nat) : Sp3 := fun ds M Q => ∃ (s : St) (d : Nat), ds = [s.d, .int (d : Int)] ∧ SOk n s ∧ d + n ≤ 40 ∧ s.nn ≤ 1000 ∧ ∀ p M', M p = none → Mle M M' → M' p = some (.lst ((s.ls d).map D.str)) → Q (.ref p) M'
def spWbl (n : Nat) : Sp3 := fun ds M Q => ∃ (l : List St) (d : Nat), ds = [.tup (l.map St.d), .int (d : Int)] ∧ (∀ s ∈ l, SOk n s) ∧ d + n ≤ 40 ∧ St.nns l ≤ 1000 ∧ ∀ p M', M p = none → Mle M M' → M' p = some (.lst ((St.lss d l).map D.str)) → Q (.ref p) M'
theorem pk_wbl {n k : Nat} (F : Fun K "write_block" "write_block" st_write_block f fd) (b : Binds K fd ["block", "depth"] []) (g : mg "write_block" = some (.ref f))
    (C_write_statement : Callee P w K mg base "write_statement" k ["statement", "depth"] (spWst n)) :
    Callee P w K mg base "write_block" (k + 1) ["block", "depth"] (spWbl n) := by
  refine callee F scope_write_block g b (fun ds M Q ⟨_, _, e, _⟩ => by rw [e]; rfl) (fun cdv A outer s H E hr ds M Q ⟨l, dp, e, hl, hd40, hn, q⟩ => ?_)
  subst e
  have hb := lss_bnd hd40 l hl
  refine ss_cons (s_asg 2 scope_write_block.nd (e_lst (a_nil ⟨by show 0 ≤ sizeLine; decide, fun p M1 f1 e1 l1 => ?_⟩)))
  refine ss_cons (s_for PassesOwn.never (i_tup (e_var 0 rfl ?_)))
  refine ⟨fun i σ' M' => ∃ d3 : Option D, σ' = [some (.tup (l.map St.d)), some (.int (dp : Int)), some (.ref p), d3] ∧ M' p = some (.lst ((St.lss dp (l.take i)).map D.str)) ∧ Mle M M', ⟨none, rfl, e1, l1⟩, fun _ _ _ _ _ => trivial, ?_, ?_⟩
  · rintro i d σ' M' hd ⟨d3, rfl, ea, lm⟩
    obtain ⟨x, hx, rfl⟩ := get_map hd
    have hxo := hl x (List.mem_of_getElem? hx)
    have hnx := nns_take hx
    have hb1 := (lss_bnd hd40 (l.take i) fun s hs => hl s (List.mem_of_mem_take hs)).2
    have hb2 := (ls_bnd n dp x hxo hd40).2
    refine g_name 3 scope_write_block.nd ?_
    refine ss_one (s_expr (e_lm PySem.F.slot_list_extend PySem.F.type_list_extend mt_extend rd_ext (e_var 2 rfl ⟨⟨_, ea⟩, a_cons (e_call C_write_statement hr (a_cons (e_var 3 rfl (a_cons (e_var 1 rfl (a_nil ⟨x, dp, rfl, hxo, hd40, by omega, fun p4 M4 f4 l4 e4 => a_nil ⟨_, _, l4.at ea, e4, szM (by rw [List.length_map, List.length_map]; omega), fun M5 e5 k5 => ?_⟩⟩))))))⟩)))
    refine ⟨_, rfl, ?_, (lm.trans l4).other k5 f1⟩
    have e9 : l.take (i + 1) = l.take i ++ [x] := by rw [List.take_add_one, hx]; simp
    rw [e5, e9, lss_snoc, List.map_append]
  · rintro σ' M' ⟨d3, rfl, ea, lm⟩
    rw [List.length_map, List.take_length] at ea
    exact ss_one (s_ret (e_var 2 rfl (Wk.here (q p M' f1 lm ea))))
theorem ok_wst (F : Fun K "write_statement" "write_statement" st_write_statement f fd) (b : Binds K fd ["statement", "depth"] []) (g : mg "write_statement" = some (.ref f))
    (C_write_place : Callee P w K mg base "write_place" 1 ["place"] spWpl)
    (C_write_expression : ∀ n, Callee P w K mg base "write_expression" (2 * n + 4) ["expression"] (spWe n))
    (W : ∀ n k, Callee P w K mg base "write_statement" k ["statement", "depth"] (spWst n) → Callee P w K mg base "write_block" (k + 1) ["block", "depth"] (spWbl n)) :
    ∀ n, Callee P w K mg base "write_statement" (2 * n + 77) ["statement", "depth"] (spWst n)
  | 0 => Callee.none g F.kp b fun ds M Q ⟨_, _, _, h, _⟩ => nomatch h
  | n + 1 => by
    have C_write_block := W n _ (ok_wst F b g C_write_place C_write_expression W n)
    refine callee F scope_write_statement g b (fun ds M Q ⟨_, _, e, _⟩ => by rw [e]; rfl) (fun cdv A outer s H E hr ds M Q ⟨s, d, ee, hs, hd40, hn, q⟩ => ?_)
    subst ee
    rename_i hsp
    clear hsp
    have hm := mg4_len d
    have e1 : (" " : Str).length = 1 := by decide +kernel
    have e2 : (";" : Str).length = 1 := by decide +kernel
    have e3 : ("let " : Str).length = 4 := by decide +kernel
    have e4 : (" = " : Str).length = 3 := by decide +kernel
    have e5 : ("if " : Str).length = 3 := by decide +kernel
    have e6 : (" {" : Str).length = 2 := by decide +kernel
    have e7 : ("while " : Str).length = 6 := by decide +kernel
    have e8 : ("} else {" : Str).length = 8 := by decide +kernel
    have e9 : ("}" : Str).length = 1 := by decide +kernel
    have ed : (d : Int) + 1 = ((d + 1 : Nat) : Int) := by omega
    cases hs with
    | act hw he =>
      rename_i wd e
      have h1 := we_b he (by have := hn; simp only [St.nn] at this; omega)
      have hwl : ∀ w ∈ acW, w.length ≤ 10 := by decide +kernel
      have h3 := hwl _ hw
      simp only [St.nn] at hn
      simp only [St.d, St.ls] at q ⊢
      refine ss_cons (s_asg 2 scope_write_statement.nd (e_mulS (e_str (e_var 1 rfl ⟨"    ", d, rfl, rfl, by decide +kernel, by omega, ?_⟩))))
      refine ss_cons (s_asg 3 scope_write_statement.nd (e_ix (e_var 0 rfl (e_int ⟨_, atI_hd, ?_⟩))))
      have no : ∀ x : Str, x ∉ acW → (decide (wd = x)) = false := fun x hx => decide_eq_false fun h => hx (by rw [← h]; exact hw)
      refine ss_if (t_eq ⟨_, hr⟩ (e_var 3 rfl (e_str ⟨trivial, ?_⟩)))
      rw [eqv_str, no _ (by decide +kernel)]
      refine ⟨fun h => absurd h (by decide), fun _ => ?_⟩
      refine ss_if (t_eq ⟨_, hr⟩ (e_var 3 rfl (e_str ⟨trivial, ?_⟩)))
      rw [eqv_str, no _ (by decide +kernel)]
      refine ⟨fun h => absurd h (by decide), fun _ => ?_⟩
      refine ss_if (t_eq ⟨_, hr⟩ (e_var 3 rfl (e_str ⟨trivial, ?_⟩)))
      rw [eqv_str, no _ (by decide +kernel)]
      refine ⟨fun h => absurd h (by decide), fun _ => ?_⟩
      refine ss_if (t_eq ⟨_, hr⟩ (e_var 3 rfl (e_str ⟨trivial, ?_⟩)))
      rw [eqv_str, no _ (by decide +kernel)]
      refine ⟨fun h => absurd h (by decide), fun _ => ?_⟩
      refine ss_one (s_ret (e_lst (a_cons (e_add (e_add (e_add (e_add (e_var 2 rfl (e_var 3 rfl ⟨szM (by show (mg4 d).length + _ ≤ _; omega), e_str ⟨szM (by show (mg4 d ++ _).length + _ ≤ _; rw [str_len_app]; omega), e_call (C_write_expression 36) (hr.mono (by omega)) (a_cons (e_ix (e_var 0 rfl (e_int ⟨_, atI_hd1, a_nil ⟨e, rfl, by omega, he, fun M2 l2 => ⟨szM (by show (mg4 d ++ _ ++ _).length + _ ≤ _; rw [str_len_app, str_len_app]; omega), e_str ⟨szM (by show (mg4 d ++ _ ++ _ ++ _).length + _ ≤ _; rw [str_len_app, str_len_app, str_len_app]; omega), a_nil ⟨by show 1 ≤ sizeLine; decide, fun p M3 f3 e3 l3 => Wk.here (q p M3 (l2.fresh f3) (l2.trans l3) e3)⟩⟩⟩⟩⟩))))⟩⟩)))))))))
    | lt hx he =>
      rename_i x e
      have h1 := we_b he (by have := hn; simp only [St.nn] at this; omega)
      have h3 := hx.nm.len
      simp only [St.nn] at hn
      simp only [St.d, St.ls, St.ds_map] at q ⊢
      refine ss_cons (s_asg 2 scope_write_statement.nd (e_mulS (e_str (e_var 1 rfl ⟨"    ", d, rfl, rfl, by decide +kernel, by omega, ?_⟩))))
      refine ss_cons (s_asg 3 scope_write_statement.nd (e_ix (e_var 0 rfl (e_int ⟨_, atI_hd, ?_⟩))))
      refine ss_if (t_eq ⟨_, hr⟩ (e_var 3 rfl (e_str ⟨trivial, ?_⟩)))
      rw [eqv_str]
      refine ⟨fun h => absurd (of_decide_eq_true h) (by decide +kernel), fun _ => ?_⟩
      refine ss_if (t_eq ⟨_, hr⟩ (e_var 3 rfl (e_str ⟨trivial, ?_⟩)))
      rw [eqv_str]
      refine ⟨fun h => absurd (of_decide_eq_true h) (by decide +kernel), fun _ => ?_⟩
      refine ss_if (t_eq ⟨_, hr⟩ (e_var 3 rfl (e_str ⟨trivial, ?_⟩)))
      rw [eqv_str]
      refine ⟨fun _ => ?_, fun h => absurd (of_decide_eq_false h) (by decide +kernel)⟩
      refine ss_one (s_ret (e_lst (a_cons (e_add (e_add (e_add (e_add (e_add (e_var 2 rfl (e_str ⟨szM (by show (mg4 d).length + _ ≤ _; omega), e_ix (e_var 0 rfl (e_int ⟨_, atI_hd1, szM (by show (mg4 d ++ _).length + _ ≤ _; rw [str_len_app]; omega), e_str ⟨szM (by show (mg4 d ++ _ ++ _).length + _ ≤ _; rw [str_len_app, str_len_app]; omega), e_call (C_write_expression 36) (hr.mono (by omega)) (a_cons (e_ix (e_var 0 rfl (e_int ⟨_, rfl, a_nil ⟨e, rfl, by omega, he, fun M2 l2 => ⟨szM (by show (mg4 d ++ _ ++ _ ++ _).length + _ ≤ _; rw [str_len_app, str_len_app, str_len_app]; omega), e_str ⟨szM (by show (mg4 d ++ _ ++ _ ++ _ ++ _).length + _ ≤ _; rw [str_len_app, str_len_app, str_len_app, str_len_app]; omega), a_nil ⟨by show 1 ≤ sizeLine; decide, fun p M3 f3 e3 l3 => Wk.here (q p M3 (l2.fresh f3) (l2.trans l3) e3)⟩⟩⟩⟩⟩))))⟩⟩))⟩))))))))))
    | sto hp he =>
      rename_i v ss e
      have h1 := we_b he (by have := hn; simp only [St.nn] at this; omega)
      have h3 := (pl_bnd hp).1
      simp only [St.nn] at hn
      simp only [St.d, St.ls, St.ds_map] at q ⊢
      refine ss_cons (s_asg 2 scope_write_statement.nd (e_mulS (e_str (e_var 1 rfl ⟨"    ", d, rfl, rfl, by decide +kernel, by omega, ?_⟩))))
      refine ss_cons (s_asg 3 scope_write_statement.nd (e_ix (e_var 0 rfl (e_int ⟨_, atI_hd, ?_⟩))))
      refine ss_if (t_eq ⟨_, hr⟩ (e_var 3 rfl (e_str ⟨trivial, ?_⟩)))
      rw [eqv_str]
      refine ⟨fun h => absurd (of_decide_eq_true h) (by decide +kernel), fun _ => ?_⟩
      refine ss_if (t_eq ⟨_, hr⟩ (e_var 3 rfl (e_str ⟨trivial, ?_⟩)))
      rw [eqv_str]
      refine ⟨fun h => absurd (of_decide_eq_true h) (by decide +kernel), fun _ => ?_⟩
      refine ss_if (t_eq ⟨_, hr⟩ (e_var 3 rfl (e_str ⟨trivial, ?_⟩)))
      rw [eqv_str]
      refine ⟨fun h => absurd (of_decide_eq_true h) (by decide +kernel), fun _ => ?_⟩
      refine ss_if (t_eq ⟨_, hr⟩ (e_var 3 rfl (e_str ⟨trivial, ?_⟩)))
      rw [eqv_str]
      refine ⟨fun _ => ?_, fun h => absurd (of_decide_eq_false h) (by decide +kernel)⟩
      refine ss_one (s_ret (e_lst (a_cons (e_add (e_add (e_add (e_add (e_var 2 rfl (e_call C_write_place (hr.mono (by omega)) (a_cons (e_ix (e_var 0 rfl (e_int ⟨_, atI_hd1, a_nil ⟨v, ss, rfl, hp, fun M1 l1 => ⟨szM (by show (mg4 d).length + _ ≤ _; omega), e_str ⟨szM (by show (mg4 d ++ _).length + _ ≤ _; rw [str_len_app]; omega), e_call (C_write_expression 36) (hr.mono (by omega)) (a_cons (e_ix (e_var 0 rfl (e_int ⟨_, rfl, a_nil ⟨e, rfl, by omega, he, fun M2 l2 => ⟨szM (by show (mg4 d ++ _ ++ _).length + _ ≤ _; rw [str_len_app, str_len_app]; omega), e_str ⟨szM (by show (mg4 d ++ _ ++ _ ++ _).length + _ ≤ _; rw [str_len_app, str_len_app, str_len_app]; omega), a_nil ⟨by show 1 ≤ sizeLine; decide, fun p M3 f3 e3 l3 => Wk.here (q p M3 ((l1.trans l2).fresh f3) ((l1.trans l2).trans l3) e3)⟩⟩⟩⟩⟩))))⟩⟩⟩⟩)))))))))))))
    | iff he _ _ hb hc =>
      rename_i e b c _ _
      have h1 := we_b he (by have := hn; simp only [St.nn] at this; omega)
      simp only [St.nn] at hn
      simp only [St.d, St.ls, St.ds_map] at q ⊢
      refine ss_cons (s_asg 2 scope_write_statement.nd (e_mulS (e_str (e_var 1 rfl ⟨"    ", d, rfl, rfl, by decide +kernel, by omega, ?_⟩))))
      refine ss_cons (s_asg 3 scope_write_statement.nd (e_ix (e_var 0 rfl (e_int ⟨_, atI_hd, ?_⟩))))
      refine ss_if (t_eq ⟨_, hr⟩ (e_var 3 rfl (e_str ⟨trivial, ?_⟩)))
      rw [eqv_str]
      refine ⟨fun _ => ?_, fun h => absurd (of_decide_eq_false h) (by decide +kernel)⟩
      refine ss_cons (s_asg 4 scope_write_statement.nd (e_lst (a_cons (e_add (e_add (e_add (e_var 2 rfl (e_str ⟨szM (by show (mg4 d).length + _ ≤ _; omega), e_call (C_write_expression 36) (hr.mono (by omega)) (a_cons (e_ix (e_var 0 rfl (e_int ⟨_, atI_hd1, a_nil ⟨e, rfl, by omega, he, fun M2 l2 => ⟨szM (by show (mg4 d ++ _).length + _ ≤ _; rw [str_len_app]; omega), e_str ⟨szM (by show (mg4 d ++ _ ++ _).length + _ ≤ _; rw [str_len_app, str_len_app]; omega), a_nil ⟨by show 1 ≤ sizeLine; decide, fun p M3 f3 e3 l3 => ?_⟩⟩⟩⟩⟩))))⟩))))))))
      have hl1 := (lss_bnd (show d + 1 + n ≤ 40 by omega) b hb).2
      refine ss_cons (s_expr (e_lm PySem.F.slot_list_extend PySem.F.type_list_extend mt_extend rd_ext (e_var 4 rfl ⟨⟨_, e3⟩, a_cons (e_call C_write_block hr (a_cons (e_ix (e_var 0 rfl (e_int ⟨_, rfl, a_cons (e_add (e_var 1 rfl (e_int (a_nil ⟨b, d + 1, by show [D.tup _, D.int ((d : Int) + 1)] = _; rw [ed], hb, by omega, by omega, fun p10 M10 f10 l10 e10 => a_nil ⟨_, _, l10.at e3, e10, szM (by simp only [List.length_map, List.length_append, List.length_cons, List.length_nil]; omega), fun M11 e11 k11 => ?_⟩⟩))))⟩)))))⟩)))
      refine ss_cons (s_expr (e_lm PySem.F.slot_list_append PySem.F.type_list_append mt_append rd_app (e_var 4 rfl ⟨⟨_, e11⟩, a_cons (e_add (e_var 2 rfl (e_str ⟨szM (by show (mg4 d).length + _ ≤ _; omega), a_nil ⟨_, e11, szltM (by simp only [List.length_map, List.length_append, List.length_cons, List.length_nil]; omega), fun M12 e12 k12 => ?_⟩⟩)))⟩)))
      have hl2 := (lss_bnd (show d + 1 + n ≤ 40 by omega) c hc).2
      refine ss_cons (s_expr (e_lm PySem.F.slot_list_extend PySem.F.type_list_extend mt_extend rd_ext (e_var 4 rfl ⟨⟨_, e12⟩, a_cons (e_call C_write_block hr (a_cons (e_ix (e_var 0 rfl (e_int ⟨_, rfl, a_cons (e_add (e_var 1 rfl (e_int (a_nil ⟨c, d + 1, by show [D.tup _, D.int ((d : Int) + 1)] = _; rw [ed], hc, by omega, by omega, fun p20 M20 f20 l20 e20 => a_nil ⟨_, _, l20.at e12, e20, szM (by simp only [List.length_map, List.length_append, List.length_cons, List.length_nil]; omega), fun M21 e21 k21 => ?_⟩⟩))))⟩)))))⟩)))
      refine ss_cons (s_expr (e_lm PySem.F.slot_list_append PySem.F.type_list_append mt_append rd_app (e_var 4 rfl ⟨⟨_, e21⟩, a_cons (e_add (e_var 2 rfl (e_str ⟨szM (by show (mg4 d).length + _ ≤ _; omega), a_nil ⟨_, e21, szltM (by simp only [List.length_map, List.length_append, List.length_cons, List.length_nil]; omega), fun M22 e22 k22 => ?_⟩⟩)))⟩)))
      refine ss_one (s_ret (e_var 4 rfl (Wk.here (q p M22 (l2.fresh f3) ?_ ?_))))
      · exact (((((l2.trans l3).trans l10).other k11 (l2.fresh f3)).other k12 (l2.fresh f3) |>.trans l20).other k21 (l2.fresh f3)).other k22 (l2.fresh f3)
      · rw [e22]
        simp [mg4]
    | whl he _ hb =>
      rename_i e b _
      have h1 := we_b he (by have := hn; simp only [St.nn] at this; omega)
      simp only [St.nn] at hn
      simp only [St.d, St.ls, St.ds_map] at q ⊢
      refine ss_cons (s_asg 2 scope_write_statement.nd (e_mulS (e_str (e_var 1 rfl ⟨"    ", d, rfl, rfl, by decide +kernel, by omega, ?_⟩))))
      refine ss_cons (s_asg 3 scope_write_statement.nd (e_ix (e_var 0 rfl (e_int ⟨_, atI_hd, ?_⟩))))
      refine ss_if (t_eq ⟨_, hr⟩ (e_var 3 rfl (e_str ⟨trivial, ?_⟩)))
      rw [eqv_str]
      refine ⟨fun h => absurd (of_decide_eq_true h) (by decide +kernel), fun _ => ?_⟩
      refine ss_if (t_eq ⟨_, hr⟩ (e_var 3 rfl (e_str ⟨trivial, ?_⟩)))
      rw [eqv_str]
      refine ⟨fun _ => ?_, fun h => absurd (of_decide_eq_false h) (by decide +kernel)⟩
      refine ss_cons (s_asg 4 scope_write_statement.nd (e_lst (a_cons (e_add (e_add (e_add (e_var 2 rfl (e_str ⟨szM (by show (mg4 d).length + _ ≤ _; omega), e_call (C_write_expression 36) (hr.mono (by omega)) (a_cons (e_ix (e_var 0 rfl (e_int ⟨_, atI_hd1, a_nil ⟨e, rfl, by omega, he, fun M2 l2 => ⟨szM (by show (mg4 d ++ _).length + _ ≤ _; rw [str_len_app]; omega), e_str ⟨szM (by show (mg4 d ++ _ ++ _).length + _ ≤ _; rw [str_len_app, str_len_app]; omega), a_nil ⟨by show 1 ≤ sizeLine; decide, fun p M3 f3 e3 l3 => ?_⟩⟩⟩⟩⟩))))⟩))))))))
      have hl1 := (lss_bnd (show d + 1 + n ≤ 40 by omega) b hb).2
      refine ss_cons (s_expr (e_lm PySem.F.slot_list_extend PySem.F.type_list_extend mt_extend rd_ext (e_var 4 rfl ⟨⟨_, e3⟩, a_cons (e_call C_write_block hr (a_cons (e_ix (e_var 0 rfl (e_int ⟨_, rfl, a_cons (e_add (e_var 1 rfl (e_int (a_nil ⟨b, d + 1, by show [D.tup _, D.int ((d : Int) + 1)] = _; rw [ed], hb, by omega, by omega, fun p10 M10 f10 l10 e10 => a_nil ⟨_, _, l10.at e3, e10, szM (by simp only [List.length_map, List.length_append, List.length_cons, List.length_nil]; omega), fun M11 e11 k11 => ?_⟩⟩))))⟩)))))⟩)))
      refine ss_cons (s_expr (e_lm PySem.F.slot_list_append PySem.F.type_list_append mt_append rd_app (e_var 4 rfl ⟨⟨_, e11⟩, a_cons (e_add (e_var 2 rfl (e_str ⟨szM (by show (mg4 d).length + _ ≤ _; omega), a_nil ⟨_, e11, szltM (by simp only [List.length_map, List.length_append, List.length_cons, List.length_nil]; omega), fun M12 e12 k12 => ?_⟩⟩)))⟩)))
      refine ss_one (s_ret (e_var 4 rfl (Wk.here (q p M12 (l2.fresh f3) ?_ ?_))))
      · exact (((l2.trans l3).trans l10).other k11 (l2.fresh f3)).other k12 (l2.fresh f3)
      · rw [e12]
        simp [mg4]
end
end My
set_option maxHeartbeats 4000000
namespace My
open PySem L2 DL
theorem rcS_len {r : Str × List (Str × Kd)} (h : Rc r) : (rcS r).length ≤ 73000 := by
  have h1 := fsS_len h.fl
  have h2 := h.nm.sok.1
  have h7 := h.l7
  have h8 : r.2.length * 10315 ≤ 7 * 10315 := Nat.mul_le_mul_right _ h7
  have e1 : ("record " : Str).length = 7 := by decide +kernel
  have e2 : (" { " : Str).length = 3 := by decide +kernel
  have e3 : (" }" : Str).length = 2 := by decide +kernel
  rw [rcS, str_len_app, str_len_app, str_len_app, str_len_app, e1, e2, e3]
  omega
theorem src_len {x : Fu} (h : FuOk x) : (Str.join ", " x.src).length ≤ 46 := by
  have h1 := join_len (s := ", ") (B := 20) (l := x.src) fun s hs => (h.src s hs).nm.len
  have e1 : (", " : Str).length = 2 := by decide +kernel
  rw [e1] at h1
  have := h.l2
  omega
theorem fuH_len {x : Fu} (h : FuOk x) : (fuH x).length ≤ 41500 := by
  have h1 := fsS_len h.ps
  have h2 := h.nm.nm.len
  have h3 := h.l3
  have h4 := (kr_bnd 3 x.res h.res).1
  have e1 : ("fn " : Str).length = 3 := by decide +kernel
  have e2 : ("(" : Str).length = 1 := by decide +kernel
  have e3 : (") -> " : Str).length = 5 := by decide +kernel
  rw [fuH, str_len_app, str_len_app, str_len_app, str_len_app, str_len_app, e1, e2, e3]
  omega
theorem fuS_len {x : Fu} (h : FuOk x) : (fuS x).length ≤ 41600 := by
  have h1 := fuH_len h
  have h2 := src_len h
  have e1 : (" from " : Str).length = 6 := by decide +kernel
  unfold fuS
  split
  · omega
  · rw [str_len_app, str_len_app, e1]
    omega
def fuL (y : Fu × List St) : List Str := (fuS y.1 ++ " {") :: (St.lss 1 y.2 ++ [("}" : Str)])
def prL (rs : Rw) (us : List (Fu × List St)) : List Str := rs.map rcS ++ (us.map fuL).flatten
def prS (rs : Rw) (us : List (Fu × List St)) : Str := Str.join "" ((prL rs us).map nl)
def fsD (y : Fu × List St) : D := y.1.d (y.2.map St.d)
def progD (rs : Rw) (us : List (Fu × List St)) : D := .tup [.tup (rs.map rowD), .tup (us.map fsD)]
structure FsOk (y : Fu × List St) : Prop where
  ok : FuOk y.1
  st : ∀ s ∈ y.2, SOk 15 s
  nn : St.nns y.2 ≤ 700
  ln : y.2.length ≤ 1000
structure PrOk (rs : Rw) (us : List (Fu × List St)) : Prop where
  r2 : rs.length ≤ 2
  u2 : us.length ≤ 2
  rc : ∀ r ∈ rs, Rc r
  fs : ∀ y ∈ us, FsOk y
theorem fuL_len {y : Fu × List St} (h : FsOk y) : (fuL y).length ≤ 2102 := by
  have := (lss_bnd (show 1 + 15 ≤ 40 by omega) y.2 h.st).2
  have := h.nn
  simp only [fuL, List.length_cons, List.length_append, List.length_nil]
  omega
theorem fuL_sum {y : Fu × List St} (h : FsOk y) : lsum (fuL y) ≤ 2200000 := by
  have e1 : (" {" : Str).length = 2 := by decide +kernel
  have e2 : ("}" : Str).length = 1 := by decide +kernel
  have h1 := fuS_len h.ok
  have h2 := (lss_bnd (show 1 + 15 ≤ 40 by omega) y.2 h.st).1
  have h3 := h.nn
  have e0 : lsum [] = 0 := rfl
  simp only [fuL, lsum_cons, lsum_app, e0, str_len_app, e1, e2]
  omega
theorem lsum_flat {α : Type} {f : α → List Str} {B : Nat} : ∀ {l : List α}, (∀ x ∈ l, lsum (f x) ≤ B) → lsum ((l.map f).flatten) ≤ l.length * B
  | [], _ => by simp [lsum]
  | x :: r, h => by
    have h1 := h x List.mem_cons_self
    have h2 := lsum_flat (f := f) (l := r) fun z hz => h z (List.mem_cons_of_mem _ hz)
    rw [List.map_cons, List.flatten_cons, lsum_app, List.length_cons, Nat.add_mul, Nat.one_mul]
    omega
theorem mem_lsum {t : Str} : ∀ {l : List Str}, t ∈ l → t.length ≤ lsum l
  | a :: r, h => by
    rw [lsum_cons]
    rcases List.mem_cons.mp h with rfl | h
    · omega
    · have := mem_lsum h
      omega
theorem prL_len {rs : Rw} {us : List (Fu × List St)} (h : PrOk rs us) : (prL rs us).length ≤ 4206 := by
  have := flat_len (f := fuL) (n := 2102) (l := us) fun x hx => fuL_len (h.fs x hx)
  have h1 := h.r2
  have h2 := h.u2
  have h3 : us.length * 2102 ≤ 2 * 2102 := Nat.mul_le_mul_right _ h2
  rw [prL, List.length_append, List.length_map]
  omega
theorem rc_sum : ∀ {rs : Rw}, (∀ r ∈ rs, Rc r) → lsum (rs.map rcS) ≤ rs.length * 73000
  | [], _ => by simp [lsum]
  | r :: t, h => by
    have h1 := rcS_len (h r List.mem_cons_self)
    have h2 := rc_sum (rs := t) fun z hz => h z (List.mem_cons_of_mem _ hz)
    rw [List.map_cons, lsum_cons, List.length_cons, Nat.add_mul, Nat.one_mul]
    omega
theorem prL_sum {rs : Rw} {us : List (Fu × List St)} (h : PrOk rs us) : lsum (prL rs us) ≤ 5000000 := by
  have h1 := rc_sum h.rc
  have h2 := lsum_flat (f := fuL) (B := 2200000) (l := us) fun x hx => fuL_sum (h.fs x hx)
  have h3 : us.length * 2200000 ≤ 2 * 2200000 := Nat.mul_le_mul_right _ h.u2
  have h4 : rs.length * 73000 ≤ 2 * 73000 := Nat.mul_le_mul_right _ h.r2
  rw [prL, lsum_app]
  omega
theorem nl_sum : ∀ l : List Str, ((l.map nl).map (·.length)).sum = lsum l + l.length
  | [] => rfl
  | x :: r => by
    have e0 : ("\n" : Str).length = 1 := by decide +kernel
    have := nl_sum r
    simp only [List.map_cons, List.sum_cons, lsum_cons, List.length_cons] at this ⊢
    rw [this, nl, str_len_app, e0]
    omega
section
variable {P : Program} {w : World} {K : PySem.W.Frag} {mg : Str → Option Value} {base : Heap} {f : Addr} {fd : FuncData}
def spWfu : Sp3 := fun ds M Q => ∃ y : Fu × List St, ds = [fsD y] ∧ FsOk y ∧ ∀ p M', M p = none → Mle M M' → M' p = some (.lst ((fuL y).map D.str)) → Q (.ref p) M'
theorem ok_wfun (F : Fun K "write_function" "write_function" st_write_function f fd) (b : Binds K fd ["function"] []) (g : mg "write_function" = some (.ref f)) (m_len : mg "len" = none)
    (C_write_kind : ∀ n, Callee P w K mg base "write_kind" n ["kind"] (spWk n))
    (C_write_fields : Callee P w K mg base "write_fields" 4 ["fields"] spWf)
    (C_write_block : Callee P w K mg base "write_block" 108 ["block", "depth"] (spWbl 15)) :
    Callee P w K mg base "write_function" 109 ["function"] spWfu := by
  refine callee F scope_write_function g b (fun ds M Q ⟨_, e, _⟩ => by rw [e]; rfl) (fun cdv A outer s H E hr ds M Q ⟨⟨x, es⟩, e, hy, q⟩ => ?_)
  subst e
  have hx : FuOk x := hy.ok
  have hes : ∀ s ∈ es, SOk 15 s := hy.st
  have hen : St.nns es ≤ 700 := hy.nn
  have hlb := (lss_bnd (show 1 + 15 ≤ 40 by omega) es hes).2
  rw [show fsD (x, es) = x.d (es.map St.d) from rfl]
  have hl := hx.l3
  have h1 := fsS_len hx.ps
  have h2 := hx.nm.nm.len
  have h4 := (kr_bnd 3 x.res hx.res).1
  have h5 := fuH_len hx
  have h6 := fuS_len hx
  have h7 := src_len hx
  have e1 : ("fn " : Str).length = 3 := by decide +kernel
  have e2 : ("(" : Str).length = 1 := by decide +kernel
  have e3 : (") -> " : Str).length = 5 := by decide +kernel
  have e4 : (" from " : Str).length = 6 := by decide +kernel
  have e5 : (" {" : Str).length = 2 := by decide +kernel
  refine ss_cons (s_asgG (e_var 0 rfl (g_tup rfl (gs_cons (g_name 1 scope_write_function.nd (gs_cons (g_name 2 scope_write_function.nd (gs_cons (g_name 3 scope_write_function.nd (gs_cons (g_name 4 scope_write_function.nd (gs_cons (g_name 5 scope_write_function.nd (gs_nil ?_))))))))))))))
  refine ss_cons (s_asg 6 scope_write_function.nd (e_add (e_add (e_add (e_add (e_add (e_str (e_var 1 rfl ⟨szM (by omega), e_str ⟨szM (by rw [str_len_app]; omega), e_call C_write_fields (hr.mono (by omega)) (a_cons (e_var 2 rfl (a_nil ⟨x.ps, rfl, by omega, hx.ps, fun M1 l1 => ⟨szM (by rw [str_len_app, str_len_app]; omega), e_str ⟨szM (by rw [str_len_app, str_len_app, str_len_app]; omega), e_call (C_write_kind 3) (hr.mono (by omega)) (a_cons (e_var 3 rfl (a_nil ⟨x.res, rfl, by omega, hx.res, fun M2 l2 => ⟨szM (by rw [str_len_app, str_len_app, str_len_app, str_len_app]; omega), ?_⟩⟩)))⟩⟩⟩)))⟩⟩))))))))
  have L2 := l1.trans l2
  refine ss_cut (fun σ' M' => σ' = [some (x.d (es.map St.d)), some (.str x.nm), some (.tup (x.ps.map fD)), some x.res.d, some (.tup (x.src.map D.str)), some (.tup (es.map St.d)), some (.str (fuS x)), none] ∧ M' = M2) (s_if (t_gt (e_len m_len (a_cons (e_var 4 rfl (a_nil (e_int ?_))))))) ?_
  · rw [List.length_map]
    refine ⟨fun hc => ?_, fun hc => ss_nil ⟨?_, rfl⟩⟩
    · have hc := of_decide_eq_true hc
      have hs : x.src ≠ [] := fun e => by rw [e] at hc; simp at hc
      refine ss_one (s_asg 6 scope_write_function.nd (e_add (e_add (e_var 6 rfl (e_str ⟨szM (by show (fuH x).length + _ ≤ _; omega), e_join (e_str ⟨_, rfl, e_var 4 rfl ⟨x.src, .inr (.inl rfl), ?_, szM (by show (fuH x ++ _).length + _ ≤ _; rw [str_len_app]; omega), ?_, rfl⟩⟩)⟩)))))
      · have h8 := sum_le (B := 20) (l := x.src) fun s hs => (hx.src s hs).nm.len
        have h9 := hx.l2
        have e6 : (", " : Str).length = 2 := by decide +kernel
        rw [e6]
        omega
      · rw [fuS, if_neg hs]
        rfl
    · have hc := of_decide_eq_false hc
      have hs : x.src = [] := by
        cases h : x.src with
        | nil => rfl
        | cons a r => rw [h] at hc; simp at hc
      rw [fuS, if_pos hs]
      rfl
  rintro σ' M' ⟨rfl, rfl⟩
  refine ss_cons (s_asg 7 scope_write_function.nd (e_lst (a_cons (e_add (e_var 6 rfl (e_str ⟨szM (by omega), a_nil ⟨by show 1 ≤ sizeLine; decide, fun p M3 f3 e6 l3 => ?_⟩⟩))))))
  refine ss_cons (s_expr (e_lm PySem.F.slot_list_extend PySem.F.type_list_extend mt_extend rd_ext (e_var 7 rfl ⟨⟨_, e6⟩, a_cons (e_call C_write_block (hr.mono (by omega)) (a_cons (e_var 5 rfl (a_cons (e_int (a_nil ⟨es, 1, rfl, hes, by omega, by omega, fun p4 M4 f4 l4 e7 => a_nil ⟨_, _, l4.at e6, e7, szM (by simp only [List.length_map, List.length_cons, List.length_nil]; omega), fun M5 e8 k5 => ?_⟩⟩))))))⟩)))
  refine ss_cons (s_expr (e_lm PySem.F.slot_list_append PySem.F.type_list_append mt_append rd_app (e_var 7 rfl ⟨⟨_, e8⟩, a_cons (e_str (a_nil ⟨_, e8, szlt (by simp only [List.length_append, List.length_map, List.length_cons, List.length_nil]; omega), fun M6 e9 k6 => ?_⟩))⟩)))
  refine ss_one (s_ret (e_var 7 rfl (Wk.here (q p M6 (L2.fresh f3) ?_ (by rw [e9]; simp [fuL])))))
  exact ((L2.trans (l3.trans l4)).other k5 (L2.fresh f3)).other k6 (L2.fresh f3)
def spWp : Sp3 := fun ds M Q => ∃ (rs : Rw) (us : List (Fu × List St)), ds = [progD rs us] ∧ PrOk rs us ∧ ∀ M', Mle M M' → Q (.str (prS rs us)) M'
theorem ok_wprog (F : Fun K "write_program" "write_program" st_write_program f fd) (b : Binds K fd ["program"] []) (g : mg "write_program" = some (.ref f))
    (C_write_fields : Callee P w K mg base "write_fields" 4 ["fields"] spWf)
    (C_write_function : Callee P w K mg base "write_function" 109 ["function"] spWfu) :
    Callee P w K mg base "write_program" 110 ["program"] spWp := by
  refine callee F scope_write_program g b (fun ds M Q ⟨_, _, e, _⟩ => by rw [e]; rfl) (fun cdv A outer s H E hr ds M Q ⟨rs, us, e, hpr, q⟩ => ?_)
  subst e
  have hr3 := hpr.r2
  have hu3 := hpr.u2
  have hrs := hpr.rc
  have hus := hpr.fs
  refine ss_cons (s_asgG (e_var 0 rfl (g_tup rfl (gs_cons (g_name 1 scope_write_program.nd (gs_cons (g_name 2 scope_write_program.nd (gs_nil ?_))))))))
  refine ss_cons (s_asg 3 scope_write_program.nd (e_lst (a_nil ⟨by show 0 ≤ sizeLine; decide, fun p M1 f1 e1 l1 => ?_⟩)))
  refine ss_cons (s_for PassesOwn.never (i_tup (e_var 1 rfl ?_)))
  refine ⟨fun i σ' M' => ∃ d4 d5 : Option D, σ' = [some (progD rs us), some (.tup (rs.map rowD)), some (.tup (us.map fsD)), some (.ref p), d4, d5, none, none] ∧ M' p = some (.lst (((rs.take i).map rcS).map D.str)) ∧ Mle M M', ⟨none, none, rfl, e1, l1⟩, fun _ _ _ _ _ => trivial, ?_, ?_⟩
  · rintro i d σ' M' hd ⟨d4, d5, rfl, ea, lm⟩
    obtain ⟨r, hri, rfl⟩ := get_map hd
    have hrc := hrs r (List.mem_of_getElem? hri)
    have h1 := fsS_len hrc.fl
    have h2 := hrc.nm.sok.1
    have h7 := hrc.l7
    have h8 : r.2.length * 10315 ≤ 7 * 10315 := Nat.mul_le_mul_right _ h7
    have e2 : ("record " : Str).length = 7 := by decide +kernel
    have e3 : (" { " : Str).length = 3 := by decide +kernel
    have e4 : (" }" : Str).length = 2 := by decide +kernel
    refine g_tup rfl (gs_cons (g_name 4 scope_write_program.nd (gs_cons (g_name 5 scope_write_program.nd (gs_nil ?_)))))
    refine ss_one (s_expr (e_lm PySem.F.slot_list_append PySem.F.type_list_append mt_append rd_app (e_var 3 rfl ⟨⟨_, ea⟩, a_cons (e_add (e_add (e_add (e_add (e_str (e_var 4 rfl ⟨szM (by omega), e_str ⟨szM (by rw [str_len_app]; omega), e_call C_write_fields (hr.mono (by omega)) (a_cons (e_var 5 rfl (a_nil ⟨r.2, rfl, h7, hrc.fl, fun M2 l2 => ⟨szM (by rw [str_len_app, str_len_app]; omega), e_str ⟨szM (by rw [str_len_app, str_len_app, str_len_app]; omega), a_nil ⟨_, l2.at ea, szlt (by rw [List.length_map, List.length_map, List.length_take]; omega), fun M3 e5 k3 => ?_⟩⟩⟩⟩)))⟩⟩))))))⟩)))
    refine ⟨_, _, rfl, ?_, (lm.trans l2).other k3 f1⟩
    rw [e5, List.take_add_one, hri]
    simp [rcS]
  rintro σ' M' ⟨d4, d5, rfl, ea, lm⟩
  rw [List.length_map, List.take_length] at ea
  refine ss_cons (s_for PassesOwn.never (i_tup (e_var 2 rfl ?_)))
  refine ⟨fun i σ' M' => ∃ d6 : Option D, σ' = [some (progD rs us), some (.tup (rs.map rowD)), some (.tup (us.map fsD)), some (.ref p), d4, d5, d6, none] ∧ M' p = some (.lst ((rs.map rcS ++ ((us.take i).map fuL).flatten).map D.str)) ∧ Mle M M', ⟨none, rfl, by rw [ea]; simp, lm⟩, fun _ _ _ _ _ => trivial, ?_, ?_⟩
  · rintro i d σ' M' hd ⟨d6, rfl, ea, lm⟩
    obtain ⟨x, hxi, rfl⟩ := get_map hd
    have hxo := hus x (List.mem_of_getElem? hxi)
    have hfl := flat_len (f := fuL) (n := 2102) (l := us.take i) fun x hx => fuL_len (hus x (List.mem_of_mem_take hx))
    rw [List.length_take] at hfl
    refine g_name 6 scope_write_program.nd ?_
    refine ss_one (s_expr (e_lm PySem.F.slot_list_extend PySem.F.type_list_extend mt_extend rd_ext (e_var 3 rfl ⟨⟨_, ea⟩, a_cons (e_call C_write_function (hr.mono (by omega)) (a_cons (e_var 6 rfl (a_nil ⟨x, rfl, hxo, fun p4 M4 f4 l4 e7 => a_nil ⟨_, _, l4.at ea, e7, szM (by rw [List.length_map, List.length_append, List.length_map, List.length_map]; have := fuL_len hxo; omega), fun M5 e8 k5 => ?_⟩⟩))))⟩)))
    refine ⟨_, rfl, ?_, (lm.trans l4).other k5 f1⟩
    rw [e8, flat_snoc hxi, ← List.append_assoc, List.map_append (l₂ := fuL x)]
  rintro σ' M' ⟨d6, rfl, ea, lm⟩
  rw [List.length_map, List.take_length] at ea
  have ea : M' p = some (.lst ((prL rs us).map D.str)) := ea
  have hpl := prL_len hpr
  have hps := prL_sum hpr
  have hpm : ∀ t ∈ prL rs us, t.length ≤ 5000000 := fun t ht => by have := mem_lsum ht; omega
  have e2 : ("\n" : Str).length = 1 := by decide +kernel
  refine ss_one (s_ret (e_join (e_str ⟨_, rfl, ?_⟩)))
  refine e_lc 7 scope_write_program.nd (blkOk_by (N := ["program", "records", "functions", "lines", "name", "fields", "function", "line"]) (sc := defScope st_write_program) (by decide +kernel)) (i_list (e_var 3 rfl ⟨_, ea, ?_⟩))
  refine fun p' hp' => ⟨fun i M2 => Mle M' M2 ∧ M2 p' = some (.lst ((((prL rs us).take i).map nl).map D.str)), fun M' e l => ⟨l, e⟩, fun _ _ _ h => h.1.at ea, fun i d M2 hd ⟨lm2, ea2⟩ s0 H0 C cl fp => ?_, fun M2 ⟨lm2, ea2⟩ => ?_⟩
  · obtain ⟨x, hx, rfl⟩ := get_map hd
    have hxl := hpm x (List.mem_of_getElem? hx)
    refine e_add (e_var 7 rfl (e_str ⟨szM (by omega), _, ea2, szlt (by rw [List.length_map, List.length_map, List.length_take]; omega), fun M3 e3 k3 => ⟨lm2.other k3 hp', ?_⟩⟩))
    rw [e3, List.take_add_one, hx]
    simp [nl]
  rw [List.length_map, List.take_length] at ea2
  refine ⟨(prL rs us).map nl, .inl ⟨p', rfl, ea2⟩, ?_, Wk.here (q _ (lm.trans lm2))⟩
  have e0 : ("" : Str).length = 0 := rfl
  rw [nl_sum, e0]
  omega
end
end My
set_option maxHeartbeats 4000000
namespace My
open PySem L2 DL
/-! ### a written text is its tokens with gaps -/
def WvT (b T : Str) (ts : List Str) : Prop := ∃ gs, Gaps b gs ts ∧ weave gs ts = T
theorem WvT.nil {b T : Str} (h : blankS T) : WvT b T [] := ⟨[T], .nil h, by simp only [weave]⟩
theorem WvT.step {b g t T : Str} {ts : List Str} (hg : blankS g) (ha : g = "" → apart b t) (h : WvT t T ts) : WvT b (g ++ (t ++ T)) (t :: ts) := by
  obtain ⟨gs, G, e⟩ := h
  exact ⟨g :: gs, .cons hg ha G, by simp only [weave]; rw [e]⟩
theorem blank_nil : blankS "" := fun c h => nomatch h
theorem blank_app {a b : Str} (h1 : blankS a) (h2 : blankS b) : blankS (a ++ b) := fun c hc => by
  rw [ls_app] at hc
  exact (List.mem_append.mp hc).elim (h1 c) (h2 c)
theorem blank4 : blankS "    " := by
  have k : (Ls "    ").all (fun c => decide (c = 32 ∨ c = 10)) = true := by decide +kernel
  exact fun c hc => of_decide_eq_true (List.all_eq_true.mp k c hc)
theorem blank_fold (x : Str) (hx : blankS x) : ∀ (m : Nat) (acc : Array Nat), (∀ c ∈ acc.toList, c = 32 ∨ c = 10) → ∀ c ∈ ((List.replicate m x.cps).foldl (· ++ ·) acc).toList, c = 32 ∨ c = 10
  | 0, acc, h => by simpa using h
  | m + 1, acc, h => by
    rw [List.replicate_succ, List.foldl_cons]
    refine blank_fold x hx m _ fun c hc => ?_
    rw [Array.toList_append] at hc
    exact (List.mem_append.mp hc).elim (h c) (hx c)
theorem blank_mul (d : Nat) : blankS (mulS "    " d) := by
  unfold mulS
  split
  · exact fun c h => nomatch h
  · split
    · exact blank4
    · exact blank_fold _ blank4 d #[] fun c h => nomatch h
theorem blank_nl : blankS "\n" := by
  have k : (Ls "\n").all (fun c => decide (c = 32 ∨ c = 10)) = true := by decide +kernel
  exact fun c hc => of_decide_eq_true (List.all_eq_true.mp k c hc)
theorem blank_sp : blankS " " := by
  have k : (Ls " ").all (fun c => decide (c = 32 ∨ c = 10)) = true := by decide +kernel
  exact fun c hc => of_decide_eq_true (List.all_eq_true.mp k c hc)
/-- the last token of a row's token -/
def lp (t : Str) : Str := (splitT t).getLast?.getD t
theorem split_cases (t : Str) : (t = "&mut" ∧ splitT t = [("&" : Str), ("mut" : Str)]) ∨ (∃ x, splitT t = [("-" : Str), x] ∧ t = "-" ++ x) ∨ splitT t = [t] := by
  unfold splitT
  by_cases h1 : t = "&mut"
  · rw [if_pos h1]; exact .inl ⟨h1, rfl⟩
  rw [if_neg h1]
  split
  · rename_i h
    refine .inr (.inl ⟨_, rfl, ?_⟩)
    apply ls_ext
    rw [ls_app, ls_ofL]
    obtain ⟨hl, hh, _⟩ := h
    cases e : Ls t with
    | nil => rw [e] at hh; cases hh
    | cons c r =>
      rw [e] at hh
      have : c = 45 := Option.some.inj hh
      subst this
      rfl
  · exact .inr (.inr rfl)
theorem apart_l {b t : Str} (h : lastIn b wordCh = false) : apart b t := fun ⟨h1, _⟩ => by rw [h] at h1; cases h1
theorem apart_r {b t : Str} (h : firstIn t wordCh = false) : apart b t := fun ⟨_, h1⟩ => by rw [h] at h1; cases h1
/-- a row's token behind a gap -/
theorem tok_wv {b g t T : Str} {ts : List Str} (hg : blankS g) (ha : g = "" → ∀ u us, splitT t = u :: us → apart b u) (h : WvT (lp t) T ts) : WvT b (g ++ (t ++ T)) (splitT t ++ ts) := by
  unfold lp at h
  rcases split_cases t with ⟨rfl, e⟩ | ⟨x, e, et⟩ | e
  · rw [e] at h ⊢
    have h : WvT "mut" T ts := h
    have e2 : ("&mut" : Str) ++ T = "&" ++ ("" ++ ("mut" ++ T)) := by
      rw [nil_s, ← Str.append_assoc, show ("&" : Str) ++ "mut" = "&mut" by decide +kernel]
    rw [e2]
    exact WvT.step hg (fun h => ha h _ _ e) (WvT.step blank_nil (fun _ => apart_l (by decide +kernel)) h)
  · rw [e] at h ⊢
    have h : WvT x T ts := h
    have e2 : t ++ T = "-" ++ ("" ++ (x ++ T)) := by rw [et, nil_s, Str.append_assoc]
    rw [e2]
    exact WvT.step hg (fun h => ha h _ _ e) (WvT.step blank_nil (fun _ => apart_l (by decide +kernel)) h)
  · rw [e] at h ⊢
    exact WvT.step hg (fun h => ha h _ _ e) h
theorem inA_split {t : Str} (h : t ∈ inA) : splitT t = [t] ∧ firstIn t wordCh = false := (show ∀ t ∈ inA, splitT t = [t] ∧ firstIn t wordCh = false by decide +kernel) t h
theorem inB_lp {t : Str} (h : t ∈ inB) : lp t = t ∧ lastIn t wordCh = false := (show ∀ t ∈ inB, lp t = t ∧ lastIn t wordCh = false by decide +kernel) t h
theorem gap_wv {p t : Str} : blankS (gap p t) ∧ (gap p t = "" → ∀ u us, splitT t = u :: us → apart (lp p) u) := by
  unfold gap
  split
  · rename_i h
    refine ⟨blank_nil, fun _ u us e => ?_⟩
    rcases h with h | h | ⟨rfl, _⟩
    · obtain ⟨h1, h2⟩ := inA_split h
      rw [h1] at e
      cases e
      exact apart_r h2
    · obtain ⟨h1, h2⟩ := inB_lp h
      rw [h1]
      exact apart_l h2
    · rw [show splitT "(" = [("(" : Str)] by decide +kernel] at e
      cases e
      exact apart_r (by decide +kernel)
  · exact ⟨blank_sp, fun h => absurd h (by decide +kernel)⟩
theorem rest_wv : ∀ (ρ : List Str) (p T : Str) (ts : List Str), WvT (lp (lastD p ρ)) T ts → WvT (lp p) (rest p ρ ++ T) (rawL ρ ++ ts)
  | [], p, T, ts, h => by rw [rest, nil_s]; exact h
  | t :: r, p, T, ts, h => by
    have ih := rest_wv r t T ts h
    rw [rest, rawL_cons, List.append_assoc, Str.append_assoc, Str.append_assoc]
    exact tok_wv gap_wv.1 gap_wv.2 ih
theorem row_wv {ρ : List Str} {b g T : Str} {ts : List Str} (hne : ρ ≠ []) (hg : blankS g) (hb : g = "" → lastIn b wordCh = false) (h : WvT (lp (lastD b ρ)) T ts) : WvT b (g ++ (lineS ρ ++ T)) (rawL ρ ++ ts) := by
  cases ρ with
  | nil => exact absurd rfl hne
  | cons t r =>
    have ih := rest_wv r t T ts h
    rw [lineS, rawL_cons, List.append_assoc, Str.append_assoc]
    exact tok_wv hg (fun e _ _ _ => apart_l (hb e)) ih
def tS (L : List (Nat × List Str)) : Str := Str.join "" (L.map txS)
theorem joinE_cons (x : Str) : ∀ l : List Str, Str.join "" (x :: l) = x ++ Str.join "" l
  | [] => by show x = x ++ ""; rw [s_nil]
  | y :: r => by show x ++ "" ++ Str.join "" (y :: r) = _; rw [s_nil]
theorem rows_wv : ∀ (L : List (Nat × List Str)) (b g : Str), (∀ q ∈ L, q.2 ≠ []) → blankS g → (g = "" → lastIn b wordCh = false) → WvT b (g ++ tS L) (rawL (rowsT L))
  | [], b, g, _, hg, _ => by
    show WvT b (g ++ "") _
    rw [s_nil]
    exact WvT.nil hg
  | q :: L, b, g, hne, hg, hb => by
    have ih := rows_wv L (lp (lastD b q.2)) "\n" (fun x hx => hne x (List.mem_cons_of_mem _ hx)) blank_nl (fun h => absurd h (by decide +kernel))
    have e : g ++ tS (q :: L) = (g ++ mulS "    " q.1) ++ (lineS q.2 ++ ("\n" ++ tS L)) := by
      unfold tS
      rw [List.map_cons, joinE_cons, txS]
      simp only [Str.append_assoc]
    rw [e, rowsT_cons, rawL_app]
    refine row_wv (hne q List.mem_cons_self) (blank_app hg (blank_mul _)) (fun h => hb ?_) ih
    have h1 := congrArg Ls h
    rw [ls_app] at h1
    exact ls_nil (List.append_eq_nil_iff.mp h1).1
end My
set_option maxHeartbeats 4000000
namespace My
open PySem L2 DL
/-! ### programs of records and functions -/
theorem rss_txt {n d : Nat} : ∀ l : List St, (∀ s ∈ l, SOk n s) → (St.rss d l).map txS = (St.lss d l).map nl
  | [], _ => by simp [St.rss, St.lss]
  | a :: r, hl => by
    simp only [St.rss, St.lss, List.map_append]
    rw [rs_txt n d a (hl a List.mem_cons_self), rss_txt r fun s hs => hl s (List.mem_cons_of_mem _ hs)]
def pgR (x : Fu) (es : List St) : List (Nat × List Str) := (0, hdR x ++ (["{"] : List Str)) :: (St.rss 1 es ++ [(0, [("}" : Str)])])
def fsR15 (y : Fu × List St) : List (Nat × List Str) := pgR y.1 y.2
def progR (rs : Rw) (us : List (Fu × List St)) : List (Nat × List Str) := rs.map (fun r => (0, rcR r)) ++ (us.map fsR15).flatten
theorem mul0 : mulS "    " 0 = ("" : Str) := by decide +kernel
theorem fs_txt {y : Fu × List St} (h : FsOk y) : (fsR15 y).map txS = (fuL y).map nl := by
  obtain ⟨x, es⟩ := y
  have hx : FuOk x := h.ok
  have he : ∀ s ∈ es, SOk 15 s := h.st
  have h0 : txS (0, hdR x ++ (["{"] : List Str)) = nl (fuS x ++ " {") := by
    rw [txS, nl, fu_line hx, mul0, nil_s]
  have h1 : txS (0, [("}" : Str)]) = nl "}" := by
    rw [txS, nl, mul0, nil_s]
    show ("}" : Str) ++ "" ++ "\n" = _
    rw [s_nil]
  have h2 := rss_txt (d := 1) es he
  simp only [fsR15, pgR, fuL, List.map_cons, List.map_append, List.map_nil, h0, h1]
  rw [h2]
theorem prog_txt {rs : Rw} {us : List (Fu × List St)} (h : PrOk rs us) : tS (progR rs us) = prS rs us := by
  unfold tS prS
  congr 1
  unfold progR prL
  rw [List.map_append, List.map_append]
  congr 1
  · rw [List.map_map, List.map_map]
    refine List.map_congr_left fun r hr => ?_
    show txS (0, rcR r) = nl (rcS r)
    rw [txS, nl, rc_line (h.rc r hr), mul0, nil_s]
  · have key : ∀ us : List (Fu × List St), (∀ y ∈ us, FsOk y) → ((us.map fsR15).flatten).map txS = ((us.map fuL).flatten).map nl := by
      intro us
      induction us with
      | nil => intro _; rfl
      | cons y us ih =>
        intro hu
        rw [List.map_cons, List.map_cons, List.flatten_cons, List.flatten_cons, List.map_append, List.map_append, fs_txt (hu y List.mem_cons_self), ih fun z hz => hu z (List.mem_cons_of_mem _ hz)]
    exact key us h.fs
theorem pgR_raw {x : Fu} {es : List St} {n : Nat} (hx : FuOk x) (he : ∀ e ∈ es, SOk n e) : rawL (rowsT (pgR x es)) = ("fn" : Str) :: fnTl blockW (x, es) := by
  simp only [pgR]
  rw [rowsT_cons, rowsT_app, rowsT_cons, rowsT_nil, List.append_nil]
  dsimp only
  rw [rawL_app, rawL_app, rawL_app, rss_raw es he, hdR_raw hx, show rawL (["{"] : List Str) = (["{"] : List Str) by decide +kernel, show rawL (["}"] : List Str) = (["}"] : List Str) by decide +kernel]
  simp [hdRw, fnTl, blockW]
theorem prog_raw {rs : Rw} {us : List (Fu × List St)} (h : PrOk rs us) : rawL (rowsT (progR rs us)) = kwL "record" (rs.map rcTl) ++ kwL "fn" (us.map (fnTl blockW)) := by
  unfold progR
  rw [rowsT_app, rawL_app]
  congr 1
  · have key : ∀ rs : Rw, (∀ r ∈ rs, Rc r) → rawL (rowsT (rs.map fun r => ((0 : Nat), rcR r))) = kwL "record" (rs.map rcTl) := by
      intro rs
      induction rs with
      | nil => intro _; rfl
      | cons r rs ih =>
        intro hr
        rw [List.map_cons, List.map_cons, rowsT_cons, rawL_app, kwL_cons, ih fun z hz => hr z (List.mem_cons_of_mem _ hz)]
        dsimp only
        rw [rcR_raw (hr r List.mem_cons_self)]
        rfl
    exact key rs h.rc
  · have key : ∀ us : List (Fu × List St), (∀ y ∈ us, FsOk y) → rawL (rowsT ((us.map fsR15).flatten)) = kwL "fn" (us.map (fnTl blockW)) := by
      intro us
      induction us with
      | nil => intro _; rfl
      | cons y us ih =>
        intro hu
        have hy := hu y List.mem_cons_self
        rw [List.map_cons, List.map_cons, List.flatten_cons, rowsT_app, rawL_app, kwL_cons, ih fun z hz => hu z (List.mem_cons_of_mem _ hz), fsR15, pgR_raw hy.ok hy.st]
        rfl
    exact key us h.fs
theorem fnTl_f {y : Fu × List St} (h : FsOk y) : StF (("fn" : Str) :: fnTl blockW y) := by
  obtain ⟨x, es⟩ := y
  have e : ("fn" : Str) :: fnTl blockW (x, es) = hdRw x ++ (("{" : Str) :: (St.tokss es ++ [("}" : Str)])) := by simp [hdRw, fnTl, blockW]
  rw [e]
  exact (StF.of fun t ht => (hdRw_ok h.ok t ht).t1).app (StF.cons (kw1 (by decide +kernel) (by decide +kernel)) ((sts_f es h.st).app (StF.of (cs1 (kw1 (by decide +kernel) (by decide +kernel)) nl1))))
theorem prog_f {rs : Rw} {us : List (Fu × List St)} (h : PrOk rs us) : StF (kwL "record" (rs.map rcTl) ++ kwL "fn" (us.map (fnTl blockW))) := by
  refine StF.app ?_ ?_
  · have key : ∀ rs : Rw, (∀ r ∈ rs, Rc r) → StF (kwL "record" (rs.map rcTl)) := by
      intro rs
      induction rs with
      | nil => intro _; exact StF.nil
      | cons r rs ih =>
        intro hr
        rw [List.map_cons, kwL_cons]
        have h1 : StF (("record" : Str) :: rcTl r) := StF.of fun t ht => (rcRw_ok (hr r List.mem_cons_self) t ht).t1
        exact StF.app (a := ("record" : Str) :: rcTl r) h1 (ih fun z hz => hr z (List.mem_cons_of_mem _ hz))
    exact key rs h.rc
  · have key : ∀ us : List (Fu × List St), (∀ y ∈ us, FsOk y) → StF (kwL "fn" (us.map (fnTl blockW))) := by
      intro us
      induction us with
      | nil => intro _; exact StF.nil
      | cons y us ih =>
        intro hu
        rw [List.map_cons, kwL_cons]
        exact StF.app (a := ("fn" : Str) :: fnTl blockW y) (fnTl_f (hu y List.mem_cons_self)) (ih fun z hz => hu z (List.mem_cons_of_mem _ hz))
    exact key us h.fs
/-- the data of a program, as the parser returns it -/
theorem prog_d (rs : Rw) (us : List (Fu × List St)) : D.tup [.tup (rs.map rowD), .tup (us.map (fnD blkD))] = progD rs us := rfl
end My
set_option maxHeartbeats 4000000
namespace My
open PySem L2 DL
/-- data made of ints, texts and tuples of such -/
inductive SimD : Nat → D → Prop
  | int {n : Nat} (i : Int) : SimD (n + 1) (.int i)
  | str {n : Nat} (x : Str) : SimD (n + 1) (.str x)
  | bl {n : Nat} (x : Bool) : SimD (n + 1) (.bl x)
  | tup {n : Nat} {l : List D} : l.length ≤ 100000 → (∀ d ∈ l, SimD n d) → SimD (n + 1) (.tup l)
theorem SimD.mono : ∀ {n : Nat} {d : D}, SimD n d → ∀ {m : Nat}, n ≤ m → SimD m d
  | n + 1, _, .int i, m, h => by obtain ⟨k, rfl⟩ : ∃ k, m = k + 1 := ⟨m - 1, by omega⟩; exact .int i
  | n + 1, _, .str i, m, h => by obtain ⟨k, rfl⟩ : ∃ k, m = k + 1 := ⟨m - 1, by omega⟩; exact .str i
  | n + 1, _, .bl i, m, h => by obtain ⟨k, rfl⟩ : ∃ k, m = k + 1 := ⟨m - 1, by omega⟩; exact .bl i
  | n + 1, _, .tup hl hd, m, h => by obtain ⟨k, rfl⟩ : ∃ k, m = k + 1 := ⟨m - 1, by omega⟩; exact .tup hl fun d hm => (hd d hm).mono (by omega)
theorem sim_map {α : Type} {f : α → D} {n : Nat} {l : List α} (hl : l.length ≤ 100000) (h : ∀ a ∈ l, SimD n (f a)) : SimD (n + 1) (.tup (l.map f)) :=
  .tup (by rw [List.length_map]; exact hl) fun d hd => by obtain ⟨a, ha, rfl⟩ := List.mem_map.mp hd; exact h a ha
theorem kd_sim : ∀ (n : Nat) (k : Kd), Tk n k → SimD (2 * n + 1) k.d
  | 0, k, h => by have := h.lev; have := k.lev_pos; omega
  | n + 1, k, h => by
    have sub : ∀ x : Kd, k.wf = x.wf → k.lev = x.lev + 1 → k.rn = x.rn → SimD (2 * n + 2) x.d := fun x h1 h2 h3 => (kd_sim n x ⟨h1.symm.trans h.wf, by have := h.lev; omega, fun y hy => h.rn y (by rw [h3]; exact hy)⟩).mono (by omega)
    have two : ∀ (t : Str) (d : D), SimD (2 * n + 2) d → SimD (2 * (n + 1) + 1) (.tup [.str t, d]) := fun t d hd => .tup (by simp) fun e he => by
      rcases List.mem_cons.mp he with rfl | he
      · exact .str _
      · rw [List.mem_singleton.mp he]; exact hd
    have one : ∀ t : Str, SimD (2 * (n + 1) + 1) (.tup [.str t]) := fun t => .tup (by simp) fun e he => by rw [List.mem_singleton.mp he]; exact .str _
    cases k with
    | int => simp only [Kd.d]; exact one _
    | bool => simp only [Kd.d]; exact one _
    | unit => simp only [Kd.d]; exact one _
    | box x => simp only [Kd.d]; exact two _ _ (sub x (by simp only [Kd.wf]) rfl (by simp only [Kd.rn]))
    | maybe x => simp only [Kd.d]; exact two _ _ (sub x (by simp only [Kd.wf]) rfl (by simp only [Kd.rn]))
    | shared x => simp only [Kd.d]; exact two _ _ (sub x (by simp only [Kd.wf]) rfl (by simp only [Kd.rn]))
    | excl x => simp only [Kd.d]; exact two _ _ (sub x (by simp only [Kd.wf]) rfl (by simp only [Kd.rn]))
    | rcd x => simp only [Kd.d]; exact two _ _ (.str _)
    | tup l =>
      simp only [Kd.d, Kd.ds_map]
      exact two _ _ (sim_map (by have := h.len.2; omega) fun k hk => kd_sim n k (h.part k hk))
/-! ### the lengths of a program's tokens; its data -/
theorem sepL_tk {P : Str → Prop} {ls : List (List Str)} (h0 : P ",") (h : ∀ l ∈ ls, ∀ t ∈ l, P t) : ∀ t ∈ sepL ls, P t := fun t ht => com_mem h0 h ht
theorem kr_ln : ∀ (n : Nat) (k : Kd), Tk n k → ∀ t ∈ k.kr, t.length ≤ 1000
  | 0, k, h => by have := h.lev; have := k.lev_pos; omega
  | n + 1, k, h => by
    have sub : ∀ x : Kd, k.wf = x.wf → k.lev = x.lev + 1 → k.rn = x.rn → ∀ t ∈ x.kr, t.length ≤ 1000 := fun x h1 h2 h3 => kr_ln n x ⟨h1.symm.trans h.wf, by have := h.lev; omega, fun y hy => h.rn y (by rw [h3]; exact hy)⟩
    have cs : ∀ {a : Str} {r : List Str}, a.length ≤ 1000 → (∀ t ∈ r, t.length ≤ 1000) → ∀ t ∈ a :: r, t.length ≤ 1000 := fun h1 h2 t ht => by
      rcases List.mem_cons.mp ht with rfl | ht
      · exact h1
      · exact h2 t ht
    cases k with
    | int => simp only [Kd.kr]; exact cs (by decide +kernel) (fun _ h => nomatch h)
    | bool => simp only [Kd.kr]; exact cs (by decide +kernel) (fun _ h => nomatch h)
    | unit => simp only [Kd.kr]; exact cs (by decide +kernel) (fun _ h => nomatch h)
    | rcd x => simp only [Kd.kr]; exact cs (by have := (h.rn x (by simp [Kd.rn])).sok.1; omega) (fun _ h => nomatch h)
    | box x => simp only [Kd.kr]; exact cs (by decide +kernel) (sub x (by simp only [Kd.wf]) rfl (by simp only [Kd.rn]))
    | maybe x => simp only [Kd.kr]; exact cs (by decide +kernel) (sub x (by simp only [Kd.wf]) rfl (by simp only [Kd.rn]))
    | shared x => simp only [Kd.kr]; exact cs (by decide +kernel) (sub x (by simp only [Kd.wf]) rfl (by simp only [Kd.rn]))
    | excl x => simp only [Kd.kr]; exact cs (by decide +kernel) (sub x (by simp only [Kd.wf]) rfl (by simp only [Kd.rn]))
    | tup l =>
      simp only [Kd.kr, List.cons_append]
      refine cs (by decide +kernel) fun t ht => ?_
      rcases List.mem_append.mp ht with ht | ht
      · rw [Kd.krs_map] at ht
        refine sepL_tk (P := fun t => t.length ≤ 1000) (by decide +kernel) (fun l' hl' t ht => ?_) t ht
        obtain ⟨k, hk, rfl⟩ := List.mem_map.mp hl'
        exact kr_ln n k (h.part k hk) t ht
      · rw [List.mem_singleton.mp ht]; decide +kernel
theorem fsR_ln {fs : List (Str × Kd)} (h : ∀ p ∈ fs, Fd p) : ∀ t ∈ fsR fs, t.length ≤ 1000 := by
  refine sepL_tk (P := fun t => t.length ≤ 1000) (by decide +kernel) fun l hl t ht => ?_
  obtain ⟨p, hp, rfl⟩ := List.mem_map.mp hl
  rcases List.mem_cons.mp ht with rfl | ht
  · have := (h p hp).nm.nm.len; omega
  · rcases List.mem_cons.mp ht with rfl | ht
    · decide +kernel
    · exact kr_ln 3 p.2 (h p hp).k t ht
theorem src_ln {l : List Str} (h : ∀ s ∈ l, Nm s) : ∀ t ∈ srcR l, t.length ≤ 1000 := fun t ht => by
  unfold srcR at ht
  split at ht
  · cases ht
  · rcases List.mem_cons.mp ht with rfl | ht
    · decide +kernel
    · refine sepL_tk (P := fun t => t.length ≤ 1000) (by decide +kernel) (fun l hl t ht => ?_) t ht
      obtain ⟨s, hs, rfl⟩ := List.mem_map.mp hl
      rw [List.mem_singleton.mp ht]
      have := (h s hs).nm.len; omega
theorem hd_ln {x : Fu} (h : FuOk x) : ∀ t ∈ hdR x, t.length ≤ 1000 := fun t ht => by
  simp only [hdR, List.mem_append, List.mem_cons, List.not_mem_nil, or_false] at ht
  rcases ht with ((((rfl | rfl | rfl) | ht) | rfl | rfl) | ht) | ht
  · decide +kernel
  · have := h.nm.nm.len; omega
  · decide +kernel
  · exact fsR_ln h.ps t ht
  · decide +kernel
  · decide +kernel
  · exact kr_ln 3 x.res h.res t ht
  · exact src_ln h.src t ht
theorem fd_sim {p : Str × Kd} (h : Fd p) : SimD 8 (fD p) := .tup (by simp) fun e he => by
  rcases List.mem_cons.mp he with rfl | he
  · exact .str _
  · rw [List.mem_singleton.mp he]; exact kd_sim 3 p.2 h.k
theorem st_ln {s : D} (h : StOk s) : ∀ t ∈ stR s, t.length ≤ 1000 := by
  rcases h with rfl | rfl | ⟨x, hx, rfl⟩ | ⟨i, hi, rfl⟩
  · decide +kernel
  · decide +kernel
  · intro t ht
    have := hx.nm.len
    simp only [stR] at ht
    split at ht
    · rw [List.mem_singleton.mp ht]; omega
    · simp only [List.mem_cons, List.not_mem_nil, or_false] at ht
      rcases ht with rfl | rfl
      · decide +kernel
      · omega
  · intro t ht
    have := num_len (i := (i : Int)) (by omega)
    simp only [stR, List.mem_cons, List.not_mem_nil, or_false] at ht
    rcases ht with rfl | rfl
    · decide +kernel
    · omega
theorem pl_ln {v : Str} {ss : List D} (h : Pk v ss) : ∀ t ∈ plR v ss, t.length ≤ 1000 := fun t ht => by
  rcases List.mem_cons.mp ht with rfl | ht
  · have := h.nm.nm.len; omega
  · obtain ⟨l, hl, ht⟩ := List.mem_flatten.mp ht
    obtain ⟨s, hs, rfl⟩ := List.mem_map.mp hl
    exact st_ln (h.st s hs) t ht
def L1 (l : List Str) : Prop := ∀ t ∈ l, t.length ≤ 1000
theorem L1.cons {a : Str} {r : List Str} (h1 : a.length ≤ 1000) (h2 : L1 r) : L1 (a :: r) := fun t ht => by
  rcases List.mem_cons.mp ht with rfl | ht
  · exact h1
  · exact h2 t ht
theorem L1.app {a b : List Str} (h1 : L1 a) (h2 : L1 b) : L1 (a ++ b) := fun t ht => (List.mem_append.mp ht).elim (h1 t) (h2 t)
theorem L1.nil : L1 [] := fun _ h => (nomatch h)
theorem kw_l {w : Str} (h : isKw w = true) : w.length ≤ 1000 := by have := (kw_tk h).2; omega
theorem er_ln : ∀ (n : Nat) (e : Ex), EOk n e → L1 e.er
  | 0, _, h => nomatch h
  | n + 1, e, h => by
    have pr : ∀ l : List Ex, (∀ e ∈ l, EOk n e) → L1 (parR (l.map Ex.er)) := fun l hl => by
      unfold parR
      refine L1.app (L1.cons (by decide +kernel) fun t ht => ?_) (L1.cons (by decide +kernel) L1.nil)
      refine sepL_tk (P := fun t => t.length ≤ 1000) (by decide +kernel) (fun l' hl' t ht => ?_) t ht
      obtain ⟨k, hk, rfl⟩ := List.mem_map.mp hl'
      exact er_ln n k (hl k hk) t ht
    cases h with
    | int hi =>
      rename_i i
      have := num_len (i := i) (by omega)
      simp only [Ex.er]; exact L1.cons (by omega) L1.nil
    | bool b => simp only [Ex.er]; cases b <;> exact L1.cons (by decide +kernel) L1.nil
    | unit => simp only [Ex.er]; exact L1.cons (by decide +kernel) L1.nil
    | none hk => simp only [Ex.er]; exact L1.cons (by decide +kernel) (L1.cons (by decide +kernel) (L1.app (kr_ln 3 _ hk) (L1.cons (by decide +kernel) L1.nil)))
    | use hp => simp only [Ex.er]; exact pl_ln hp
    | is hp => simp only [Ex.er]; exact L1.app (pl_ln hp) (L1.cons (by decide +kernel) (L1.cons (by decide +kernel) L1.nil))
    | @bor _ m v ss hp => simp only [Ex.er]; exact L1.cons (by cases m <;> decide +kernel) (pl_ln hp)
    | un hw he => simp only [Ex.er]; exact L1.cons (kw_l (un_kw hw)) (er_ln n _ he)
    | swap hp he => simp only [Ex.er]; exact L1.cons (by decide +kernel) (L1.app (pl_ln hp) (L1.cons (by decide +kernel) (er_ln n _ he)))
    | op hs hl hr => simp only [Ex.er]; exact L1.cons (by decide +kernel) (L1.app (er_ln n _ hl) (L1.cons (kw_l (op_kw hs)) (L1.app (er_ln n _ hr) (L1.cons (by decide +kernel) L1.nil))))
    | tup h2 h6 hl => simp only [Ex.er, Ex.ers_map]; exact pr _ hl
    | rcd hx h6 hl => simp only [Ex.er, Ex.ers_map]; exact L1.cons (by have := hx.sok.1; omega) (pr _ hl)
    | call hx h6 hl => simp only [Ex.er, Ex.ers_map]; exact L1.cons (by have := hx.nm.len; omega) (pr _ hl)
theorem rs_ln : ∀ (n d : Nat) (s : St), SOk n s → ∀ q ∈ s.rs d, q.2 ≠ [] ∧ L1 q.2
  | 0, _, _, h, _, _ => nomatch h
  | n + 1, d, s, h, q, hq => by
    have lss : ∀ l : List St, (∀ s ∈ l, SOk n s) → q ∈ St.rss (d + 1) l → q.2 ≠ [] ∧ L1 q.2 := by
      intro l
      induction l with
      | nil => intro _ hm; simp [St.rss] at hm
      | cons a r ih =>
        intro hl hm
        simp only [St.rss, List.mem_append] at hm
        rcases hm with hm | hm
        · exact rs_ln n (d + 1) a (hl a List.mem_cons_self) q hm
        · exact ih (fun s hs => hl s (List.mem_cons_of_mem _ hs)) hm
    have cl : ([("}" : Str)] : List Str) ≠ [] ∧ L1 [("}" : Str)] := ⟨by simp, L1.cons (by decide +kernel) L1.nil⟩
    have el : (["}", "else", "{"] : List Str) ≠ [] ∧ L1 (["}", "else", "{"] : List Str) := ⟨by simp, L1.cons (by decide +kernel) (L1.cons (by decide +kernel) (L1.cons (by decide +kernel) L1.nil))⟩
    cases h with
    | act hw he =>
      simp only [St.rs, List.mem_cons, List.not_mem_nil, or_false] at hq
      subst hq
      exact ⟨by simp, L1.cons (kw_l (ac_kw hw).1) (L1.app (er_ln 36 _ he) (L1.cons (by decide +kernel) L1.nil))⟩
    | lt hx he =>
      simp only [St.rs, List.mem_cons, List.not_mem_nil, or_false] at hq
      subst hq
      exact ⟨by simp, L1.cons (by decide +kernel) (L1.cons (by have := hx.nm.len; omega) (L1.cons (by decide +kernel) (L1.app (er_ln 36 _ he) (L1.cons (by decide +kernel) L1.nil))))⟩
    | sto hp he =>
      simp only [St.rs, List.mem_cons, List.not_mem_nil, or_false] at hq
      subst hq
      exact ⟨by simp [plR], L1.app (pl_ln hp) (L1.cons (by decide +kernel) (L1.app (er_ln 36 _ he) (L1.cons (by decide +kernel) L1.nil)))⟩
    | iff he _ _ hb hc =>
      simp only [St.rs, List.mem_cons, List.mem_append, List.not_mem_nil, or_false] at hq
      rcases hq with rfl | hq | rfl | hq | rfl
      · exact ⟨by simp, L1.cons (by decide +kernel) (L1.app (er_ln 36 _ he) (L1.cons (by decide +kernel) L1.nil))⟩
      · exact lss _ hb hq
      · exact el
      · exact lss _ hc hq
      · exact cl
    | whl he _ hb =>
      simp only [St.rs, List.mem_cons, List.mem_append, List.not_mem_nil, or_false] at hq
      rcases hq with rfl | hq | rfl
      · exact ⟨by simp, L1.cons (by decide +kernel) (L1.app (er_ln 36 _ he) (L1.cons (by decide +kernel) L1.nil))⟩
      · exact lss _ hb hq
      · exact cl
theorem rss_ln {n d : Nat} : ∀ l : List St, (∀ s ∈ l, SOk n s) → ∀ q ∈ St.rss d l, q.2 ≠ [] ∧ L1 q.2
  | [], _, q, hq => by simp [St.rss] at hq
  | a :: r, hl, q, hq => by
    simp only [St.rss, List.mem_append] at hq
    rcases hq with hq | hq
    · exact rs_ln n d a (hl a List.mem_cons_self) q hq
    · exact rss_ln r (fun s hs => hl s (List.mem_cons_of_mem _ hs)) q hq
theorem plc_sim {v : Str} {ss : List D} (h : Pk v ss) {n : Nat} (hn : 4 ≤ n) : SimD n (plcD v ss) := SimD.mono (n := 4) (.tup (by simp) fun e he => by
  rcases List.mem_cons.mp he with rfl | he
  · exact .str _
  · rw [List.mem_singleton.mp he]
    refine .tup (by have := h.l13; omega) fun s hs => ?_
    rcases h.st s hs with rfl | rfl | ⟨x, _, rfl⟩ | ⟨i, _, rfl⟩
    · exact .str _
    · exact .str _
    · exact .str _
    · exact .int _) hn
theorem sim1 {n : Nat} {a : D} (h : SimD n a) : SimD (n + 1) (.tup [a]) := .tup (by simp) fun e he => by rw [List.mem_singleton.mp he]; exact h
theorem sim2 {n : Nat} {a b : D} (h : SimD n a) (h2 : SimD n b) : SimD (n + 1) (.tup [a, b]) := .tup (by simp) fun e he => by
  rcases List.mem_cons.mp he with rfl | he
  · exact h
  · rw [List.mem_singleton.mp he]; exact h2
theorem sim3 {n : Nat} {a b c : D} (h : SimD n a) (h2 : SimD n b) (h3 : SimD n c) : SimD (n + 1) (.tup [a, b, c]) := .tup (by simp) fun e he => by
  simp only [List.mem_cons, List.not_mem_nil, or_false] at he
  rcases he with rfl | rfl | rfl
  · exact h
  · exact h2
  · exact h3
theorem sim4 {n : Nat} {a b c d : D} (h : SimD n a) (h2 : SimD n b) (h3 : SimD n c) (h4 : SimD n d) : SimD (n + 1) (.tup [a, b, c, d]) := .tup (by simp) fun e he => by
  simp only [List.mem_cons, List.not_mem_nil, or_false] at he
  rcases he with rfl | rfl | rfl | rfl
  · exact h
  · exact h2
  · exact h3
  · exact h4
theorem ex_sim : ∀ (n : Nat) (e : Ex), EOk n e → SimD (2 * n + 10) e.d
  | 0, _, h => nomatch h
  | n + 1, e, h => by
    have ls : ∀ l : List Ex, l.length ≤ 6 → (∀ e ∈ l, EOk n e) → SimD (2 * n + 11) (.tup (l.map Ex.d)) := fun l hl he => sim_map (by omega) fun e h => ex_sim n e (he e h)
    have st : ∀ x : Str, SimD (2 * n + 11) (.str x) := fun x => .str x
    cases h with
    | int hi => simp only [Ex.d]; exact sim2 (st _) (.int _)
    | bool b => simp only [Ex.d]; exact sim2 (st _) (.bl _)
    | unit => simp only [Ex.d]; exact sim1 (st _)
    | none hk => simp only [Ex.d]; exact sim2 (st _) ((kd_sim 3 _ hk).mono (by omega))
    | use hp => simp only [Ex.d]; exact sim2 (st _) (plc_sim hp (by omega))
    | is hp => simp only [Ex.d]; exact sim2 (st _) (plc_sim hp (by omega))
    | bor hp => simp only [Ex.d]; exact sim3 (st _) (st _) (plc_sim hp (by omega))
    | un hw he => simp only [Ex.d]; exact sim2 (st _) ((ex_sim n _ he).mono (by omega))
    | swap hp he => simp only [Ex.d]; exact sim3 (st _) (plc_sim hp (by omega)) ((ex_sim n _ he).mono (by omega))
    | op hs hl hr => simp only [Ex.d]; exact sim4 (st _) (st _) ((ex_sim n _ hl).mono (by omega)) ((ex_sim n _ hr).mono (by omega))
    | tup h2 h6 hl => simp only [Ex.d, Ex.ds_map]; exact sim2 (st _) (ls _ h6 hl)
    | rcd hx h6 hl => simp only [Ex.d, Ex.ds_map]; exact sim3 (st _) (st _) (ls _ h6 hl)
    | call hx h6 hl => simp only [Ex.d, Ex.ds_map]; exact sim3 (st _) (st _) (ls _ h6 hl)
theorem st_sim : ∀ (n : Nat) (s : St), SOk n s → SimD (2 * n + 84) s.d
  | 0, _, h => nomatch h
  | n + 1, s, h => by
    have ls : ∀ l : List St, l.length ≤ 5 → (∀ e ∈ l, SOk n e) → SimD (2 * n + 85) (.tup (l.map St.d)) := fun l hl he => sim_map (by omega) fun e h => st_sim n e (he e h)
    have st : ∀ x : Str, SimD (2 * n + 85) (.str x) := fun x => .str x
    have xs : ∀ {e : Ex}, EOk 36 e → SimD (2 * n + 85) e.d := fun h => (ex_sim 36 _ h).mono (by omega)
    cases h with
    | act hw he => simp only [St.d]; exact sim2 (st _) (xs he)
    | lt hx he => simp only [St.d]; exact sim3 (st _) (st _) (xs he)
    | sto hp he => simp only [St.d]; exact sim3 (st _) (plc_sim hp (by omega)) (xs he)
    | iff he h5 h6 hb hc => simp only [St.d, St.ds_map]; exact sim4 (st _) (xs he) (ls _ h5 hb) (ls _ h6 hc)
    | whl he h5 hb => simp only [St.d, St.ds_map]; exact sim3 (st _) (xs he) (ls _ h5 hb)
theorem rc_sim {r : Str × List (Str × Kd)} (h : Rc r) : SimD 10 (rowD r) := .tup (by simp) fun e he => by
  rcases List.mem_cons.mp he with rfl | he
  · exact .str _
  · rw [List.mem_singleton.mp he]; exact sim_map (by have := h.l7; omega) fun p hp => fd_sim (h.fl p hp)
theorem fs_sim {y : Fu × List St} (h : FsOk y) : SimD 116 (fsD y) := by
  obtain ⟨x, es⟩ := y
  have hx : FuOk x := h.ok
  have hl : es.length ≤ 1000 := h.ln
  have he : ∀ s ∈ es, SOk 15 s := h.st
  refine .tup (by simp) fun e he' => ?_
  simp only [List.mem_cons, List.not_mem_nil, or_false] at he'
  rcases he' with rfl | rfl | rfl | rfl | rfl
  · exact .str _
  · exact (sim_map (n := 8) (by have := hx.l3; omega) fun p hp => fd_sim (hx.ps p hp)).mono (by omega)
  · exact (kd_sim 3 x.res hx.res).mono (by omega)
  · exact sim_map (n := 114) (by have := hx.l2; omega) fun _ _ => .str _
  · exact sim_map (n := 114) (by omega) fun s hs => (st_sim 15 s (he s hs)).mono (by omega)
theorem prog_sim {rs : Rw} {us : List (Fu × List St)} (h : PrOk rs us) : SimD 118 (progD rs us) :=
  sim2 ((sim_map (n := 10) (by have := h.r2; omega) fun r hr => rc_sim (h.rc r hr)).mono (by omega)) (sim_map (by have := h.u2; omega) fun y hy => fs_sim (h.fs y hy))
end My
set_option maxHeartbeats 4000000
namespace My
open PySem L2 DL
theorem nns_rep : ∀ (k : Nat) (l : List St), St.nns (List.replicate k l).flatten = k * St.nns l
  | 0, l => by simp [St.nns]
  | k + 1, l => by
    have app : ∀ a b : List St, St.nns (a ++ b) = St.nns a + St.nns b := by
      intro a
      induction a with
      | nil => intro b; simp [St.nns]
      | cons x r ih => intro b; rw [List.cons_append]; simp only [St.nns]; rw [ih]; omega
    rw [List.replicate_succ, List.flatten_cons, app, nns_rep k l, Nat.add_mul, Nat.one_mul]
    omega
theorem map_rep {α β : Type} (f : α → β) (l : List α) : ∀ k : Nat, (List.replicate k (l.map f)).flatten = ((List.replicate k l).flatten).map f
  | 0 => rfl
  | k + 1 => by rw [List.replicate_succ, List.replicate_succ, List.flatten_cons, List.flatten_cons, List.map_append, map_rep f l k]
theorem len_rep {α : Type} (l : List α) : ∀ k : Nat, ((List.replicate k l).flatten).length = k * l.length
  | 0 => by simp
  | k + 1 => by rw [List.replicate_succ, List.flatten_cons, List.length_append, len_rep l k, Nat.add_mul, Nat.one_mul]; omega
theorem mem_rep {α : Type} {l : List α} {x : α} : ∀ {k : Nat}, x ∈ (List.replicate k l).flatten → x ∈ l
  | 0, h => by simp at h
  | k + 1, h => by
    rw [List.replicate_succ, List.flatten_cons] at h
    exact (List.mem_append.mp h).elim id mem_rep
section
variable {P : Program} {w : World} {K : PySem.W.Frag} {mg : Str → Option Value} {base : Heap} {f : Addr} {fd : FuncData}
def spDeep : Sp3 := fun ds M Q => ∃ (a : Addr) (ns : List Int) (l : List St), ds = [.ref a, .rol (ns.map D.int), .tup (l.map St.d)] ∧ ∃ t0 : Int, StT M a t0 ∧ t0 ≤ 7 ∧ (∀ s ∈ l, SOk 4 s) ∧ l.length ≤ 3 ∧ St.nns l ≤ 90 ∧ ∀ l' t' M', (∀ s ∈ l', SOk 15 s) → l'.length ≤ 15 → St.nns l' ≤ 700 → StT M' a t' → Keep a M M' → Q (.tup (l'.map St.d)) M'
theorem ok_deep (F : Fun K "_law_deep" "_law_deep" st__law_deep f fd) (b : Binds K fd ["_law_state", "_law_script", "_law_block_here"] []) (g : mg "_law_deep" = some (.ref f)) (m_range : mg "range" = none)
    (C__law_pick : Callee P w K mg base "_law_pick" 1 ["_law_state", "_law_script", "_law_many"] spPick)
    (C__law_expression : ∀ n, Callee P w K mg base "_law_expression" (n + 5) ["_law_state", "_law_script", "_law_room"] (spEx n)) :
    Callee P w K mg base "_law_deep" 8 ["_law_state", "_law_script", "_law_block_here"] spDeep := by
  refine callee F scope__law_deep g b (fun ds M Q ⟨_, _, _, e, _⟩ => by rw [e]; rfl) (fun cdv A outer s H E hr ds M Q ⟨a, ns, l, e, t0, hp, ht0, hl, hl3, hn, q⟩ => ?_)
  subst e
  refine ss_cut (fun σ' M' => ∃ (l1 : List St) (d3 d4 : Option D) (t1 : Int), σ' = [some (.ref a), some (.rol (ns.map D.int)), some (.tup (l1.map St.d)), d3, d4] ∧ (∀ s ∈ l1, SOk 4 s) ∧ l1.length ≤ 4 ∧ St.nns l1 ≤ 170 ∧ StT M' a t1 ∧ Keep a M M') (s_if (t_eq ⟨_, hr⟩ (e_call C__law_pick (hr.mono (by omega)) (a_cons (e_var 0 rfl (a_cons (e_var 1 rfl (a_cons (e_int (a_nil ⟨a, ns, 4, rfl, _, hp, by decide, by decide, fun c M1 h1 h1' hp1 k1 => e_int ⟨trivial, ?_⟩⟩)))))))))) ?_
  · refine ⟨fun _ => ?_, fun _ => ss_nil ⟨l, none, none, _, rfl, hl, by omega, by omega, hp1, k1⟩⟩
    refine ss_cons (s_asg 3 scope__law_deep.nd (e_call (C__law_expression 2) (hr.mono (by omega)) (a_cons (e_var 0 rfl (a_cons (e_var 1 rfl (a_cons (e_int (a_nil ⟨a, ns, 2, rfl, _, hp1, by decide, by decide, fun e M2 he hen hp2 k2 => ?_⟩)))))))))
    refine ss_cons (s_for PassesOwn.never (i_rng1 m_range (e_call C__law_pick (hr.mono (by omega)) (a_cons (e_var 0 rfl (a_cons (e_var 1 rfl (a_cons (e_int (a_nil ⟨a, ns, 34, rfl, _, hp2, by decide, by decide, fun c3 M3 h3 h3' hp3 k3 => ⟨by omega, by omega, ?_⟩⟩))))))))))
    refine ⟨fun i σ' M' => ∃ (e' : Ex) (d4 : Option D), σ' = [some (.ref a), some (.rol (ns.map D.int)), some (.tup (l.map St.d)), some e'.d, d4] ∧ EOk (2 + i) e' ∧ e'.nn ≤ 43 + i ∧ StT M' a (t0 - (e.nn : Int)) ∧ Keep a M M', ⟨e, none, rfl, he, by omega, hp3, (k1.trans k2).trans k3⟩, fun _ _ _ _ _ => trivial, ?_, ?_⟩
    · rintro i d σ' M' hd ⟨e', d4, rfl, he', hen', hp4, k4⟩
      obtain ⟨hi, rfl⟩ := rgD_get hd
      refine g_name 4 scope__law_deep.nd ?_
      refine ss_one (s_asg 3 scope__law_deep.nd (e_tup (a_cons (e_ix (e_lst (a_cons (e_str (a_cons (e_str (a_cons (e_str (a_cons (e_str (a_nil ⟨by show 4 ≤ sizeLine; decide, fun p5 M5 f5 e5 l5 => e_call C__law_pick (hr.mono (by omega)) (a_cons (e_var 0 rfl (a_cons (e_var 1 rfl (a_cons (e_int (a_nil ⟨a, ns, 4, rfl, _, hp4.le l5, by decide, by decide, fun c6 M6 h6 h6' hp6 k6 => ?_⟩)))))))⟩))))))))))))))
      obtain ⟨y, hy, _⟩ := atI_lt (xs := [D.str "not", .str "some", .str "box", .str "unbox"]) h6 (by show _ < ((4 : Nat) : Int); omega)
      have hym := atI_mem hy
      obtain ⟨wd, hwd, rfl⟩ : ∃ wd, wd ∈ unW ∧ y = .str wd := by
        simp only [List.mem_cons, List.not_mem_nil, or_false] at hym
        rcases hym with rfl | rfl | rfl | rfl
        · exact ⟨"not", by decide +kernel, rfl⟩
        · exact ⟨"some", by decide +kernel, rfl⟩
        · exact ⟨"box", by decide +kernel, rfl⟩
        · exact ⟨"unbox", by decide +kernel, rfl⟩
      refine ⟨_, _, k6 _ _ (hp4.apart f5) e5, hy, a_cons (e_var 3 rfl (a_nil ⟨by show 2 ≤ sizeLine; decide, ?_⟩))⟩
      exact ⟨.un wd e', _, by simp only [Ex.d]; rfl, by rw [show 2 + (i + 1) = (2 + i) + 1 by omega]; exact .un hwd he', by simp only [Ex.nn]; omega, hp6, (k4.to l5).trans k6⟩
    rintro σ' M' ⟨e', d4, rfl, he', hen', hp4, k4⟩
    rw [rgD_length] at he' hen'
    refine ss_one (s_asg 2 scope__law_deep.nd (e_add (e_var 2 rfl (e_tup (a_cons (e_tup (a_cons (e_str (a_cons (e_var 3 rfl (a_nil ⟨by show 2 ≤ sizeLine; decide, a_nil ⟨by show 1 ≤ sizeLine; decide, szM (by rw [List.length_map]; show _ + 1 ≤ _; omega), ?_⟩⟩)))))))))))
    have hs : St.nns (l ++ [.act "do" e']) = St.nns l + (1 + e'.nn) := by rw [St.nns_app]; simp only [St.nn]
    exact ⟨l ++ [.act "do" e'], _, _, _, by rw [List.map_append, List.map_cons, List.map_nil]; simp only [St.d]; rfl, fun y hy => (List.mem_append.mp hy).elim (hl y) (fun z => by simp at z; subst z; exact .act (by decide +kernel) (he'.mono (by omega))), by simp; omega, by omega, hp4, k4⟩
  rintro σ' M1 ⟨l1, d3, d4, t1, rfl, hl1, hll1, hn1, hp1, k1⟩
  refine ss_cut (fun σ' M' => ∃ (l1 : List St) (d3 d4 : Option D) (t1 : Int), σ' = [some (.ref a), some (.rol (ns.map D.int)), some (.tup (l1.map St.d)), d3, d4] ∧ (∀ s ∈ l1, SOk 15 s) ∧ l1.length ≤ 5 ∧ St.nns l1 ≤ 200 ∧ StT M' a t1 ∧ Keep a M M') (s_if (t_eq ⟨_, hr⟩ (e_call C__law_pick (hr.mono (by omega)) (a_cons (e_var 0 rfl (a_cons (e_var 1 rfl (a_cons (e_int (a_nil ⟨a, ns, 6, rfl, _, hp1, by decide, by decide, fun c M3 h3 h3' hp3 k3 => e_int ⟨trivial, ?_⟩⟩)))))))))) ?_
  · refine ⟨fun _ => ?_, fun _ => ss_nil ⟨l1, d3, d4, _, rfl, fun s hs => (hl1 s hs).mono (by omega), by omega, by omega, hp3, k1.trans k3⟩⟩
    refine ss_one (s_for PassesOwn.never (i_rng1 m_range (e_call C__law_pick (hr.mono (by omega)) (a_cons (e_var 0 rfl (a_cons (e_var 1 rfl (a_cons (e_int (a_nil ⟨a, ns, 12, rfl, _, hp3, by decide, by decide, fun c4 M4 h4 h4' hp4 k4 => ⟨by omega, by omega, ?_⟩⟩))))))))))
    refine ⟨fun i σ' M' => ∃ (l' : List St) (d4 : Option D), σ' = [some (.ref a), some (.rol (ns.map D.int)), some (.tup (l'.map St.d)), d3, d4] ∧ (∀ s ∈ l', SOk (4 + i) s) ∧ l'.length ≤ 5 ∧ St.nns l' ≤ 170 + 2 * i ∧ M' = M4, ⟨l1, d4, rfl, hl1, by omega, by omega, rfl⟩, fun _ _ _ _ _ => trivial, ?_, ?_⟩
    · rintro i d σ' M' hd ⟨l', d4, rfl, ok, h5, hs, rfl⟩
      obtain ⟨hi, rfl⟩ := rgD_get hd
      refine g_name 4 scope__law_deep.nd ?_
      refine ss_one (s_asg 2 scope__law_deep.nd (e_tup (a_cons (e_tup (a_cons (e_str (a_cons (e_tup (a_cons (e_str (a_cons (e_bl (a_nil ⟨by show 2 ≤ sizeLine; decide, a_cons (e_var 2 rfl (a_nil ⟨by show 3 ≤ sizeLine; decide, a_nil ⟨by show 1 ≤ sizeLine; decide, ?_⟩⟩))⟩)))))))))))))
      refine ⟨[.whl (.bool true) l'], _, by simp only [List.map_cons, List.map_nil, St.d, Ex.d, St.ds_map]; rfl, fun s hs => ?_, by simp, by simp only [St.nns, St.nn, Ex.nn]; omega, rfl⟩
      rw [List.mem_singleton] at hs
      subst hs
      exact .whl (.bool true) h5 ok
    · rintro σ' M' ⟨l', d4, rfl, ok, h5, hs, rfl⟩
      rw [rgD_length] at ok hs
      exact ⟨l', d3, d4, _, rfl, fun s hs => (ok s hs).mono (by omega), by omega, by omega, hp4, (k1.trans k3).trans k4⟩
  rintro σ' M2 ⟨l2, d3', d4', t2, rfl, hl2, hll2, hn2, hp2, k2⟩
  refine ss_cut (fun σ' M' => ∃ (l1 : List St) (d3 d4 : Option D) (t1 : Int), σ' = [some (.ref a), some (.rol (ns.map D.int)), some (.tup (l1.map St.d)), d3, d4] ∧ (∀ s ∈ l1, SOk 15 s) ∧ l1.length ≤ 15 ∧ St.nns l1 ≤ 700 ∧ StT M' a t1 ∧ Keep a M M') (s_if (t_eq ⟨_, hr⟩ (e_call C__law_pick (hr.mono (by omega)) (a_cons (e_var 0 rfl (a_cons (e_var 1 rfl (a_cons (e_int (a_nil ⟨a, ns, 6, rfl, _, hp2, by decide, by decide, fun c M3 h3 h3' hp3 k3 => e_int ⟨trivial, ?_⟩⟩)))))))))) ?_
  · refine ⟨fun _ => ?_, fun _ => ss_nil ⟨l2, d3', d4', _, rfl, hl2, by omega, by omega, hp3, k2.trans k3⟩⟩
    refine ss_one (s_asg 2 scope__law_deep.nd (e_rep (e_var 2 rfl (e_add (e_int (e_call C__law_pick (hr.mono (by omega)) (a_cons (e_var 0 rfl (a_cons (e_var 1 rfl (a_cons (e_int (a_nil ⟨a, ns, 3, rfl, _, hp3, by decide, by decide, fun c4 M4 h4 h4' hp4 k4 => ?_⟩)))))))))))))
    refine ⟨_, (1 + c4).toNat, rfl, by rw [Int.toNat_of_nonneg (by omega)], by omega, by omega, by rw [List.length_map]; omega, ?_⟩
    have hk : (1 + c4).toNat ≤ 3 := by omega
    rw [map_rep]
    refine ⟨(List.replicate (1 + c4).toNat l2).flatten, _, _, _, rfl, fun s hs => hl2 s (mem_rep hs), ?_, ?_, hp4, (k2.trans k3).trans k4⟩
    · rw [len_rep]
      have := Nat.mul_le_mul hk hll2
      omega
    · rw [nns_rep]
      have := Nat.mul_le_mul hk hn2
      omega
  rintro σ' M3 ⟨l3, d3'', d4'', t3, rfl, hl3', hll3, hn3, hp3, k3⟩
  exact ss_one (s_ret (e_var 2 rfl (Wk.here (q l3 t3 M3 hl3' hll3 hn3 hp3 k3))))
def spPgm : Sp3 := fun ds M Q => ∃ (a : Addr) (ns : List Int), ds = [.ref a, .rol (ns.map D.int)] ∧ ∃ t0 : Int, StT M a t0 ∧ ∀ rs us t' M', PrOk rs us → StT M' a t' → Keep a M M' → Q (progD rs us) M'
theorem ok_pgm (F : Fun K "_law_program" "_law_program" st__law_program f fd) (b : Binds K fd ["_law_state", "_law_script"] []) (g : mg "_law_program" = some (.ref f)) (m_range : mg "range" = none) (m_tuple : mg "tuple" = none)
    (C__law_pick : Callee P w K mg base "_law_pick" 1 ["_law_state", "_law_script", "_law_many"] spPick)
    (C__law_big : Callee P w K mg base "_law_big" 2 ["_law_state", "_law_script"] spBig)
    (C__law_fields : Callee P w K mg base "_law_fields" 6 ["_law_state", "_law_script", "_law_many"] spFlds)
    (C__law_function : Callee P w K mg base "_law_function" 7 ["_law_state", "_law_script", "_law_block_here"] spFun)
    (C__law_block : Callee P w K mg base "_law_block" 18 ["_law_state", "_law_script", "_law_room", "_law_many"] (spBlk 4))
    (C__law_deep : Callee P w K mg base "_law_deep" 8 ["_law_state", "_law_script", "_law_block_here"] spDeep) :
    Callee P w K mg base "_law_program" 19 ["_law_state", "_law_script"] spPgm := by
  refine callee F scope__law_program g b (fun ds M Q ⟨_, _, e, _⟩ => by rw [e]; rfl) (fun cdv A outer s H E hr ds M Q ⟨a, ns, e, t0, hp, q⟩ => ?_)
  subst e
  refine ss_cons (s_asg 2 scope__law_program.nd (e_lst (a_nil ⟨by show 0 ≤ sizeLine; decide, fun p M2 f2 e2 l2 => ?_⟩)))
  have np := hp.apart f2
  refine ss_cons (s_for PassesOwn.never (i_rng1 m_range (e_call C__law_pick (hr.mono (by omega)) (a_cons (e_var 0 rfl (a_cons (e_var 1 rfl (a_cons (e_int (a_nil ⟨a, ns, 3, rfl, _, hp.le l2, by decide, by decide, fun c M3 h3 h3' hp3 k3 => ⟨by omega, by omega, ?_⟩⟩))))))))))
  refine ⟨fun i σ' M' => ∃ (l : Rw) (d3 : Option D), σ' = [some (.ref a), some (.rol (ns.map D.int)), some (.ref p), d3, none, none] ∧ M' p = some (.lst (l.map rowD)) ∧ l.length = i ∧ (∀ r ∈ l, Rc r) ∧ StT M' a t0 ∧ Keep a M M',
    ⟨[], none, rfl, k3 _ _ np e2, rfl, (fun _ h => nomatch h), hp3, l2.keep.trans k3⟩, fun _ _ _ _ _ => trivial, ?_, ?_⟩
  · rintro i d σ' M' hd ⟨l, d3, rfl, el, hl, ok, hp4, k4⟩
    obtain ⟨hi, rfl⟩ := rgD_get hd
    refine g_name 3 scope__law_program.nd ?_
    refine ss_one (s_expr (e_lm PySem.F.slot_list_append PySem.F.type_list_append mt_append rd_app (e_var 2 rfl ⟨⟨_, el⟩, a_cons (e_tup (a_cons (e_call C__law_big (hr.mono (by omega)) (a_cons (e_var 0 rfl (a_cons (e_var 1 rfl (a_nil ⟨a, ns, rfl, _, hp4, fun x M5 hx hp5 k5 => ?_⟩))))))))⟩)))
    refine a_cons (e_call C__law_fields (hr.mono (by omega)) (a_cons (e_var 0 rfl (a_cons (e_var 1 rfl (a_cons (e_add (e_int (e_call C__law_pick (hr.mono (by omega)) (a_cons (e_var 0 rfl (a_cons (e_var 1 rfl (a_cons (e_int (a_nil ⟨a, ns, 7, rfl, _, hp5, by decide, by decide, fun c6 M6 h6 h6' hp6 k6 => a_nil ⟨a, ns, (1 + c6).toNat, by rw [Int.toNat_of_nonneg (by omega)], _, hp6, by omega, fun fs M7 hfl hfs hp7 k7 => a_nil ⟨by show 2 ≤ sizeLine; decide, a_nil ⟨_, k7 _ _ np (k6 _ _ np (k5 _ _ np el)), szlt (by rw [List.length_map]; omega), fun M8 e8 k8 => ?_⟩⟩⟩⟩))))))))))))))))
    exact ⟨l ++ [(x, fs)], _, rfl, by rw [e8]; simp [rowD], by simp [hl], fun y hy => (List.mem_append.mp hy).elim (ok y) (fun z => by simp at z; subst z; exact ⟨hx, hfs, by show 1 ≤ fs.length; omega, by show fs.length ≤ 7; omega⟩), hp7.keep k8 np, (((k4.trans k5).trans k6).trans k7).other k8 f2⟩
  rintro σ' M4 ⟨rs, d3, rfl, el, hl, okr, hp4, k4⟩
  rw [rgD_length] at hl
  refine ss_cons (s_asg 4 scope__law_program.nd (e_lst (a_nil ⟨by show 0 ≤ sizeLine; decide, fun p5 M5 f5 e5 l5 => ?_⟩)))
  have np5 := hp4.apart f5
  refine ss_cons (s_for PassesOwn.never (i_rng1 m_range (e_call C__law_pick (hr.mono (by omega)) (a_cons (e_var 0 rfl (a_cons (e_var 1 rfl (a_cons (e_int (a_nil ⟨a, ns, 3, rfl, _, hp4.le l5, by decide, by decide, fun c6 M6 h6 h6' hp6 k6 => ⟨by omega, by omega, ?_⟩⟩))))))))))
  have n5p : p5 ≠ p := fun h => by rw [h, el] at f5; cases f5
  have f5' : M p5 = none := k4.fresh hp4.some f5
  refine ⟨fun i σ' M' => ∃ (l : List (Fu × List St)) (d3 d5 : Option D) (t : Int), σ' = [some (.ref a), some (.rol (ns.map D.int)), some (.ref p), d3, some (.ref p5), d5] ∧ M' p5 = some (.lst (l.map fsD)) ∧ l.length = i ∧ (∀ r ∈ l, FsOk r) ∧ StT M' a t ∧ M' p = some (.lst (rs.map rowD)) ∧ Keep a M M',
    ⟨[], d3, none, _, rfl, k6 _ _ np5 e5, rfl, (fun _ h => nomatch h), hp6, k6 _ _ np (l5.at el), (k4.to l5).trans k6⟩, fun _ _ _ _ _ => trivial, ?_, ?_⟩
  · rintro i d σ' M' hd ⟨l, d3, d5, t, rfl, el5, hl5, ok, hp7, elp, k7⟩
    obtain ⟨hi, rfl⟩ := rgD_get hd
    refine g_name 3 scope__law_program.nd ?_
    obtain ⟨x1, x2, x3, ex, hx1, hx2, hx3, hx4⟩ := id hp7
    refine ss_cons (s_asgG (e_int (g_sub (e_var 0 rfl (e_int ⟨_, _, ex, rfl, fun M8 e8 k8 => ?_⟩)))))
    have hp8 : StT M8 a 7 := ⟨_, _, _, e8, hx1, hx2, hx3, hx4⟩
    refine ss_cons (s_asg 5 scope__law_program.nd (e_call C__law_deep (hr.mono (by omega)) (a_cons (e_var 0 rfl (a_cons (e_var 1 rfl (a_cons (e_call C__law_block (hr.mono (by omega)) (a_cons (e_var 0 rfl (a_cons (e_var 1 rfl (a_cons (e_int (a_cons (e_int (a_nil ⟨a, ns, 4, 4, rfl, _, hp8, by decide, by decide, by decide, by decide, fun bl M9 hb hbl hbn hp9 k9 => a_nil ⟨a, ns, bl, rfl, _, hp9, by omega, hb, by omega, (by have e7 : ((7 : Int) - 1).toNat = 6 := rfl; rw [e7] at hbn; omega), fun es t' M10 he hel hen hp10 k10 => ?_⟩⟩)))))))))))))))))
    have K10 := (k8.trans k9).trans k10
    refine ss_one (s_expr (e_lm PySem.F.slot_list_append PySem.F.type_list_append mt_append rd_app (e_var 4 rfl ⟨⟨_, K10 _ _ np5 el5⟩, a_cons (e_call C__law_function (hr.mono (by omega)) (a_cons (e_var 0 rfl (a_cons (e_var 1 rfl (a_cons (e_var 5 rfl (a_nil ⟨a, ns, es.map St.d, rfl, _, hp10, fun x M11 hx hp11 k11 => a_nil ⟨_, k11 _ _ np5 (K10 _ _ np5 el5), szlt (by rw [List.length_map]; omega), fun M12 e12 k12 => ?_⟩⟩))))))))⟩)))
    exact ⟨l ++ [(x, es)], _, _, _, rfl, by rw [e12]; simp [fsD], by simp [hl5], fun y hy => (List.mem_append.mp hy).elim (ok y) (fun z => by simp at z; subst z; exact ⟨hx, he, hen, by show es.length ≤ 1000; omega⟩), hp11.keep k12 np5, k12 _ _ (Ne.symm n5p) (k11 _ _ np (K10 _ _ np elp)), ((k7.trans K10).trans k11).other k12 f5'⟩
  rintro σ' M7 ⟨us, d3, d5, t, rfl, el5, hl5, oku, hp7, elp, k7⟩
  rw [rgD_length] at hl5
  exact ss_one (s_ret (e_tup (a_cons (e_tuplec m_tuple (a_cons (e_var 2 rfl (a_nil ⟨_, elp, a_cons (e_tuplec m_tuple (a_cons (e_var 4 rfl (a_nil ⟨_, el5, a_nil ⟨by show 2 ≤ sizeLine; decide, Wk.here (q rs us _ M7 ⟨by omega, by omega, okr, oku⟩ hp7 k7)⟩⟩))))⟩)))))))
end
end My
set_option maxHeartbeats 4000000
namespace My
open PySem L2 DL
section
variable {P : Program} {w : World} {K : PySem.W.Frag} {mg : Str → Option Value} {base : Heap} {f : Addr} {fd : FuncData} {C T : Addr}
def spPm {β : Type} (okB : β → Prop) (rawB : β → List Str) (dvB : β → D) (C T : Addr) : Sp3 := fun ds M Q => ∃ (E : Pr) (rs : Rw) (us : List (Fu × β)), ds = [.ref E.p] ∧ rs.length ≤ 1000 ∧ us.length ≤ 1000 ∧ (∀ r ∈ rs, Rc r) ∧ (∀ x ∈ us, FuOk x.1 ∧ okB x.2) ∧
  PT C T E M (kwL "record" (rs.map rcTl) ++ (kwL "fn" (us.map (fnTl rawB)) ++ [("" : Str)])) ∧ ∀ M', Keep E.p M M' → Q (.tup [.tup (rs.map rowD), .tup (us.map (fnD dvB))]) M'
theorem ok_pm {β : Type} {okB : β → Prop} {rawB : β → List Str} {dvB : β → D} {kF : Nat} (hkF : 10 ≤ kF) (cp : PCls K C) (cT : TCls K T) (F : Fun K "parse_program" "Parser.parse_program" st_Parser_parse_program f fd) (b : Binds K fd ["self"] []) (Mm : Meth K C "parse_program" f) (m_tuple : mg "tuple" = none)
    (C_token : CalleeM P w K mg base C "token" 1 ["self"] (spToken C T)) (C_takes : CalleeM P w K mg base C "takes" 3 ["self", "text"] (spTakes C T)) (C_record : CalleeM P w K mg base C "parse_record" 10 ["self"] (spItem C T Rc rcTl rowD))
    (C_function : CalleeM P w K mg base C "parse_function" kF ["self"] (spItem C T (fun x : Fu × β => FuOk x.1 ∧ okB x.2) (fnTl rawB) (fnD dvB))) :
    CalleeM P w K mg base C "parse_program" (kF + 1) ["self"] (spPm okB rawB dvB C T) := by
  refine ⟨f, fd, fn3 F scope_Parser_parse_program (fun ds M Q ⟨_, _, _, e, _⟩ => by rw [e]; rfl) (fun cdv A outer sh H E' hr ds M Q ⟨E, rs, us, e, hrl, hul, hrs, hus, hp, q⟩ => ?_), Mm, b⟩
  subst e
  refine ss_cons (s_asg 1 scope_Parser_parse_program.nd (e_lst (a_nil ⟨by show 0 ≤ sizeLine; decide, fun q1 M1 f1 e1 l1 => ?_⟩)))
  obtain ⟨o1, o2⟩ := hp.out f1
  obtain ⟨c, cr, ec, hc⟩ : ∃ c cr, kwL "fn" (us.map (fnTl rawB)) ++ [("" : Str)] = c :: cr ∧ c ≠ "record" := by
    cases us with
    | nil => exact ⟨"", [], rfl, by decide +kernel⟩
    | cons u us => exact ⟨"fn", _, rfl, by decide +kernel⟩
  have hp1 := hp.le l1
  rw [ec] at hp1
  refine ss_cons (s_rep (by decide +kernel) 1 rcTl rowD c cr [] rs cp C_takes (hr.mono (by omega)) rfl rfl hc f1 o1 o2 l1.keep e1 hp1 (by simp; omega) (fun a ha M8 ts8 Q8 hp8 hq8 => e_item cp C_record (hr.mono (by omega)) rfl (hrs a ha) hp8 hq8) (fun M2 e2 hp2 k2 => ?_) PassesOwn.never)
  rw [← ec] at hp2
  refine ss_cons (s_asg 2 scope_Parser_parse_program.nd (e_lst (a_nil ⟨by show 0 ≤ sizeLine; decide, fun q3 M3 f3 e3 l3 => ?_⟩)))
  obtain ⟨o3, o4⟩ := hp2.out f3
  have n13 : q1 ≠ q3 := mne e2 f3
  refine ss_cons (s_rep (M0 := M2) (by decide +kernel) 2 (fnTl rawB) (fnD dvB) "" [] [] us cp C_takes (hr.mono (by omega)) rfl rfl (by decide +kernel) f3 o3 o4 l3.keep e3 (hp2.le l3) (by simp; omega) (fun a ha M8 ts8 Q8 hp8 hq8 => e_item cp C_function hr rfl (hus a ha) hp8 hq8) (fun M4 e4 hp4 k4 => ?_) PassesOwn.never)
  obtain ⟨n, eo, _⟩ := hp4.ob
  refine ss_if (t_ne ⟨_, hr⟩ (e_fld (e_meth0 cp.cl C_token (hr.mono (by omega)) (e_var 0 rfl ⟨E.p, E.dx, _, rfl, eo, pf_no (by decide +kernel) (by decide +kernel), E, "", [], rfl, hp4, fun a dx tk ea ht hf => ⟨T, dx, _, _, ea, cT.cl, cT.n1, fl_form, e_str ⟨trivial, ?_⟩⟩⟩))))
  rw [eqv_str, hf, show formT "" = "end" by decide +kernel]
  refine ⟨fun h => absurd h (by simp), fun _ => ?_⟩
  have e2' := k4.at o2 e2
  exact ss_one (s_ret (e_tup (a_cons (e_tuplec m_tuple (a_cons (e_var 1 rfl (a_nil ⟨_, e2', a_cons (e_tuplec m_tuple (a_cons (e_var 2 rfl (a_nil ⟨_, e4, a_nil ⟨by show 2 ≤ sizeLine; decide, Wk.here (q M4 (k2.trans k4))⟩⟩))))⟩)))))))
def spPInit (C T : Addr) : Sp3 := fun ds M Q => ∃ (p dx : Addr) (x : Str) (toks : List Tok), ds = [.ref p, .str x] ∧ M p = some (.ins C dx []) ∧ x.length ≤ 16000000 ∧ Lex (Ls x) 1 1 toks ∧ (∀ tk ∈ toks, tk.form = formT tk.text) ∧
  ∀ lt ads M', PT C T ⟨p, dx, lt, ads, toks⟩ M' (toks.map (·.text)) → Keep p M M' → Q .non M'
theorem ok_pinit (cp : PCls K C) (F : Fun K "__init__" "Parser.__init__" st_Parser___init__ f fd) (b : Binds K fd ["self", "text"] []) (Mm : Mk K C f) (gC : mg "Parser" = some (.ref C)) (C_tokens_of : Callee P w K mg base "tokens_of" 5 ["text"] (spToks T)) :
    CalleeI P w K mg base "Parser" C 6 ["self", "text"] (spPInit C T) := by
  refine ⟨f, fd, fn3 F scope_Parser___init__ (fun ds M Q ⟨_, _, _, _, e, _⟩ => by rw [e]; rfl) (fun cdv A outer sh H E' hr ds M Q ⟨p, dx, x, toks, e, em, hx, hL, hfm, q⟩ => ?_), Mm, b, gC⟩
  subst e
  refine ss_cons (s_fld (e_call C_tokens_of hr (a_cons (e_var 1 rfl (a_nil ⟨x, toks, rfl, hx, hL, fun lt ads M2 f2 e2 ht l2 => e_var 0 rfl ⟨C, dx, [], l2.at em, cp.cl, cp.n1, by decide, fun M3 e3 k3 => ?_⟩⟩)))))
  have nlp : lt ≠ p := Ne.symm (mne em f2)
  refine ss_one (s_fld (e_int (e_var 0 rfl ⟨C, dx, _, e3, cp.cl, cp.n2, by show 1 < 1000; decide, fun M4 e4 k4 => ?_⟩)))
  have k34 := k3.trans k4
  refine Wk.here (q lt ads M4 ⟨⟨0, by rw [e4]; rfl, rfl⟩, k34.at nlp e2, ht.kept k34 (fun dx' tk hh => ?_), hfm⟩ (l2.keep.trans k34))
  rw [l2.at em] at hh
  have h1 : [] = tokF tk := by injection hh with hh; injection hh
  cases h1
def spParse {β : Type} (okB : β → Prop) (rawB : β → List Str) (dvB : β → D) : Sp3 := fun ds M Q => ∃ (x : Str) (toks : List Tok) (rs : Rw) (us : List (Fu × β)), ds = [.str x] ∧ x.length ≤ 16000000 ∧ Lex (Ls x) 1 1 toks ∧ (∀ tk ∈ toks, tk.form = formT tk.text) ∧
  rs.length ≤ 1000 ∧ us.length ≤ 1000 ∧ (∀ r ∈ rs, Rc r) ∧ (∀ x ∈ us, FuOk x.1 ∧ okB x.2) ∧ toks.map (·.text) = kwL "record" (rs.map rcTl) ++ (kwL "fn" (us.map (fnTl rawB)) ++ [("" : Str)]) ∧ ∀ M', Mle M M' → Q (.tup [.tup (rs.map rowD), .tup (us.map (fnD dvB))]) M'
theorem ok_parse {β : Type} {okB : β → Prop} {rawB : β → List Str} {dvB : β → D} {kP : Nat} (hkP : 10 ≤ kP) (cp : PCls K C) (F : Fun K "parse_program" "parse_program" st_parse_program f fd) (b : Binds K fd ["text"] []) (g : mg "parse_program" = some (.ref f))
    (C_Parser : CalleeI P w K mg base "Parser" C 6 ["self", "text"] (spPInit C T)) (C_pm : CalleeM P w K mg base C "parse_program" kP ["self"] (spPm okB rawB dvB C T)) :
    Callee P w K mg base "parse_program" (kP + 1) ["text"] (spParse okB rawB dvB) := by
  refine callee F scope_parse_program g b (fun ds M Q ⟨_, _, _, _, e, _⟩ => by rw [e]; rfl) (fun cdv A outer s H E hr ds M Q ⟨x, toks, rs, us, e, hx, hL, hfm, hrl, hul, hrs, hus, htx, q⟩ => ?_)
  subst e
  refine ss_one (s_ret (e_meth0 cp.cl C_pm hr (e_make C_Parser (hr.mono (by omega)) (a_cons (e_var 0 rfl (a_nil fun p dx M1 f1 f2 ne e1 e2 l1 => ⟨p, dx, x, toks, rfl, e1, hx, hL, hfm, fun lt ads M2 pt k2 => ⟨rfl, p, dx, _, rfl, pt.ob.choose_spec.1, pf_no (by decide +kernel) (by decide +kernel), ⟨p, dx, lt, ads, toks⟩, rs, us, rfl, hrl, hul, hrs, hus, by rw [← htx]; exact pt, fun M3 k3 => Wk.here (q M3 (l1.other (k2.trans k3) f1))⟩⟩))))))
end
section
variable {P : Program} {w : World} {K : PySem.W.Frag} {mg : Str → Option Value} {base : Heap} {f : Addr} {fd : FuncData}
def spSame (n : Nat) : Sp3 := fun ds M Q => ∃ d : D, ds = [d, d] ∧ SimD n d ∧ Q (.bl true) M
theorem ok_same (F : Fun K "_law_same" "_law_same" st__law_same f fd) (b : Binds K fd ["_law_actual", "_law_due"] []) (g : mg "_law_same" = some (.ref f)) (m_tuple : mg "tuple" = none) (m_isinstance : mg "isinstance" = none) (m_bool : mg "bool" = none) (m_int : mg "int" = none) (m_str : mg "str" = none) (m_len : mg "len" = none) (m_range : mg "range" = none) :
    ∀ n, Callee P w K mg base "_law_same" n ["_law_actual", "_law_due"] (spSame n)
  | 0 => Callee.none g F.kp b fun ds M Q ⟨d, _, h, _⟩ => nomatch h
  | n + 1 => by
    have C__law_same := ok_same F b g m_tuple m_isinstance m_bool m_int m_str m_len m_range n
    refine callee F scope__law_same g b (fun ds M Q ⟨k, e, _⟩ => by rw [e]; rfl) (fun cdv A outer s H E hr ds M Q ⟨k, e, hs, q⟩ => ?_)
    subst e
    cases hs with
    | @tup _ l hl hd =>
      refine ss_if (t_truth (e_isi m_isinstance (a_cons (e_var 1 rfl (a_cons (e_tyname (n := "tuple") m_tuple (by decide +kernel) (a_nil ⟨_, true, rfl, by decide +kernel, ?_⟩)))))))
      refine ⟨fun _ => ?_, fun h => absurd h (by decide)⟩
      refine ss_if (t_w (w_or (t_not (t_truth (e_isi m_isinstance (a_cons (e_var 0 rfl (a_cons (e_tyname (n := "tuple") m_tuple (by decide +kernel) (a_nil ⟨_, true, rfl, by decide +kernel, ?_⟩))))))))))
      refine ⟨fun h => absurd h (by decide), fun _ => w_or1 (t_ne ⟨_, hr⟩ (e_len m_len (a_cons (e_var 0 rfl (a_nil (e_len m_len (a_cons (e_var 1 rfl (a_nil ⟨trivial, ?_⟩)))))))))⟩
      rw [eqv_int]
      refine ⟨fun h => absurd h (by simp), fun _ => ?_⟩
      refine ss_cons (s_for PassesOwn.never (i_rng1 m_range (e_len m_len (a_cons (e_var 1 rfl (a_nil ⟨by omega, by omega, ?_⟩))))))
      refine ⟨fun i σ' M' => ∃ c, σ' = [some (.tup l), some (.tup l), c] ∧ M' = M, ⟨none, rfl, rfl⟩, fun _ _ _ _ _ => trivial, ?_, ?_⟩
      · rintro i d σ' M' hd' ⟨c, rfl, rfl⟩
        obtain ⟨hi, rfl⟩ := rgD_get hd'
        have hi' : i < l.length := by omega
        have hx : l[i]? = some l[i] := List.getElem?_eq_getElem hi'
        refine g_name 2 scope__law_same.nd ?_
        rw [Int.zero_add]
        refine ss_one (s_if (t_not (t_truth (e_call C__law_same hr (a_cons (e_ix (e_var 0 rfl (e_var 2 rfl ⟨_, atI_nat hx, a_cons (e_ix (e_var 1 rfl (e_var 2 rfl ⟨_, atI_nat hx, a_nil ⟨_, rfl, hd _ (List.mem_of_getElem? hx), ?_⟩⟩)))⟩))))))))
        exact ⟨fun h => absurd h (by decide), fun _ => ss_nil ⟨_, rfl, rfl⟩⟩
      · rintro σ' M' ⟨c, rfl, rfl⟩
        exact ss_one (s_ret (e_bl (Wk.here q)))
    | int i =>
      refine ss_if (t_truth (e_isi m_isinstance (a_cons (e_var 1 rfl (a_cons (e_tyname (n := "tuple") m_tuple (by decide +kernel) (a_nil ⟨_, false, rfl, by decide +kernel, ?_⟩)))))))
      refine ⟨fun h => absurd h (by decide), fun _ => ?_⟩
      refine ss_if (t_truth (e_isi m_isinstance (a_cons (e_var 1 rfl (a_cons (e_tyname (n := "bool") m_bool (by decide +kernel) (a_nil ⟨_, false, rfl, by decide +kernel, ?_⟩)))))))
      refine ⟨fun h => absurd h (by decide), fun _ => ?_⟩
      refine ss_if (t_truth (e_isi m_isinstance (a_cons (e_var 1 rfl (a_cons (e_tyname (n := "int") m_int (by decide +kernel) (a_nil ⟨_, true, rfl, by decide +kernel, ?_⟩)))))))
      refine ⟨fun _ => ?_, fun h => absurd h (by decide)⟩
      refine ss_one (s_ret (v_and (e_isi m_isinstance (a_cons (e_var 0 rfl (a_cons (e_tyname (n := "int") m_int (by decide +kernel) (a_nil ⟨_, true, rfl, by decide +kernel, ?_⟩))))))))
      refine ⟨fun _ => ?_, fun h => absurd h (by decide)⟩
      refine v_and (v_not (e_isi m_isinstance (a_cons (e_var 0 rfl (a_cons (e_tyname (n := "bool") m_bool (by decide +kernel) (a_nil ⟨_, false, rfl, by decide +kernel, ?_⟩)))))))
      refine ⟨fun _ => ?_, fun h => absurd h (by decide)⟩
      refine v_one (e_eq ⟨_, hr⟩ (e_var 0 rfl (e_var 1 rfl ⟨trivial, ?_⟩)))
      rw [eqv_int, decide_eq_true rfl]
      exact Wk.here q
    | bl x =>
      refine ss_if (t_truth (e_isi m_isinstance (a_cons (e_var 1 rfl (a_cons (e_tyname (n := "tuple") m_tuple (by decide +kernel) (a_nil ⟨_, false, rfl, by decide +kernel, ?_⟩)))))))
      refine ⟨fun h => absurd h (by decide), fun _ => ?_⟩
      refine ss_if (t_truth (e_isi m_isinstance (a_cons (e_var 1 rfl (a_cons (e_tyname (n := "bool") m_bool (by decide +kernel) (a_nil ⟨_, true, rfl, by decide +kernel, ?_⟩)))))))
      refine ⟨fun _ => ?_, fun h => absurd h (by decide)⟩
      refine ss_one (s_ret (v_and (e_isi m_isinstance (a_cons (e_var 0 rfl (a_cons (e_tyname (n := "bool") m_bool (by decide +kernel) (a_nil ⟨_, true, rfl, by decide +kernel, ?_⟩))))))))
      refine ⟨fun _ => ?_, fun h => absurd h (by decide)⟩
      refine v_one (e_eq ⟨_, hr⟩ (e_var 0 rfl (e_var 1 rfl ⟨trivial, ?_⟩)))
      rw [eqv_bl, decide_eq_true rfl]
      exact Wk.here q
    | str x =>
      refine ss_if (t_truth (e_isi m_isinstance (a_cons (e_var 1 rfl (a_cons (e_tyname (n := "tuple") m_tuple (by decide +kernel) (a_nil ⟨_, false, rfl, by decide +kernel, ?_⟩)))))))
      refine ⟨fun h => absurd h (by decide), fun _ => ?_⟩
      refine ss_if (t_truth (e_isi m_isinstance (a_cons (e_var 1 rfl (a_cons (e_tyname (n := "bool") m_bool (by decide +kernel) (a_nil ⟨_, false, rfl, by decide +kernel, ?_⟩)))))))
      refine ⟨fun h => absurd h (by decide), fun _ => ?_⟩
      refine ss_if (t_truth (e_isi m_isinstance (a_cons (e_var 1 rfl (a_cons (e_tyname (n := "int") m_int (by decide +kernel) (a_nil ⟨_, false, rfl, by decide +kernel, ?_⟩)))))))
      refine ⟨fun h => absurd h (by decide), fun _ => ?_⟩
      refine ss_one (s_ret (v_and (e_isi m_isinstance (a_cons (e_var 0 rfl (a_cons (e_tyname (n := "str") m_str (by decide +kernel) (a_nil ⟨_, true, rfl, by decide +kernel, ?_⟩))))))))
      refine ⟨fun _ => ?_, fun h => absurd h (by decide)⟩
      refine v_one (e_eq ⟨_, hr⟩ (e_var 0 rfl (e_var 1 rfl ⟨trivial, ?_⟩)))
      rw [eqv_str, decide_eq_true rfl]
      exact Wk.here q
end
theorem ixl {α : Type} (l : List α) (c : α) : atI (l ++ [c]) (-1) = some c := by
  unfold atI
  have h : ixN (l ++ [c]).length (-1) = some l.length := by
    unfold ixN
    rw [if_neg (by decide), List.length_append]
    show (if -(((l.length + 1 : Nat) : Int)) ≤ -1 then some (((l.length + 1 : Nat) : Int) + -1).toNat else none) = some l.length
    rw [if_pos (by omega)]
    congr 1
    omega
  rw [h]
  show (l ++ [c])[l.length]? = some c
  simp
theorem tS_snoc (L : List (Nat × List Str)) (q : Nat × List Str) : ∃ y, tS (L ++ [q]) = y ++ "\n" := by
  refine ⟨tS L ++ (mulS "    " q.1 ++ lineS q.2), ?_⟩
  unfold tS
  rw [List.map_append, List.map_cons, List.map_nil]
  have key : ∀ (l : List Str) (x : Str), Str.join "" (l ++ [x]) = Str.join "" l ++ x := joinE_snoc
  rw [key, txS]
  simp only [Str.append_assoc]
theorem progR_nil {rs : Rw} {us : List (Fu × List St)} : progR rs us = [] ↔ rs = [] ∧ us = [] := by
  unfold progR
  constructor
  · intro h
    obtain ⟨h1, h2⟩ := List.append_eq_nil_iff.mp h
    refine ⟨List.map_eq_nil_iff.mp h1, ?_⟩
    cases us with
    | nil => rfl
    | cons y us =>
      rw [List.map_cons, List.flatten_cons] at h2
      have := (List.append_eq_nil_iff.mp h2).1
      simp [fsR15, pgR] at this
  · rintro ⟨rfl, rfl⟩
    rfl
/-- the text is empty, or ends with a newline -/
theorem prS_end {rs : Rw} {us : List (Fu × List St)} (h : PrOk rs us) : (rs = [] ∧ us = [] ∧ prS rs us = "") ∨ (¬ (rs = [] ∧ us = []) ∧ ∃ y, prS rs us = y ++ "\n") := by
  rw [← prog_txt h]
  by_cases h0 : progR rs us = []
  · obtain ⟨h1, h2⟩ := progR_nil.mp h0
    exact .inl ⟨h1, h2, by rw [h0]; rfl⟩
  · refine .inr ⟨fun h => h0 (progR_nil.mpr h), ?_⟩
    rw [← List.dropLast_concat_getLast h0]
    exact tS_snoc _ _
theorem prS_len {rs : Rw} {us : List (Fu × List St)} (h : PrOk rs us) : (prS rs us).length ≤ 6000000 := by
  have h1 := prL_sum h
  have h2 := prL_len h
  have key : ∀ l : List Str, (Str.join "" l).length = (l.map (·.length)).sum := by
    intro l
    induction l with
    | nil => rfl
    | cons x r ih => rw [joinE_cons, str_len_app, ih, List.map_cons, List.sum_cons]
  unfold prS
  rw [key, nl_sum]
  omega
theorem progR_ne {rs : Rw} {us : List (Fu × List St)} (h : PrOk rs us) : ∀ q ∈ progR rs us, q.2 ≠ [] := fun q hq => by
  unfold progR at hq
  rcases List.mem_append.mp hq with hq | hq
  · obtain ⟨r, _, rfl⟩ := List.mem_map.mp hq
    simp [rcR]
  · obtain ⟨l, hl, hq⟩ := List.mem_flatten.mp hq
    obtain ⟨y, hy, rfl⟩ := List.mem_map.mp hl
    simp only [fsR15, pgR, List.mem_cons, List.mem_append, List.not_mem_nil, or_false] at hq
    rcases hq with rfl | hq | rfl
    · simp
    · exact (rss_ln y.2 (h.fs y hy).st q hq).1
    · simp
/-- what tokens_of makes of the written text -/
theorem prS_lex {rs : Rw} {us : List (Fu × List St)} (h : PrOk rs us) : ∃ toks, Lex (Ls (prS rs us)) 1 1 toks ∧ (∀ tk ∈ toks, tk.form = formT tk.text) ∧ toks.map (·.text) = kwL "record" (rs.map rcTl) ++ (kwL "fn" (us.map (fnTl blockW)) ++ [("" : Str)]) := by
  obtain ⟨gs, G, e⟩ := rows_wv (progR rs us) " " "" (progR_ne h) blank_nil (fun _ => by decide +kernel)
  rw [nil_s, prog_txt h] at e
  have hf := prog_f h
  have hwf : ∀ t ∈ rawL (rowsT (progR rs us)), WfT t := fun t ht => by rw [prog_raw h] at ht; exact (hf.tk t ht).1
  obtain ⟨toks, hL, htx, hfm, _⟩ := lex_weave _ (l := 1) (c := 1) G hwf (by rw [prog_raw h]; have := hf.eq [] trivial; rwa [List.append_nil] at this)
  exact ⟨toks, by rw [← e]; exact hL, hfm, by rw [htx, prog_raw h, List.append_assoc]⟩
section
variable {P : Program} {w : World} {K : PySem.W.Frag} {mg : Str → Option Value} {base : Heap} {f : Addr} {fd : FuncData}
def spLaw : Sp3 := fun ds M Q => ∃ ns : List Int, ds = [.rol (ns.map D.int)] ∧ ∀ M', Q (.bl true) M'
theorem go_parse {rs : Rw} {us : List (Fu × List St)} (h : PrOk rs us) {M9 : Mp} {Q9 : QD} (k : ∀ M', Mle M9 M' → Q9 (progD rs us) M') : spParse (BOk 15) blockW blkD [.str (prS rs us)] M9 Q9 := by
  obtain ⟨toks, hL, hfm, htx⟩ := prS_lex h
  exact ⟨_, toks, rs, us, rfl, by have := prS_len h; omega, hL, hfm, by have := h.r2; omega, by have := h.u2; omega, h.rc, fun y hy => ⟨(h.fs y hy).ok, (h.fs y hy).ln, (h.fs y hy).st⟩, htx, fun M' l => k M' l⟩
theorem ok_law (F : Fun K "law" "law" st_law f fd) (m_isinstance : mg "isinstance" = none) (m_str : mg "str" = none) (m_len : mg "len" = none)
    (C__law_program : Callee P w K mg base "_law_program" 19 ["_law_state", "_law_script"] spPgm)
    (C_write_program : Callee P w K mg base "write_program" 110 ["program"] spWp)
    (C_parse_program : Callee P w K mg base "parse_program" 156 ["text"] (spParse (BOk 15) blockW blkD))
    (C__law_same : ∀ n, Callee P w K mg base "_law_same" n ["_law_actual", "_law_due"] (spSame n)) :
    FnOk P w K mg base CX0 157 f fd ["_law_script"] (spD K spLaw) := by
  refine fn3 F scope_law (fun ds M Q ⟨ns, e, _⟩ => by rw [e]; rfl) (fun cdv A outer s H E hr ds M Q ⟨ns, e, q⟩ => ?_)
  subst e
  refine ss_cons (s_asg 1 scope_law.nd (e_lst (a_cons (e_int (a_cons (e_int (a_cons (e_int (a_cons (e_int (a_nil ⟨by show 4 ≤ sizeLine; decide, fun a M1 f1 e1 l1 => ?_⟩)))))))))))
  have hp1 : StT M1 a 14 := ⟨0, 0, 1, e1, by decide, by decide, by decide, by decide⟩
  refine ss_cons (s_asg 2 scope_law.nd (e_call C__law_program (hr.mono (by omega)) (a_cons (e_var 1 rfl (a_cons (e_var 0 rfl (a_nil ⟨a, ns, rfl, _, hp1, fun rs us t M2 hpr hp2 k2 => ?_⟩)))))))
  refine ss_cons (s_asg 3 scope_law.nd (e_call C_write_program (hr.mono (by omega)) (a_cons (e_var 2 rfl (a_nil ⟨rs, us, rfl, hpr, fun M3 l3 => ?_⟩)))))
  have hlen := prS_len hpr
  have hend := prS_end hpr
  have hsim := prog_sim hpr
  have hgo := @go_parse rs us hpr
  generalize htx : prS rs us = tx at hlen hend hgo ⊢
  refine ss_cut (fun σ' M' => σ' = [some (.rol (ns.map D.int)), some (.ref a), some (progD rs us), some (.str tx), none] ∧ M' = M3) (s_if (t_w (w_or (t_not (t_truth (e_isi m_isinstance (a_cons (e_var 3 rfl (a_cons (e_tyname (n := "str") m_str (by decide +kernel) (a_nil ⟨_, true, rfl, by decide +kernel, ?_⟩))))))))))) ?_
  · refine ⟨fun h => absurd h (by decide), fun _ => ?_⟩
    refine w_or1 (t_w (w_and (t_ne ⟨_, hr⟩ (e_var 3 rfl (e_str ⟨trivial, ?_⟩)))))
    rw [eqv_str]
    refine ⟨fun hne => ?_, fun _ => BQ.f (ss_nil ⟨rfl, rfl⟩)⟩
    have hne : tx ≠ "" := by simpa using hne
    rcases hend with ⟨_, _, h⟩ | ⟨_, y, hy⟩
    · exact absurd h hne
    refine w_and1 (t_ne ⟨_, hr⟩ (e_ix (e_var 3 rfl (v_neg (e_int ⟨szM (by omega), 10, ?_, e_str ⟨trivial, ?_⟩⟩)))))
    · have : tx.cps.toList = y.cps.toList ++ [10] := by rw [hy]; exact ls_app y "\n"
      rw [this]
      exact ixl _ _
    · rw [eqv_str, show (⟨#[10]⟩ : Str) = "\n" by decide +kernel]
      exact ⟨fun h => absurd h (by simp), fun _ => ss_nil ⟨rfl, rfl⟩⟩
  rintro σ' M' ⟨rfl, rfl⟩
  refine ss_if (t_ne ⟨_, hr⟩ (e_eq ⟨_, hr⟩ (e_var 3 rfl (e_str ⟨trivial, e_eq ⟨_, hr⟩ (e_add (e_len m_len (a_cons (e_ix (e_var 2 rfl (e_int ⟨_, atI_hd, a_nil (e_len m_len (a_cons (e_ix (e_var 2 rfl (e_int ⟨_, atI_hd1, a_nil (e_int ⟨trivial, trivial, ?_⟩)⟩)))))⟩))))))⟩))))
  have hb : decide (tx = "") = decide ((rs.map rowD).length + (us.map fsD).length = (0 : Int)) := by
    rcases hend with ⟨rfl, rfl, h⟩ | ⟨h1, y, hy⟩
    · rw [decide_eq_true h]
      rfl
    · have ht : tx ≠ "" := fun h => by
        have := congrArg Ls (hy.symm.trans h)
        rw [ls_app] at this
        have h2 := (List.append_eq_nil_iff.mp this).2
        revert h2
        decide +kernel
      rw [decide_eq_false ht, decide_eq_false]
      rw [List.length_map, List.length_map]
      intro h
      refine h1 ⟨List.eq_nil_of_length_eq_zero (by omega), List.eq_nil_of_length_eq_zero (by omega)⟩
  rw [eqv_str, eqv_int, eqv_bl, hb]
  refine ⟨fun h => absurd h (by simp), fun _ => ?_⟩
  refine ss_cons (s_asg 4 scope_law.nd (e_call C_parse_program hr (a_cons (e_var 3 rfl (a_nil (hgo fun M4 l4 => ?_))))))
  refine ss_one (s_ret (v_and (e_call (C__law_same 118) (hr.mono (by omega)) (a_cons (e_var 4 rfl (a_cons (e_var 2 rfl (a_nil ⟨_, rfl, hsim, ⟨fun _ => ?_, fun h => absurd h (by decide)⟩⟩))))))))
  refine v_and (e_eq ⟨_, hr⟩ (e_call C_write_program (hr.mono (by omega)) (a_cons (e_var 4 rfl (a_nil ⟨rs, us, rfl, hpr, fun M5 l5 => e_var 3 rfl ⟨trivial, ?_⟩⟩)))))
  rw [htx, eqv_refl]
  refine ⟨fun _ => ?_, fun h => absurd h (by decide)⟩
  have pr0 : PrOk [] [] := ⟨by simp, by simp, fun _ h => (nomatch h), fun _ h => (nomatch h)⟩
  have hgo0 := @go_parse [] [] pr0
  exact v_one (e_call (C__law_same 118) (hr.mono (by omega)) (a_cons (e_call C_parse_program hr (a_cons (e_str (a_nil (hgo0 fun M6 l6 => a_cons (e_tup (a_cons (e_tup (a_nil ⟨by show 0 ≤ sizeLine; decide, a_cons (e_tup (a_nil ⟨by show 0 ≤ sizeLine; decide, a_nil ⟨by show 2 ≤ sizeLine; decide, a_nil ⟨_, rfl, prog_sim pr0, Wk.here (q M6)⟩⟩⟩))⟩)))))))))))
end
end My
set_option maxHeartbeats 4000000
namespace My
open PySem L2 DL
theorem exm_of {K : PySem.W.Frag} {S T : Addr} {b : Bool} (h1 : PySem.W.subIn K (.ref T) (.type "BaseException") = some true) (h2 : PySem.W.isClsIn K T = true) (h3 : PySem.W.typeIn K (.ref T) = some (.type "type")) (h4 : PySem.W.subIn K (.ref S) (.ref T) = some b) :
    PySem.W.exmOne K (.ref S) (.ref T) = some b := by
  have e1 : (PySem.W.subIn K (.ref T) (.type "BaseException") == some true) = true := by rw [h1] <;> rfl
  have e2 : ((PySem.W.clsIn K T).isSome && PySem.W.typeIn K (.ref T) == some (.type "type")) = true := by
    have h2' : (PySem.W.clsIn K T).isSome = true := h2
    rw [h2', h3] <;> rfl
  show (if (PySem.W.subIn K (.ref T) (.type "BaseException") == some true) = true then (if ((PySem.W.clsIn K T).isSome && PySem.W.typeIn K (.ref T) == some (.type "type")) = true then PySem.W.subIn K (.ref S) (.ref T) else none) else none) = some b
  rw [if_pos e1, if_pos e2]
  exact h4
theorem kcl_of {K : PySem.W.Frag} {S T : Addr} {b : Bool} (h2 : PySem.W.isClsIn K T = true) (h3 : PySem.W.typeIn K (.ref T) = some (.type "type")) (h4 : PySem.W.subIn K (.ref S) (.ref T) = some b) : PySem.W.kitCls K (.ref S) (.ref T) = some b := by
  have e2 : ((PySem.W.clsIn K T).isSome && PySem.W.typeIn K (.ref T) == some (.type "type")) = true := by
    have h2' : (PySem.W.clsIn K T).isSome = true := h2
    rw [h2', h3] <;> rfl
  show (if ((PySem.W.clsIn K T).isSome && PySem.W.typeIn K (.ref T) == some (.type "type")) = true then PySem.W.subIn K (.ref S) (.ref T) else none) = some b
  rw [if_pos e2]
  exact h4
theorem kit_yes {K : PySem.W.Frag} {S T : Addr} (h2 : PySem.W.isClsIn K T = true) (h3 : PySem.W.typeIn K (.ref T) = some (.type "type")) (h4 : PySem.W.subIn K (.ref S) (.ref T) = some true) : PySem.W.kitOne K (.ref S) (.ref T) = some true := by
  unfold PySem.W.kitOne
  split
  · rfl
  · exact kcl_of h2 h3 h4
theorem kit_no {K : PySem.W.Frag} {S T : Addr} (h2 : PySem.W.isClsIn K T = true) (h3 : PySem.W.typeIn K (.ref T) = some (.type "type")) (hs : PySem.W.subIn K (.ref S) (.ref S) = some true) (h4 : PySem.W.subIn K (.ref S) (.ref T) = some false) : PySem.W.kitOne K (.ref S) (.ref T) = some false := by
  have hne : S ≠ T := by
    rintro rfl
    rw [hs] at h4
    cases h4
  unfold PySem.W.kitOne
  rw [if_neg (by simpa using hne)]
  exact kcl_of h2 h3 h4
theorem kit_val {K : PySem.W.Frag} {S : Addr} (h : PySem.W.subIn K (.ref S) (.type "ValueError") = some true) : PySem.W.kitOne K (.ref S) (.type "ValueError") = some true := by
  unfold PySem.W.kitOne
  rw [if_neg (by simp)]
  show (if PySem.W.kitMeta "ValueError" = true then PySem.W.subIn K (.ref S) (.type "ValueError") else none) = some true
  rw [if_pos (by decide +kernel)]
  exact h
theorem all_mk {l : PySem.W.OpenLaw} {w : World} {K : PySem.W.Frag} {h : Heap} {mg : Str → Option Value} {fa f1 f2 f3 f4 f5 f6 f7 f8 f9 f10 f11 f12 f13 f14 f15 f16 f17 f18 f19 f20 f21 f22 f23 f24 f25 f26 f27 f28 f29 f30 f31 f32 f33 f34 f35 : Addr} (X : K.In h) (G : h.Ns mainGlobals mg) (hfa : mg "law" = some (.ref fa))
    {od1 an1 od2 an2 od3 an3 od4 an4 od5 an5 od6 an6 od7 an7 od8 an8 od9 an9 od10 an10 od11 an11 od12 an12 od13 an13 od14 an14 od15 an15 od16 an16 od17 an17 od18 an18 od19 an19 od20 an20 od21 an21 od22 an22 od23 an23 od24 an24 od25 an25 od26 an26 od27 an27 od28 an28 od29 an29 od30 an30 od31 an31 od32 an32 od33 an33 od34 an34 od35 an35 : Option Addr} {sl1 sl2 sl3 sl4 sl5 sl6 sl7 sl8 sl9 sl10 sl11 sl12 sl13 sl14 sl15 sl16 sl17 sl18 sl19 sl20 sl21 sl22 sl23 sl24 sl25 sl26 sl27 sl28 sl29 sl30 sl31 sl32 sl33 sl34 sl35 : Array (Option Value)} {oc1 kV1 dc1 pm1 cd1 ct1 oc2 kV2 dc2 pm2 cd2 ct2 oc3 kV3 dc3 pm3 cd3 ct3 oc4 kV4 dc4 pm4 cd4 ct4 oc5 kV5 dc5 pm5 cd5 ct5 oc6 kV6 dc6 pm6 cd6 ct6 oc7 kV7 dc7 pm7 cd7 ct7 oc8 kV8 dc8 pm8 cd8 ct8 oc9 kV9 dc9 pm9 cd9 ct9 oc10 kV10 dc10 pm10 cd10 ct10 oc11 kV11 dc11 pm11 cd11 ct11 oc12 kV12 dc12 pm12 cd12 ct12 oc13 kV13 dc13 pm13 cd13 ct13 oc14 kV14 dc14 pm14 cd14 ct14 oc15 kV15 dc15 pm15 cd15 ct15 oc16 kV16 dc16 pm16 cd16 ct16 oc17 kV17 dc17 pm17 cd17 ct17 oc18 kV18 dc18 pm18 cd18 ct18 oc19 kV19 dc19 pm19 cd19 ct19 oc20 kV20 dc20 pm20 cd20 ct20 oc21 kV21 dc21 pm21 cd21 ct21 oc22 kV22 dc22 pm22 cd22 ct22 oc23 kV23 dc23 pm23 cd23 ct23 oc24 kV24 dc24 pm24 cd24 ct24 oc25 kV25 dc25 pm25 cd25 ct25 oc26 kV26 dc26 pm26 cd26 ct26 oc27 kV27 dc27 pm27 cd27 ct27 oc28 kV28 dc28 pm28 cd28 ct28 oc29 kV29 dc29 pm29 cd29 ct29 oc30 kV30 dc30 pm30 cd30 ct30 oc31 kV31 dc31 pm31 cd31 ct31 oc32 kV32 dc32 pm32 cd32 ct32 oc33 kV33 dc33 pm33 cd33 ct33 oc34 kV34 dc34 pm34 cd34 ct34 oc35 kV35 dc35 pm35 cd35 ct35 : Value}
    {y_Token : Addr} {y_Parser : Addr} {f_Token___init__ : Addr} {od_Token___init__ an_Token___init__ : Option Addr} {sl_Token___init__ : Array (Option Value)} {oc_Token___init__ kV_Token___init__ dc_Token___init__ pm_Token___init__ cd_Token___init__ ct_Token___init__ : Value} {f_Parser___init__ : Addr} {od_Parser___init__ an_Parser___init__ : Option Addr} {sl_Parser___init__ : Array (Option Value)} {oc_Parser___init__ kV_Parser___init__ dc_Parser___init__ pm_Parser___init__ cd_Parser___init__ ct_Parser___init__ : Value} {f_Parser_token : Addr} {od_Parser_token an_Parser_token : Option Addr} {sl_Parser_token : Array (Option Value)} {oc_Parser_token kV_Parser_token dc_Parser_token pm_Parser_token cd_Parser_token ct_Parser_token : Value} {f_Parser_fail : Addr} {od_Parser_fail an_Parser_fail : Option Addr} {sl_Parser_fail : Array (Option Value)} {oc_Parser_fail kV_Parser_fail dc_Parser_fail pm_Parser_fail cd_Parser_fail ct_Parser_fail : Value} {f_Parser_sees : Addr} {od_Parser_sees an_Parser_sees : Option Addr} {sl_Parser_sees : Array (Option Value)} {oc_Parser_sees kV_Parser_sees dc_Parser_sees pm_Parser_sees cd_Parser_sees ct_Parser_sees : Value} {f_Parser_takes : Addr} {od_Parser_takes an_Parser_takes : Option Addr} {sl_Parser_takes : Array (Option Value)} {oc_Parser_takes kV_Parser_takes dc_Parser_takes pm_Parser_takes cd_Parser_takes ct_Parser_takes : Value} {f_Parser_expect : Addr} {od_Parser_expect an_Parser_expect : Option Addr} {sl_Parser_expect : Array (Option Value)} {oc_Parser_expect kV_Parser_expect dc_Parser_expect pm_Parser_expect cd_Parser_expect ct_Parser_expect : Value} {f_Parser_take_form : Addr} {od_Parser_take_form an_Parser_take_form : Option Addr} {sl_Parser_take_form : Array (Option Value)} {oc_Parser_take_form kV_Parser_take_form dc_Parser_take_form pm_Parser_take_form cd_Parser_take_form ct_Parser_take_form : Value} {f_Parser_parse_program : Addr} {od_Parser_parse_program an_Parser_parse_program : Option Addr} {sl_Parser_parse_program : Array (Option Value)} {oc_Parser_parse_program kV_Parser_parse_program dc_Parser_parse_program pm_Parser_parse_program cd_Parser_parse_program ct_Parser_parse_program : Value} {f_Parser_parse_record : Addr} {od_Parser_parse_record an_Parser_parse_record : Option Addr} {sl_Parser_parse_record : Array (Option Value)} {oc_Parser_parse_record kV_Parser_parse_record dc_Parser_parse_record pm_Parser_parse_record cd_Parser_parse_record ct_Parser_parse_record : Value} {f_Parser_parse_field : Addr} {od_Parser_parse_field an_Parser_parse_field : Option Addr} {sl_Parser_parse_field : Array (Option Value)} {oc_Parser_parse_field kV_Parser_parse_field dc_Parser_parse_field pm_Parser_parse_field cd_Parser_parse_field ct_Parser_parse_field : Value} {f_Parser_parse_function : Addr} {od_Parser_parse_function an_Parser_parse_function : Option Addr} {sl_Parser_parse_function : Array (Option Value)} {oc_Parser_parse_function kV_Parser_parse_function dc_Parser_parse_function pm_Parser_parse_function cd_Parser_parse_function ct_Parser_parse_function : Value} {f_Parser_parse_kind : Addr} {od_Parser_parse_kind an_Parser_parse_kind : Option Addr} {sl_Parser_parse_kind : Array (Option Value)} {oc_Parser_parse_kind kV_Parser_parse_kind dc_Parser_parse_kind pm_Parser_parse_kind cd_Parser_parse_kind ct_Parser_parse_kind : Value} {f_Parser_parse_block : Addr} {od_Parser_parse_block an_Parser_parse_block : Option Addr} {sl_Parser_parse_block : Array (Option Value)} {oc_Parser_parse_block kV_Parser_parse_block dc_Parser_parse_block pm_Parser_parse_block cd_Parser_parse_block ct_Parser_parse_block : Value} {f_Parser_parse_statement : Addr} {od_Parser_parse_statement an_Parser_parse_statement : Option Addr} {sl_Parser_parse_statement : Array (Option Value)} {oc_Parser_parse_statement kV_Parser_parse_statement dc_Parser_parse_statement pm_Parser_parse_statement cd_Parser_parse_statement ct_Parser_parse_statement : Value} {f_Parser_parse_simple : Addr} {od_Parser_parse_simple an_Parser_parse_simple : Option Addr} {sl_Parser_parse_simple : Array (Option Value)} {oc_Parser_parse_simple kV_Parser_parse_simple dc_Parser_parse_simple pm_Parser_parse_simple cd_Parser_parse_simple ct_Parser_parse_simple : Value} {f_Parser_parse_place : Addr} {od_Parser_parse_place an_Parser_parse_place : Option Addr} {sl_Parser_parse_place : Array (Option Value)} {oc_Parser_parse_place kV_Parser_parse_place dc_Parser_parse_place pm_Parser_parse_place cd_Parser_parse_place ct_Parser_parse_place : Value} {f_Parser_parse_steps : Addr} {od_Parser_parse_steps an_Parser_parse_steps : Option Addr} {sl_Parser_parse_steps : Array (Option Value)} {oc_Parser_parse_steps kV_Parser_parse_steps dc_Parser_parse_steps pm_Parser_parse_steps cd_Parser_parse_steps ct_Parser_parse_steps : Value} {f_Parser_parse_expression : Addr} {od_Parser_parse_expression an_Parser_parse_expression : Option Addr} {sl_Parser_parse_expression : Array (Option Value)} {oc_Parser_parse_expression kV_Parser_parse_expression dc_Parser_parse_expression pm_Parser_parse_expression cd_Parser_parse_expression ct_Parser_parse_expression : Value} {f_Parser_parse_integer : Addr} {od_Parser_parse_integer an_Parser_parse_integer : Option Addr} {sl_Parser_parse_integer : Array (Option Value)} {oc_Parser_parse_integer kV_Parser_parse_integer dc_Parser_parse_integer pm_Parser_parse_integer cd_Parser_parse_integer ct_Parser_parse_integer : Value} {f_Parser_parse_named : Addr} {od_Parser_parse_named an_Parser_parse_named : Option Addr} {sl_Parser_parse_named : Array (Option Value)} {oc_Parser_parse_named kV_Parser_parse_named dc_Parser_parse_named pm_Parser_parse_named cd_Parser_parse_named ct_Parser_parse_named : Value} {f_Parser_parse_arguments : Addr} {od_Parser_parse_arguments an_Parser_parse_arguments : Option Addr} {sl_Parser_parse_arguments : Array (Option Value)} {oc_Parser_parse_arguments kV_Parser_parse_arguments dc_Parser_parse_arguments pm_Parser_parse_arguments cd_Parser_parse_arguments ct_Parser_parse_arguments : Value} {f_Parser_parse_group : Addr} {od_Parser_parse_group an_Parser_parse_group : Option Addr} {sl_Parser_parse_group : Array (Option Value)} {oc_Parser_parse_group kV_Parser_parse_group dc_Parser_parse_group pm_Parser_parse_group cd_Parser_parse_group ct_Parser_parse_group : Value} {f_Parser_parse_word : Addr} {od_Parser_parse_word an_Parser_parse_word : Option Addr} {sl_Parser_parse_word : Array (Option Value)} {oc_Parser_parse_word kV_Parser_parse_word dc_Parser_parse_word pm_Parser_parse_word cd_Parser_parse_word ct_Parser_parse_word : Value} {q0 : Addr} {qd0 : Option Addr} {qn0 uc0_0 uc0_1 uc0_2 uc0_3 uc0_4 uc0_5 uc0_6 uc0_7 uc0_8 uc0_9 uc0_10 uc0_11 uc0_12 uc0_13 uc0_14 uc0_15 uc0_16 uc0_17 uc0_18 uc0_19 uc0_20 uc0_21 uc0_22 uc0_23 uc0_24 uc0_25 uc0_26 : Nat} {qs0 : Array (Option Value)} {q1 : Addr} {qd1 : Option Addr} {qn1 uc1_0 uc1_1 uc1_2 uc1_3 uc1_4 uc1_5 uc1_6 uc1_7 uc1_8 uc1_9 uc1_10 uc1_11 uc1_12 uc1_13 uc1_14 uc1_15 uc1_16 uc1_17 uc1_18 uc1_19 : Nat} {qs1 : Array (Option Value)} {q2 : Addr} {qd2 : Option Addr} {qn2 uc2_0 uc2_1 uc2_2 uc2_3 uc2_4 uc2_5 uc2_6 : Nat} {qs2 : Array (Option Value)} {ut_SMALL : Nat} {ut_LARGE : Nat} {ut_DIGITS : Nat} {ut_LONGEST_NAME : Nat} {ut_LONGEST_NUMBER : Nat} {ut_LEAST : Nat} {ut_MOST : Nat} {x_SyntaxProblem : Addr}
    (a1 : PySem.W.nsIn K mainGlobals "consists_of" = some (some (.ref f1))) (l1 : K.lookup f1 = some ⟨oc1, od1, .func (PySem.W.fnOf "consists_of" "consists_of" (defArgs st_consists_of) (defBody st_consists_of) (defScope st_consists_of) .none kV1 dc1 pm1 an1 cd1 ct1), sl1⟩) (c1 : PySem.W.codeIn K cd1 "consists_of" = true) (k1 : PySem.W.keepIn K (.ref f1) = true)
    (a2 : PySem.W.nsIn K mainGlobals "end_of" = some (some (.ref f2))) (l2 : K.lookup f2 = some ⟨oc2, od2, .func (PySem.W.fnOf "end_of" "end_of" (defArgs st_end_of) (defBody st_end_of) (defScope st_end_of) .none kV2 dc2 pm2 an2 cd2 ct2), sl2⟩) (c2 : PySem.W.codeIn K cd2 "end_of" = true) (k2 : PySem.W.keepIn K (.ref f2) = true)
    (a3 : PySem.W.nsIn K mainGlobals "is_name" = some (some (.ref f3))) (l3 : K.lookup f3 = some ⟨oc3, od3, .func (PySem.W.fnOf "is_name" "is_name" (defArgs st_is_name) (defBody st_is_name) (defScope st_is_name) .none kV3 dc3 pm3 an3 cd3 ct3), sl3⟩) (c3 : PySem.W.codeIn K cd3 "is_name" = true) (k3 : PySem.W.keepIn K (.ref f3) = true)
    (a4 : PySem.W.nsIn K mainGlobals "is_record_name" = some (some (.ref f4))) (l4 : K.lookup f4 = some ⟨oc4, od4, .func (PySem.W.fnOf "is_record_name" "is_record_name" (defArgs st_is_record_name) (defBody st_is_record_name) (defScope st_is_record_name) .none kV4 dc4 pm4 an4 cd4 ct4), sl4⟩) (c4 : PySem.W.codeIn K cd4 "is_record_name" = true) (k4 : PySem.W.keepIn K (.ref f4) = true)
    (a5 : PySem.W.nsIn K mainGlobals "form_of_word" = some (some (.ref f5))) (l5 : K.lookup f5 = some ⟨oc5, od5, .func (PySem.W.fnOf "form_of_word" "form_of_word" (defArgs st_form_of_word) (defBody st_form_of_word) (defScope st_form_of_word) .none kV5 dc5 pm5 an5 cd5 ct5), sl5⟩) (c5 : PySem.W.codeIn K cd5 "form_of_word" = true) (k5 : PySem.W.keepIn K (.ref f5) = true)
    (a6 : PySem.W.nsIn K mainGlobals "form_of_number" = some (some (.ref f6))) (l6 : K.lookup f6 = some ⟨oc6, od6, .func (PySem.W.fnOf "form_of_number" "form_of_number" (defArgs st_form_of_number) (defBody st_form_of_number) (defScope st_form_of_number) .none kV6 dc6 pm6 an6 cd6 ct6), sl6⟩) (c6 : PySem.W.codeIn K cd6 "form_of_number" = true) (k6 : PySem.W.keepIn K (.ref f6) = true)
    (a7 : PySem.W.nsIn K mainGlobals "token_at" = some (some (.ref f7))) (l7 : K.lookup f7 = some ⟨oc7, od7, .func (PySem.W.fnOf "token_at" "token_at" (defArgs st_token_at) (defBody st_token_at) (defScope st_token_at) .none kV7 dc7 pm7 an7 cd7 ct7), sl7⟩) (c7 : PySem.W.codeIn K cd7 "token_at" = true) (k7 : PySem.W.keepIn K (.ref f7) = true)
    (a8 : PySem.W.nsIn K mainGlobals "tokens_of" = some (some (.ref f8))) (l8 : K.lookup f8 = some ⟨oc8, od8, .func (PySem.W.fnOf "tokens_of" "tokens_of" (defArgs st_tokens_of) (defBody st_tokens_of) (defScope st_tokens_of) .none kV8 dc8 pm8 an8 cd8 ct8), sl8⟩) (c8 : PySem.W.codeIn K cd8 "tokens_of" = true) (k8 : PySem.W.keepIn K (.ref f8) = true)
    (a9 : PySem.W.nsIn K mainGlobals "parse_program" = some (some (.ref f9))) (l9 : K.lookup f9 = some ⟨oc9, od9, .func (PySem.W.fnOf "parse_program" "parse_program" (defArgs st_parse_program) (defBody st_parse_program) (defScope st_parse_program) .none kV9 dc9 pm9 an9 cd9 ct9), sl9⟩) (c9 : PySem.W.codeIn K cd9 "parse_program" = true) (k9 : PySem.W.keepIn K (.ref f9) = true)
    (a10 : PySem.W.nsIn K mainGlobals "write_kind" = some (some (.ref f10))) (l10 : K.lookup f10 = some ⟨oc10, od10, .func (PySem.W.fnOf "write_kind" "write_kind" (defArgs st_write_kind) (defBody st_write_kind) (defScope st_write_kind) .none kV10 dc10 pm10 an10 cd10 ct10), sl10⟩) (c10 : PySem.W.codeIn K cd10 "write_kind" = true) (k10 : PySem.W.keepIn K (.ref f10) = true)
    (a11 : PySem.W.nsIn K mainGlobals "write_fields" = some (some (.ref f11))) (l11 : K.lookup f11 = some ⟨oc11, od11, .func (PySem.W.fnOf "write_fields" "write_fields" (defArgs st_write_fields) (defBody st_write_fields) (defScope st_write_fields) .none kV11 dc11 pm11 an11 cd11 ct11), sl11⟩) (c11 : PySem.W.codeIn K cd11 "write_fields" = true) (k11 : PySem.W.keepIn K (.ref f11) = true)
    (a12 : PySem.W.nsIn K mainGlobals "write_place" = some (some (.ref f12))) (l12 : K.lookup f12 = some ⟨oc12, od12, .func (PySem.W.fnOf "write_place" "write_place" (defArgs st_write_place) (defBody st_write_place) (defScope st_write_place) .none kV12 dc12 pm12 an12 cd12 ct12), sl12⟩) (c12 : PySem.W.codeIn K cd12 "write_place" = true) (k12 : PySem.W.keepIn K (.ref f12) = true)
    (a13 : PySem.W.nsIn K mainGlobals "write_expressions" = some (some (.ref f13))) (l13 : K.lookup f13 = some ⟨oc13, od13, .func (PySem.W.fnOf "write_expressions" "write_expressions" (defArgs st_write_expressions) (defBody st_write_expressions) (defScope st_write_expressions) .none kV13 dc13 pm13 an13 cd13 ct13), sl13⟩) (c13 : PySem.W.codeIn K cd13 "write_expressions" = true) (k13 : PySem.W.keepIn K (.ref f13) = true)
    (a14 : PySem.W.nsIn K mainGlobals "write_literal" = some (some (.ref f14))) (l14 : K.lookup f14 = some ⟨oc14, od14, .func (PySem.W.fnOf "write_literal" "write_literal" (defArgs st_write_literal) (defBody st_write_literal) (defScope st_write_literal) .none kV14 dc14 pm14 an14 cd14 ct14), sl14⟩) (c14 : PySem.W.codeIn K cd14 "write_literal" = true) (k14 : PySem.W.keepIn K (.ref f14) = true)
    (a15 : PySem.W.nsIn K mainGlobals "write_expression" = some (some (.ref f15))) (l15 : K.lookup f15 = some ⟨oc15, od15, .func (PySem.W.fnOf "write_expression" "write_expression" (defArgs st_write_expression) (defBody st_write_expression) (defScope st_write_expression) .none kV15 dc15 pm15 an15 cd15 ct15), sl15⟩) (c15 : PySem.W.codeIn K cd15 "write_expression" = true) (k15 : PySem.W.keepIn K (.ref f15) = true)
    (a16 : PySem.W.nsIn K mainGlobals "write_block" = some (some (.ref f16))) (l16 : K.lookup f16 = some ⟨oc16, od16, .func (PySem.W.fnOf "write_block" "write_block" (defArgs st_write_block) (defBody st_write_block) (defScope st_write_block) .none kV16 dc16 pm16 an16 cd16 ct16), sl16⟩) (c16 : PySem.W.codeIn K cd16 "write_block" = true) (k16 : PySem.W.keepIn K (.ref f16) = true)
    (a17 : PySem.W.nsIn K mainGlobals "write_statement" = some (some (.ref f17))) (l17 : K.lookup f17 = some ⟨oc17, od17, .func (PySem.W.fnOf "write_statement" "write_statement" (defArgs st_write_statement) (defBody st_write_statement) (defScope st_write_statement) .none kV17 dc17 pm17 an17 cd17 ct17), sl17⟩) (c17 : PySem.W.codeIn K cd17 "write_statement" = true) (k17 : PySem.W.keepIn K (.ref f17) = true)
    (a18 : PySem.W.nsIn K mainGlobals "write_function" = some (some (.ref f18))) (l18 : K.lookup f18 = some ⟨oc18, od18, .func (PySem.W.fnOf "write_function" "write_function" (defArgs st_write_function) (defBody st_write_function) (defScope st_write_function) .none kV18 dc18 pm18 an18 cd18 ct18), sl18⟩) (c18 : PySem.W.codeIn K cd18 "write_function" = true) (k18 : PySem.W.keepIn K (.ref f18) = true)
    (a19 : PySem.W.nsIn K mainGlobals "write_program" = some (some (.ref f19))) (l19 : K.lookup f19 = some ⟨oc19, od19, .func (PySem.W.fnOf "write_program" "write_program" (defArgs st_write_program) (defBody st_write_program) (defScope st_write_program) .none kV19 dc19 pm19 an19 cd19 ct19), sl19⟩) (c19 : PySem.W.codeIn K cd19 "write_program" = true) (k19 : PySem.W.keepIn K (.ref f19) = true)
    (a20 : PySem.W.nsIn K mainGlobals "_law_pick" = some (some (.ref f20))) (l20 : K.lookup f20 = some ⟨oc20, od20, .func (PySem.W.fnOf "_law_pick" "_law_pick" (defArgs st__law_pick) (defBody st__law_pick) (defScope st__law_pick) .none kV20 dc20 pm20 an20 cd20 ct20), sl20⟩) (c20 : PySem.W.codeIn K cd20 "_law_pick" = true) (k20 : PySem.W.keepIn K (.ref f20) = true)
    (a21 : PySem.W.nsIn K mainGlobals "_law_words" = some (some (.ref f21))) (l21 : K.lookup f21 = some ⟨oc21, od21, .func (PySem.W.fnOf "_law_words" "_law_words" (defArgs st__law_words) (defBody st__law_words) (defScope st__law_words) .none kV21 dc21 pm21 an21 cd21 ct21), sl21⟩) (c21 : PySem.W.codeIn K cd21 "_law_words" = true) (k21 : PySem.W.keepIn K (.ref f21) = true)
    (a22 : PySem.W.nsIn K mainGlobals "_law_name" = some (some (.ref f22))) (l22 : K.lookup f22 = some ⟨oc22, od22, .func (PySem.W.fnOf "_law_name" "_law_name" (defArgs st__law_name) (defBody st__law_name) (defScope st__law_name) .none kV22 dc22 pm22 an22 cd22 ct22), sl22⟩) (c22 : PySem.W.codeIn K cd22 "_law_name" = true) (k22 : PySem.W.keepIn K (.ref f22) = true)
    (a23 : PySem.W.nsIn K mainGlobals "_law_big" = some (some (.ref f23))) (l23 : K.lookup f23 = some ⟨oc23, od23, .func (PySem.W.fnOf "_law_big" "_law_big" (defArgs st__law_big) (defBody st__law_big) (defScope st__law_big) .none kV23 dc23 pm23 an23 cd23 ct23), sl23⟩) (c23 : PySem.W.codeIn K cd23 "_law_big" = true) (k23 : PySem.W.keepIn K (.ref f23) = true)
    (a24 : PySem.W.nsIn K mainGlobals "_law_same" = some (some (.ref f24))) (l24 : K.lookup f24 = some ⟨oc24, od24, .func (PySem.W.fnOf "_law_same" "_law_same" (defArgs st__law_same) (defBody st__law_same) (defScope st__law_same) .none kV24 dc24 pm24 an24 cd24 ct24), sl24⟩) (c24 : PySem.W.codeIn K cd24 "_law_same" = true) (k24 : PySem.W.keepIn K (.ref f24) = true)
    (a25 : PySem.W.nsIn K mainGlobals "_law_tree_kind" = some (some (.ref f25))) (l25 : K.lookup f25 = some ⟨oc25, od25, .func (PySem.W.fnOf "_law_tree_kind" "_law_tree_kind" (defArgs st__law_tree_kind) (defBody st__law_tree_kind) (defScope st__law_tree_kind) .none kV25 dc25 pm25 an25 cd25 ct25), sl25⟩) (c25 : PySem.W.codeIn K cd25 "_law_tree_kind" = true) (k25 : PySem.W.keepIn K (.ref f25) = true)
    (a26 : PySem.W.nsIn K mainGlobals "_law_number" = some (some (.ref f26))) (l26 : K.lookup f26 = some ⟨oc26, od26, .func (PySem.W.fnOf "_law_number" "_law_number" (defArgs st__law_number) (defBody st__law_number) (defScope st__law_number) .none kV26 dc26 pm26 an26 cd26 ct26), sl26⟩) (c26 : PySem.W.codeIn K cd26 "_law_number" = true) (k26 : PySem.W.keepIn K (.ref f26) = true)
    (a27 : PySem.W.nsIn K mainGlobals "_law_place" = some (some (.ref f27))) (l27 : K.lookup f27 = some ⟨oc27, od27, .func (PySem.W.fnOf "_law_place" "_law_place" (defArgs st__law_place) (defBody st__law_place) (defScope st__law_place) .none kV27 dc27 pm27 an27 cd27 ct27), sl27⟩) (c27 : PySem.W.codeIn K cd27 "_law_place" = true) (k27 : PySem.W.keepIn K (.ref f27) = true)
    (a28 : PySem.W.nsIn K mainGlobals "_law_expression" = some (some (.ref f28))) (l28 : K.lookup f28 = some ⟨oc28, od28, .func (PySem.W.fnOf "_law_expression" "_law_expression" (defArgs st__law_expression) (defBody st__law_expression) (defScope st__law_expression) .none kV28 dc28 pm28 an28 cd28 ct28), sl28⟩) (c28 : PySem.W.codeIn K cd28 "_law_expression" = true) (k28 : PySem.W.keepIn K (.ref f28) = true)
    (a29 : PySem.W.nsIn K mainGlobals "_law_block" = some (some (.ref f29))) (l29 : K.lookup f29 = some ⟨oc29, od29, .func (PySem.W.fnOf "_law_block" "_law_block" (defArgs st__law_block) (defBody st__law_block) (defScope st__law_block) .none kV29 dc29 pm29 an29 cd29 ct29), sl29⟩) (c29 : PySem.W.codeIn K cd29 "_law_block" = true) (k29 : PySem.W.keepIn K (.ref f29) = true)
    (a30 : PySem.W.nsIn K mainGlobals "_law_statement" = some (some (.ref f30))) (l30 : K.lookup f30 = some ⟨oc30, od30, .func (PySem.W.fnOf "_law_statement" "_law_statement" (defArgs st__law_statement) (defBody st__law_statement) (defScope st__law_statement) .none kV30 dc30 pm30 an30 cd30 ct30), sl30⟩) (c30 : PySem.W.codeIn K cd30 "_law_statement" = true) (k30 : PySem.W.keepIn K (.ref f30) = true)
    (a31 : PySem.W.nsIn K mainGlobals "_law_fields" = some (some (.ref f31))) (l31 : K.lookup f31 = some ⟨oc31, od31, .func (PySem.W.fnOf "_law_fields" "_law_fields" (defArgs st__law_fields) (defBody st__law_fields) (defScope st__law_fields) .none kV31 dc31 pm31 an31 cd31 ct31), sl31⟩) (c31 : PySem.W.codeIn K cd31 "_law_fields" = true) (k31 : PySem.W.keepIn K (.ref f31) = true)
    (a32 : PySem.W.nsIn K mainGlobals "_law_function" = some (some (.ref f32))) (l32 : K.lookup f32 = some ⟨oc32, od32, .func (PySem.W.fnOf "_law_function" "_law_function" (defArgs st__law_function) (defBody st__law_function) (defScope st__law_function) .none kV32 dc32 pm32 an32 cd32 ct32), sl32⟩) (c32 : PySem.W.codeIn K cd32 "_law_function" = true) (k32 : PySem.W.keepIn K (.ref f32) = true)
    (a33 : PySem.W.nsIn K mainGlobals "_law_deep" = some (some (.ref f33))) (l33 : K.lookup f33 = some ⟨oc33, od33, .func (PySem.W.fnOf "_law_deep" "_law_deep" (defArgs st__law_deep) (defBody st__law_deep) (defScope st__law_deep) .none kV33 dc33 pm33 an33 cd33 ct33), sl33⟩) (c33 : PySem.W.codeIn K cd33 "_law_deep" = true) (k33 : PySem.W.keepIn K (.ref f33) = true)
    (a34 : PySem.W.nsIn K mainGlobals "_law_program" = some (some (.ref f34))) (l34 : K.lookup f34 = some ⟨oc34, od34, .func (PySem.W.fnOf "_law_program" "_law_program" (defArgs st__law_program) (defBody st__law_program) (defScope st__law_program) .none kV34 dc34 pm34 an34 cd34 ct34), sl34⟩) (c34 : PySem.W.codeIn K cd34 "_law_program" = true) (k34 : PySem.W.keepIn K (.ref f34) = true)
    (a35 : PySem.W.nsIn K mainGlobals "law" = some (some (.ref f35))) (l35 : K.lookup f35 = some ⟨oc35, od35, .func (PySem.W.fnOf "law" "law" (defArgs st_law) (defBody st_law) (defScope st_law) .none kV35 dc35 pm35 an35 cd35 ct35), sl35⟩) (c35 : PySem.W.codeIn K cd35 "law" = true) (k35 : PySem.W.keepIn K (.ref f35) = true)
    (ya_Token : PySem.W.nsIn K mainGlobals "Token" = some (some (.ref y_Token))) (yp_Token : PySem.W.plainGet K y_Token Str.empty = true) (yh_Token : PySem.W.hasDictIn K y_Token = true) (yo_Token : PySem.W.plainOver K y_Token = true) (ys_Token : PySem.W.findIn K (.ref y_Token) "__setattr__" = some (some (.builtin "object.__setattr__"))) (ym_Token : PySem.W.makesIn K y_Token = true) (yk_Token : PySem.W.keepIn K (.ref y_Token) = true)
    (yn_Token_form : PySem.W.findIn K (.ref y_Token) "form" = some none)
    (yn_Token_text : PySem.W.findIn K (.ref y_Token) "text" = some none)
    (yn_Token_line : PySem.W.findIn K (.ref y_Token) "line" = some none)
    (yn_Token_column : PySem.W.findIn K (.ref y_Token) "column" = some none)
    (ya_Parser : PySem.W.nsIn K mainGlobals "Parser" = some (some (.ref y_Parser))) (yp_Parser : PySem.W.plainGet K y_Parser Str.empty = true) (yh_Parser : PySem.W.hasDictIn K y_Parser = true) (yo_Parser : PySem.W.plainOver K y_Parser = true) (ys_Parser : PySem.W.findIn K (.ref y_Parser) "__setattr__" = some (some (.builtin "object.__setattr__"))) (ym_Parser : PySem.W.makesIn K y_Parser = true) (yk_Parser : PySem.W.keepIn K (.ref y_Parser) = true)
    (yn_Parser_tokens : PySem.W.findIn K (.ref y_Parser) "tokens" = some none)
    (yn_Parser_at : PySem.W.findIn K (.ref y_Parser) "at" = some none)
    (a_Token___init__ : PySem.W.findIn K (.ref y_Token) "__init__" = some (some (.ref f_Token___init__))) (i_Token___init__ : PySem.W.isFn K (.ref f_Token___init__) = true) (l_Token___init__ : K.lookup f_Token___init__ = some ⟨oc_Token___init__, od_Token___init__, .func (PySem.W.fnOf "__init__" "Token.__init__" (defArgs st_Token___init__) (defBody st_Token___init__) (defScope st_Token___init__) .none kV_Token___init__ dc_Token___init__ pm_Token___init__ an_Token___init__ cd_Token___init__ ct_Token___init__), sl_Token___init__⟩) (c_Token___init__ : PySem.W.codeIn K cd_Token___init__ "Token.__init__" = true) (k_Token___init__ : PySem.W.keepIn K (.ref f_Token___init__) = true)
    (a_Parser___init__ : PySem.W.findIn K (.ref y_Parser) "__init__" = some (some (.ref f_Parser___init__))) (i_Parser___init__ : PySem.W.isFn K (.ref f_Parser___init__) = true) (l_Parser___init__ : K.lookup f_Parser___init__ = some ⟨oc_Parser___init__, od_Parser___init__, .func (PySem.W.fnOf "__init__" "Parser.__init__" (defArgs st_Parser___init__) (defBody st_Parser___init__) (defScope st_Parser___init__) .none kV_Parser___init__ dc_Parser___init__ pm_Parser___init__ an_Parser___init__ cd_Parser___init__ ct_Parser___init__), sl_Parser___init__⟩) (c_Parser___init__ : PySem.W.codeIn K cd_Parser___init__ "Parser.__init__" = true) (k_Parser___init__ : PySem.W.keepIn K (.ref f_Parser___init__) = true)
    (a_Parser_token : PySem.W.findIn K (.ref y_Parser) "token" = some (some (.ref f_Parser_token))) (i_Parser_token : PySem.W.isFn K (.ref f_Parser_token) = true) (l_Parser_token : K.lookup f_Parser_token = some ⟨oc_Parser_token, od_Parser_token, .func (PySem.W.fnOf "token" "Parser.token" (defArgs st_Parser_token) (defBody st_Parser_token) (defScope st_Parser_token) .none kV_Parser_token dc_Parser_token pm_Parser_token an_Parser_token cd_Parser_token ct_Parser_token), sl_Parser_token⟩) (c_Parser_token : PySem.W.codeIn K cd_Parser_token "Parser.token" = true) (k_Parser_token : PySem.W.keepIn K (.ref f_Parser_token) = true)
    (a_Parser_fail : PySem.W.findIn K (.ref y_Parser) "fail" = some (some (.ref f_Parser_fail))) (i_Parser_fail : PySem.W.isFn K (.ref f_Parser_fail) = true) (l_Parser_fail : K.lookup f_Parser_fail = some ⟨oc_Parser_fail, od_Parser_fail, .func (PySem.W.fnOf "fail" "Parser.fail" (defArgs st_Parser_fail) (defBody st_Parser_fail) (defScope st_Parser_fail) .none kV_Parser_fail dc_Parser_fail pm_Parser_fail an_Parser_fail cd_Parser_fail ct_Parser_fail), sl_Parser_fail⟩) (c_Parser_fail : PySem.W.codeIn K cd_Parser_fail "Parser.fail" = true) (k_Parser_fail : PySem.W.keepIn K (.ref f_Parser_fail) = true)
    (a_Parser_sees : PySem.W.findIn K (.ref y_Parser) "sees" = some (some (.ref f_Parser_sees))) (i_Parser_sees : PySem.W.isFn K (.ref f_Parser_sees) = true) (l_Parser_sees : K.lookup f_Parser_sees = some ⟨oc_Parser_sees, od_Parser_sees, .func (PySem.W.fnOf "sees" "Parser.sees" (defArgs st_Parser_sees) (defBody st_Parser_sees) (defScope st_Parser_sees) .none kV_Parser_sees dc_Parser_sees pm_Parser_sees an_Parser_sees cd_Parser_sees ct_Parser_sees), sl_Parser_sees⟩) (c_Parser_sees : PySem.W.codeIn K cd_Parser_sees "Parser.sees" = true) (k_Parser_sees : PySem.W.keepIn K (.ref f_Parser_sees) = true)
    (a_Parser_takes : PySem.W.findIn K (.ref y_Parser) "takes" = some (some (.ref f_Parser_takes))) (i_Parser_takes : PySem.W.isFn K (.ref f_Parser_takes) = true) (l_Parser_takes : K.lookup f_Parser_takes = some ⟨oc_Parser_takes, od_Parser_takes, .func (PySem.W.fnOf "takes" "Parser.takes" (defArgs st_Parser_takes) (defBody st_Parser_takes) (defScope st_Parser_takes) .none kV_Parser_takes dc_Parser_takes pm_Parser_takes an_Parser_takes cd_Parser_takes ct_Parser_takes), sl_Parser_takes⟩) (c_Parser_takes : PySem.W.codeIn K cd_Parser_takes "Parser.takes" = true) (k_Parser_takes : PySem.W.keepIn K (.ref f_Parser_takes) = true)
    (a_Parser_expect : PySem.W.findIn K (.ref y_Parser) "expect" = some (some (.ref f_Parser_expect))) (i_Parser_expect : PySem.W.isFn K (.ref f_Parser_expect) = true) (l_Parser_expect : K.lookup f_Parser_expect = some ⟨oc_Parser_expect, od_Parser_expect, .func (PySem.W.fnOf "expect" "Parser.expect" (defArgs st_Parser_expect) (defBody st_Parser_expect) (defScope st_Parser_expect) .none kV_Parser_expect dc_Parser_expect pm_Parser_expect an_Parser_expect cd_Parser_expect ct_Parser_expect), sl_Parser_expect⟩) (c_Parser_expect : PySem.W.codeIn K cd_Parser_expect "Parser.expect" = true) (k_Parser_expect : PySem.W.keepIn K (.ref f_Parser_expect) = true)
    (a_Parser_take_form : PySem.W.findIn K (.ref y_Parser) "take_form" = some (some (.ref f_Parser_take_form))) (i_Parser_take_form : PySem.W.isFn K (.ref f_Parser_take_form) = true) (l_Parser_take_form : K.lookup f_Parser_take_form = some ⟨oc_Parser_take_form, od_Parser_take_form, .func (PySem.W.fnOf "take_form" "Parser.take_form" (defArgs st_Parser_take_form) (defBody st_Parser_take_form) (defScope st_Parser_take_form) .none kV_Parser_take_form dc_Parser_take_form pm_Parser_take_form an_Parser_take_form cd_Parser_take_form ct_Parser_take_form), sl_Parser_take_form⟩) (c_Parser_take_form : PySem.W.codeIn K cd_Parser_take_form "Parser.take_form" = true) (k_Parser_take_form : PySem.W.keepIn K (.ref f_Parser_take_form) = true)
    (a_Parser_parse_program : PySem.W.findIn K (.ref y_Parser) "parse_program" = some (some (.ref f_Parser_parse_program))) (i_Parser_parse_program : PySem.W.isFn K (.ref f_Parser_parse_program) = true) (l_Parser_parse_program : K.lookup f_Parser_parse_program = some ⟨oc_Parser_parse_program, od_Parser_parse_program, .func (PySem.W.fnOf "parse_program" "Parser.parse_program" (defArgs st_Parser_parse_program) (defBody st_Parser_parse_program) (defScope st_Parser_parse_program) .none kV_Parser_parse_program dc_Parser_parse_program pm_Parser_parse_program an_Parser_parse_program cd_Parser_parse_program ct_Parser_parse_program), sl_Parser_parse_program⟩) (c_Parser_parse_program : PySem.W.codeIn K cd_Parser_parse_program "Parser.parse_program" = true) (k_Parser_parse_program : PySem.W.keepIn K (.ref f_Parser_parse_program) = true)
    (a_Parser_parse_record : PySem.W.findIn K (.ref y_Parser) "parse_record" = some (some (.ref f_Parser_parse_record))) (i_Parser_parse_record : PySem.W.isFn K (.ref f_Parser_parse_record) = true) (l_Parser_parse_record : K.lookup f_Parser_parse_record = some ⟨oc_Parser_parse_record, od_Parser_parse_record, .func (PySem.W.fnOf "parse_record" "Parser.parse_record" (defArgs st_Parser_parse_record) (defBody st_Parser_parse_record) (defScope st_Parser_parse_record) .none kV_Parser_parse_record dc_Parser_parse_record pm_Parser_parse_record an_Parser_parse_record cd_Parser_parse_record ct_Parser_parse_record), sl_Parser_parse_record⟩) (c_Parser_parse_record : PySem.W.codeIn K cd_Parser_parse_record "Parser.parse_record" = true) (k_Parser_parse_record : PySem.W.keepIn K (.ref f_Parser_parse_record) = true)
    (a_Parser_parse_field : PySem.W.findIn K (.ref y_Parser) "parse_field" = some (some (.ref f_Parser_parse_field))) (i_Parser_parse_field : PySem.W.isFn K (.ref f_Parser_parse_field) = true) (l_Parser_parse_field : K.lookup f_Parser_parse_field = some ⟨oc_Parser_parse_field, od_Parser_parse_field, .func (PySem.W.fnOf "parse_field" "Parser.parse_field" (defArgs st_Parser_parse_field) (defBody st_Parser_parse_field) (defScope st_Parser_parse_field) .none kV_Parser_parse_field dc_Parser_parse_field pm_Parser_parse_field an_Parser_parse_field cd_Parser_parse_field ct_Parser_parse_field), sl_Parser_parse_field⟩) (c_Parser_parse_field : PySem.W.codeIn K cd_Parser_parse_field "Parser.parse_field" = true) (k_Parser_parse_field : PySem.W.keepIn K (.ref f_Parser_parse_field) = true)
    (a_Parser_parse_function : PySem.W.findIn K (.ref y_Parser) "parse_function" = some (some (.ref f_Parser_parse_function))) (i_Parser_parse_function : PySem.W.isFn K (.ref f_Parser_parse_function) = true) (l_Parser_parse_function : K.lookup f_Parser_parse_function = some ⟨oc_Parser_parse_function, od_Parser_parse_function, .func (PySem.W.fnOf "parse_function" "Parser.parse_function" (defArgs st_Parser_parse_function) (defBody st_Parser_parse_function) (defScope st_Parser_parse_function) .none kV_Parser_parse_function dc_Parser_parse_function pm_Parser_parse_function an_Parser_parse_function cd_Parser_parse_function ct_Parser_parse_function), sl_Parser_parse_function⟩) (c_Parser_parse_function : PySem.W.codeIn K cd_Parser_parse_function "Parser.parse_function" = true) (k_Parser_parse_function : PySem.W.keepIn K (.ref f_Parser_parse_function) = true)
    (a_Parser_parse_kind : PySem.W.findIn K (.ref y_Parser) "parse_kind" = some (some (.ref f_Parser_parse_kind))) (i_Parser_parse_kind : PySem.W.isFn K (.ref f_Parser_parse_kind) = true) (l_Parser_parse_kind : K.lookup f_Parser_parse_kind = some ⟨oc_Parser_parse_kind, od_Parser_parse_kind, .func (PySem.W.fnOf "parse_kind" "Parser.parse_kind" (defArgs st_Parser_parse_kind) (defBody st_Parser_parse_kind) (defScope st_Parser_parse_kind) .none kV_Parser_parse_kind dc_Parser_parse_kind pm_Parser_parse_kind an_Parser_parse_kind cd_Parser_parse_kind ct_Parser_parse_kind), sl_Parser_parse_kind⟩) (c_Parser_parse_kind : PySem.W.codeIn K cd_Parser_parse_kind "Parser.parse_kind" = true) (k_Parser_parse_kind : PySem.W.keepIn K (.ref f_Parser_parse_kind) = true)
    (a_Parser_parse_block : PySem.W.findIn K (.ref y_Parser) "parse_block" = some (some (.ref f_Parser_parse_block))) (i_Parser_parse_block : PySem.W.isFn K (.ref f_Parser_parse_block) = true) (l_Parser_parse_block : K.lookup f_Parser_parse_block = some ⟨oc_Parser_parse_block, od_Parser_parse_block, .func (PySem.W.fnOf "parse_block" "Parser.parse_block" (defArgs st_Parser_parse_block) (defBody st_Parser_parse_block) (defScope st_Parser_parse_block) .none kV_Parser_parse_block dc_Parser_parse_block pm_Parser_parse_block an_Parser_parse_block cd_Parser_parse_block ct_Parser_parse_block), sl_Parser_parse_block⟩) (c_Parser_parse_block : PySem.W.codeIn K cd_Parser_parse_block "Parser.parse_block" = true) (k_Parser_parse_block : PySem.W.keepIn K (.ref f_Parser_parse_block) = true)
    (a_Parser_parse_statement : PySem.W.findIn K (.ref y_Parser) "parse_statement" = some (some (.ref f_Parser_parse_statement))) (i_Parser_parse_statement : PySem.W.isFn K (.ref f_Parser_parse_statement) = true) (l_Parser_parse_statement : K.lookup f_Parser_parse_statement = some ⟨oc_Parser_parse_statement, od_Parser_parse_statement, .func (PySem.W.fnOf "parse_statement" "Parser.parse_statement" (defArgs st_Parser_parse_statement) (defBody st_Parser_parse_statement) (defScope st_Parser_parse_statement) .none kV_Parser_parse_statement dc_Parser_parse_statement pm_Parser_parse_statement an_Parser_parse_statement cd_Parser_parse_statement ct_Parser_parse_statement), sl_Parser_parse_statement⟩) (c_Parser_parse_statement : PySem.W.codeIn K cd_Parser_parse_statement "Parser.parse_statement" = true) (k_Parser_parse_statement : PySem.W.keepIn K (.ref f_Parser_parse_statement) = true)
    (a_Parser_parse_simple : PySem.W.findIn K (.ref y_Parser) "parse_simple" = some (some (.ref f_Parser_parse_simple))) (i_Parser_parse_simple : PySem.W.isFn K (.ref f_Parser_parse_simple) = true) (l_Parser_parse_simple : K.lookup f_Parser_parse_simple = some ⟨oc_Parser_parse_simple, od_Parser_parse_simple, .func (PySem.W.fnOf "parse_simple" "Parser.parse_simple" (defArgs st_Parser_parse_simple) (defBody st_Parser_parse_simple) (defScope st_Parser_parse_simple) .none kV_Parser_parse_simple dc_Parser_parse_simple pm_Parser_parse_simple an_Parser_parse_simple cd_Parser_parse_simple ct_Parser_parse_simple), sl_Parser_parse_simple⟩) (c_Parser_parse_simple : PySem.W.codeIn K cd_Parser_parse_simple "Parser.parse_simple" = true) (k_Parser_parse_simple : PySem.W.keepIn K (.ref f_Parser_parse_simple) = true)
    (a_Parser_parse_place : PySem.W.findIn K (.ref y_Parser) "parse_place" = some (some (.ref f_Parser_parse_place))) (i_Parser_parse_place : PySem.W.isFn K (.ref f_Parser_parse_place) = true) (l_Parser_parse_place : K.lookup f_Parser_parse_place = some ⟨oc_Parser_parse_place, od_Parser_parse_place, .func (PySem.W.fnOf "parse_place" "Parser.parse_place" (defArgs st_Parser_parse_place) (defBody st_Parser_parse_place) (defScope st_Parser_parse_place) .none kV_Parser_parse_place dc_Parser_parse_place pm_Parser_parse_place an_Parser_parse_place cd_Parser_parse_place ct_Parser_parse_place), sl_Parser_parse_place⟩) (c_Parser_parse_place : PySem.W.codeIn K cd_Parser_parse_place "Parser.parse_place" = true) (k_Parser_parse_place : PySem.W.keepIn K (.ref f_Parser_parse_place) = true)
    (a_Parser_parse_steps : PySem.W.findIn K (.ref y_Parser) "parse_steps" = some (some (.ref f_Parser_parse_steps))) (i_Parser_parse_steps : PySem.W.isFn K (.ref f_Parser_parse_steps) = true) (l_Parser_parse_steps : K.lookup f_Parser_parse_steps = some ⟨oc_Parser_parse_steps, od_Parser_parse_steps, .func (PySem.W.fnOf "parse_steps" "Parser.parse_steps" (defArgs st_Parser_parse_steps) (defBody st_Parser_parse_steps) (defScope st_Parser_parse_steps) .none kV_Parser_parse_steps dc_Parser_parse_steps pm_Parser_parse_steps an_Parser_parse_steps cd_Parser_parse_steps ct_Parser_parse_steps), sl_Parser_parse_steps⟩) (c_Parser_parse_steps : PySem.W.codeIn K cd_Parser_parse_steps "Parser.parse_steps" = true) (k_Parser_parse_steps : PySem.W.keepIn K (.ref f_Parser_parse_steps) = true)
    (a_Parser_parse_expression : PySem.W.findIn K (.ref y_Parser) "parse_expression" = some (some (.ref f_Parser_parse_expression))) (i_Parser_parse_expression : PySem.W.isFn K (.ref f_Parser_parse_expression) = true) (l_Parser_parse_expression : K.lookup f_Parser_parse_expression = some ⟨oc_Parser_parse_expression, od_Parser_parse_expression, .func (PySem.W.fnOf "parse_expression" "Parser.parse_expression" (defArgs st_Parser_parse_expression) (defBody st_Parser_parse_expression) (defScope st_Parser_parse_expression) .none kV_Parser_parse_expression dc_Parser_parse_expression pm_Parser_parse_expression an_Parser_parse_expression cd_Parser_parse_expression ct_Parser_parse_expression), sl_Parser_parse_expression⟩) (c_Parser_parse_expression : PySem.W.codeIn K cd_Parser_parse_expression "Parser.parse_expression" = true) (k_Parser_parse_expression : PySem.W.keepIn K (.ref f_Parser_parse_expression) = true)
    (a_Parser_parse_integer : PySem.W.findIn K (.ref y_Parser) "parse_integer" = some (some (.ref f_Parser_parse_integer))) (i_Parser_parse_integer : PySem.W.isFn K (.ref f_Parser_parse_integer) = true) (l_Parser_parse_integer : K.lookup f_Parser_parse_integer = some ⟨oc_Parser_parse_integer, od_Parser_parse_integer, .func (PySem.W.fnOf "parse_integer" "Parser.parse_integer" (defArgs st_Parser_parse_integer) (defBody st_Parser_parse_integer) (defScope st_Parser_parse_integer) .none kV_Parser_parse_integer dc_Parser_parse_integer pm_Parser_parse_integer an_Parser_parse_integer cd_Parser_parse_integer ct_Parser_parse_integer), sl_Parser_parse_integer⟩) (c_Parser_parse_integer : PySem.W.codeIn K cd_Parser_parse_integer "Parser.parse_integer" = true) (k_Parser_parse_integer : PySem.W.keepIn K (.ref f_Parser_parse_integer) = true)
    (a_Parser_parse_named : PySem.W.findIn K (.ref y_Parser) "parse_named" = some (some (.ref f_Parser_parse_named))) (i_Parser_parse_named : PySem.W.isFn K (.ref f_Parser_parse_named) = true) (l_Parser_parse_named : K.lookup f_Parser_parse_named = some ⟨oc_Parser_parse_named, od_Parser_parse_named, .func (PySem.W.fnOf "parse_named" "Parser.parse_named" (defArgs st_Parser_parse_named) (defBody st_Parser_parse_named) (defScope st_Parser_parse_named) .none kV_Parser_parse_named dc_Parser_parse_named pm_Parser_parse_named an_Parser_parse_named cd_Parser_parse_named ct_Parser_parse_named), sl_Parser_parse_named⟩) (c_Parser_parse_named : PySem.W.codeIn K cd_Parser_parse_named "Parser.parse_named" = true) (k_Parser_parse_named : PySem.W.keepIn K (.ref f_Parser_parse_named) = true)
    (a_Parser_parse_arguments : PySem.W.findIn K (.ref y_Parser) "parse_arguments" = some (some (.ref f_Parser_parse_arguments))) (i_Parser_parse_arguments : PySem.W.isFn K (.ref f_Parser_parse_arguments) = true) (l_Parser_parse_arguments : K.lookup f_Parser_parse_arguments = some ⟨oc_Parser_parse_arguments, od_Parser_parse_arguments, .func (PySem.W.fnOf "parse_arguments" "Parser.parse_arguments" (defArgs st_Parser_parse_arguments) (defBody st_Parser_parse_arguments) (defScope st_Parser_parse_arguments) .none kV_Parser_parse_arguments dc_Parser_parse_arguments pm_Parser_parse_arguments an_Parser_parse_arguments cd_Parser_parse_arguments ct_Parser_parse_arguments), sl_Parser_parse_arguments⟩) (c_Parser_parse_arguments : PySem.W.codeIn K cd_Parser_parse_arguments "Parser.parse_arguments" = true) (k_Parser_parse_arguments : PySem.W.keepIn K (.ref f_Parser_parse_arguments) = true)
    (a_Parser_parse_group : PySem.W.findIn K (.ref y_Parser) "parse_group" = some (some (.ref f_Parser_parse_group))) (i_Parser_parse_group : PySem.W.isFn K (.ref f_Parser_parse_group) = true) (l_Parser_parse_group : K.lookup f_Parser_parse_group = some ⟨oc_Parser_parse_group, od_Parser_parse_group, .func (PySem.W.fnOf "parse_group" "Parser.parse_group" (defArgs st_Parser_parse_group) (defBody st_Parser_parse_group) (defScope st_Parser_parse_group) .none kV_Parser_parse_group dc_Parser_parse_group pm_Parser_parse_group an_Parser_parse_group cd_Parser_parse_group ct_Parser_parse_group), sl_Parser_parse_group⟩) (c_Parser_parse_group : PySem.W.codeIn K cd_Parser_parse_group "Parser.parse_group" = true) (k_Parser_parse_group : PySem.W.keepIn K (.ref f_Parser_parse_group) = true)
    (a_Parser_parse_word : PySem.W.findIn K (.ref y_Parser) "parse_word" = some (some (.ref f_Parser_parse_word))) (i_Parser_parse_word : PySem.W.isFn K (.ref f_Parser_parse_word) = true) (l_Parser_parse_word : K.lookup f_Parser_parse_word = some ⟨oc_Parser_parse_word, od_Parser_parse_word, .func (PySem.W.fnOf "parse_word" "Parser.parse_word" (defArgs st_Parser_parse_word) (defBody st_Parser_parse_word) (defScope st_Parser_parse_word) .none kV_Parser_parse_word dc_Parser_parse_word pm_Parser_parse_word an_Parser_parse_word cd_Parser_parse_word ct_Parser_parse_word), sl_Parser_parse_word⟩) (c_Parser_parse_word : PySem.W.codeIn K cd_Parser_parse_word "Parser.parse_word" = true) (k_Parser_parse_word : PySem.W.keepIn K (.ref f_Parser_parse_word) = true)
    (qa0 : PySem.W.nsIn K mainGlobals "WORDS" = some (some (.ref q0))) (ql0 : K.lookup q0 = some ⟨.type "tuple", qd0, .seq #[.str "and" uc0_0, .str "bool" uc0_1, .str "box" uc0_2, .str "do" uc0_3, .str "else" uc0_4, .str "false" uc0_5, .str "fn" uc0_6, .str "from" uc0_7, .str "if" uc0_8, .str "int" uc0_9, .str "is" uc0_10, .str "let" uc0_11, .str "maybe" uc0_12, .str "mut" uc0_13, .str "none" uc0_14, .str "not" uc0_15, .str "or" uc0_16, .str "print" uc0_17, .str "record" uc0_18, .str "return" uc0_19, .str "some" uc0_20, .str "swap" uc0_21, .str "true" uc0_22, .str "unbox" uc0_23, .str "unit" uc0_24, .str "while" uc0_25, .str "with" uc0_26] qn0, qs0⟩)
    (qa1 : PySem.W.nsIn K mainGlobals "SIGNS" = some (some (.ref q1))) (ql1 : K.lookup q1 = some ⟨.type "tuple", qd1, .seq #[.str "->" uc1_0, .str "==" uc1_1, .str "{" uc1_2, .str "}" uc1_3, .str "(" uc1_4, .str ")" uc1_5, .str "[" uc1_6, .str "]" uc1_7, .str "," uc1_8, .str ";" uc1_9, .str ":" uc1_10, .str "." uc1_11, .str "?" uc1_12, .str "^" uc1_13, .str "&" uc1_14, .str "+" uc1_15, .str "-" uc1_16, .str "*" uc1_17, .str "<" uc1_18, .str "=" uc1_19] qn1, qs1⟩)
    (qa2 : PySem.W.nsIn K mainGlobals "OPERATIONS" = some (some (.ref q2))) (ql2 : K.lookup q2 = some ⟨.type "tuple", qd2, .seq #[.str "+" uc2_0, .str "-" uc2_1, .str "*" uc2_2, .str "<" uc2_3, .str "==" uc2_4, .str "and" uc2_5, .str "or" uc2_6] qn2, qs2⟩)
    (qt_SMALL : PySem.W.nsIn K mainGlobals "SMALL" = some (some (.str "abcdefghijklmnopqrstuvwxyz" ut_SMALL)))
    (qt_LARGE : PySem.W.nsIn K mainGlobals "LARGE" = some (some (.str "ABCDEFGHIJKLMNOPQRSTUVWXYZ" ut_LARGE)))
    (qt_DIGITS : PySem.W.nsIn K mainGlobals "DIGITS" = some (some (.str "0123456789" ut_DIGITS)))
    (qt_LONGEST_NAME : PySem.W.nsIn K mainGlobals "LONGEST_NAME" = some (some (.int 20 ut_LONGEST_NAME)))
    (qt_LONGEST_NUMBER : PySem.W.nsIn K mainGlobals "LONGEST_NUMBER" = some (some (.int 10 ut_LONGEST_NUMBER)))
    (qt_LEAST : PySem.W.nsIn K mainGlobals "LEAST" = some (some (.int (-2147483648) ut_LEAST)))
    (qt_MOST : PySem.W.nsIn K mainGlobals "MOST" = some (some (.int 2147483647 ut_MOST)))
    (xa_SyntaxProblem : PySem.W.nsIn K mainGlobals "SyntaxProblem" = some (some (.ref x_SyntaxProblem))) (xk_SyntaxProblem : PySem.W.keepIn K (.ref x_SyntaxProblem) = true) (xb_SyntaxProblem : PySem.W.subIn K (.ref x_SyntaxProblem) (.type "BaseException") = some true) (xt_SyntaxProblem : PySem.W.typeIn K (.ref x_SyntaxProblem) = some (.type "type")) (xi_SyntaxProblem : PySem.W.isClsIn K x_SyntaxProblem = true)
    (xn_ : PySem.W.specialIn K (.builtin "object.__class__") "__get__" = some (some (.builtin "getset_descriptor.__get__"))) (xy_ : PySem.W.takesIn K (.builtin "object.__class__") = some true)
    (xs_SyntaxProblem_SyntaxProblem : PySem.W.subIn K (.ref x_SyntaxProblem) (.ref x_SyntaxProblem) = some true)
    (z_abs : PySem.W.nsIn K mainGlobals "abs" = some none)
    (z_bool : PySem.W.nsIn K mainGlobals "bool" = some none)
    (z_int : PySem.W.nsIn K mainGlobals "int" = some none)
    (z_isinstance : PySem.W.nsIn K mainGlobals "isinstance" = some none)
    (z_len : PySem.W.nsIn K mainGlobals "len" = some none)
    (z_range : PySem.W.nsIn K mainGlobals "range" = some none)
    (z_str : PySem.W.nsIn K mainGlobals "str" = some none)
    (z_tuple : PySem.W.nsIn K mainGlobals "tuple" = some none)
    : ∃ fd : FuncData, (∀ (s : Shared) (v : Value), BindsTo s fd ⟨[v], []⟩ [("_law_script", v)]) ∧ ∀ base : Heap, K.In base → base.Ns mainGlobals mg → FnOk l.prog w K mg base CX0 157 fa fd ["_law_script"] (spD K spLaw) := by
  have e := hfa.symm.trans (PySem.W.mg_of X G a35)
  cases e
  have F1 := fun_mk (st := st_consists_of) l1 c1 k1
  have b1 := F1.binds (ps := ["text", "chars"]) fun _ _ _ _ _ _ us hl => match us, hl with | [_, _], _ => rfl
  have F2 := fun_mk (st := st_end_of) l2 c2 k2
  have b2 := F2.binds (ps := ["text", "at", "chars"]) fun _ _ _ _ _ _ us hl => match us, hl with | [_, _, _], _ => rfl
  have F3 := fun_mk (st := st_is_name) l3 c3 k3
  have b3 := F3.binds (ps := ["word"]) fun _ _ _ _ _ _ us hl => match us, hl with | [_], _ => rfl
  have F4 := fun_mk (st := st_is_record_name) l4 c4 k4
  have b4 := F4.binds (ps := ["word"]) fun _ _ _ _ _ _ us hl => match us, hl with | [_], _ => rfl
  have F5 := fun_mk (st := st_form_of_word) l5 c5 k5
  have b5 := F5.binds (ps := ["word"]) fun _ _ _ _ _ _ us hl => match us, hl with | [_], _ => rfl
  have F6 := fun_mk (st := st_form_of_number) l6 c6 k6
  have b6 := F6.binds (ps := ["digits"]) fun _ _ _ _ _ _ us hl => match us, hl with | [_], _ => rfl
  have F7 := fun_mk (st := st_token_at) l7 c7 k7
  have b7 := F7.binds (ps := ["text", "at", "line", "column"]) fun _ _ _ _ _ _ us hl => match us, hl with | [_, _, _, _], _ => rfl
  have F8 := fun_mk (st := st_tokens_of) l8 c8 k8
  have b8 := F8.binds (ps := ["text"]) fun _ _ _ _ _ _ us hl => match us, hl with | [_], _ => rfl
  have F9 := fun_mk (st := st_parse_program) l9 c9 k9
  have b9 := F9.binds (ps := ["text"]) fun _ _ _ _ _ _ us hl => match us, hl with | [_], _ => rfl
  have F10 := fun_mk (st := st_write_kind) l10 c10 k10
  have b10 := F10.binds (ps := ["kind"]) fun _ _ _ _ _ _ us hl => match us, hl with | [_], _ => rfl
  have F11 := fun_mk (st := st_write_fields) l11 c11 k11
  have b11 := F11.binds (ps := ["fields"]) fun _ _ _ _ _ _ us hl => match us, hl with | [_], _ => rfl
  have F12 := fun_mk (st := st_write_place) l12 c12 k12
  have b12 := F12.binds (ps := ["place"]) fun _ _ _ _ _ _ us hl => match us, hl with | [_], _ => rfl
  have F13 := fun_mk (st := st_write_expressions) l13 c13 k13
  have b13 := F13.binds (ps := ["expressions"]) fun _ _ _ _ _ _ us hl => match us, hl with | [_], _ => rfl
  have F14 := fun_mk (st := st_write_literal) l14 c14 k14
  have b14 := F14.binds (ps := ["expression"]) fun _ _ _ _ _ _ us hl => match us, hl with | [_], _ => rfl
  have F15 := fun_mk (st := st_write_expression) l15 c15 k15
  have b15 := F15.binds (ps := ["expression"]) fun _ _ _ _ _ _ us hl => match us, hl with | [_], _ => rfl
  have F16 := fun_mk (st := st_write_block) l16 c16 k16
  have b16 := F16.binds (ps := ["block", "depth"]) fun _ _ _ _ _ _ us hl => match us, hl with | [_, _], _ => rfl
  have F17 := fun_mk (st := st_write_statement) l17 c17 k17
  have b17 := F17.binds (ps := ["statement", "depth"]) fun _ _ _ _ _ _ us hl => match us, hl with | [_, _], _ => rfl
  have F18 := fun_mk (st := st_write_function) l18 c18 k18
  have b18 := F18.binds (ps := ["function"]) fun _ _ _ _ _ _ us hl => match us, hl with | [_], _ => rfl
  have F19 := fun_mk (st := st_write_program) l19 c19 k19
  have b19 := F19.binds (ps := ["program"]) fun _ _ _ _ _ _ us hl => match us, hl with | [_], _ => rfl
  have F20 := fun_mk (st := st__law_pick) l20 c20 k20
  have b20 := F20.binds (ps := ["_law_state", "_law_script", "_law_many"]) fun _ _ _ _ _ _ us hl => match us, hl with | [_, _, _], _ => rfl
  have F21 := fun_mk (st := st__law_words) l21 c21 k21
  have b21 := F21.binds (ps := []) fun _ _ _ _ _ _ us hl => match us, hl with | [], _ => rfl
  have F22 := fun_mk (st := st__law_name) l22 c22 k22
  have b22 := F22.binds (ps := ["_law_state", "_law_script"]) fun _ _ _ _ _ _ us hl => match us, hl with | [_, _], _ => rfl
  have F23 := fun_mk (st := st__law_big) l23 c23 k23
  have b23 := F23.binds (ps := ["_law_state", "_law_script"]) fun _ _ _ _ _ _ us hl => match us, hl with | [_, _], _ => rfl
  have F24 := fun_mk (st := st__law_same) l24 c24 k24
  have b24 := F24.binds (ps := ["_law_actual", "_law_due"]) fun _ _ _ _ _ _ us hl => match us, hl with | [_, _], _ => rfl
  have F25 := fun_mk (st := st__law_tree_kind) l25 c25 k25
  have b25 := F25.binds (ps := ["_law_state", "_law_script", "_law_room"]) fun _ _ _ _ _ _ us hl => match us, hl with | [_, _, _], _ => rfl
  have F26 := fun_mk (st := st__law_number) l26 c26 k26
  have b26 := F26.binds (ps := ["_law_state", "_law_script"]) fun _ _ _ _ _ _ us hl => match us, hl with | [_, _], _ => rfl
  have F27 := fun_mk (st := st__law_place) l27 c27 k27
  have b27 := F27.binds (ps := ["_law_state", "_law_script"]) fun _ _ _ _ _ _ us hl => match us, hl with | [_, _], _ => rfl
  have F28 := fun_mk (st := st__law_expression) l28 c28 k28
  have b28 := F28.binds (ps := ["_law_state", "_law_script", "_law_room"]) fun _ _ _ _ _ _ us hl => match us, hl with | [_, _, _], _ => rfl
  have F29 := fun_mk (st := st__law_block) l29 c29 k29
  have b29 := F29.binds (ps := ["_law_state", "_law_script", "_law_room", "_law_many"]) fun _ _ _ _ _ _ us hl => match us, hl with | [_, _, _, _], _ => rfl
  have F30 := fun_mk (st := st__law_statement) l30 c30 k30
  have b30 := F30.binds (ps := ["_law_state", "_law_script", "_law_room"]) fun _ _ _ _ _ _ us hl => match us, hl with | [_, _, _], _ => rfl
  have F31 := fun_mk (st := st__law_fields) l31 c31 k31
  have b31 := F31.binds (ps := ["_law_state", "_law_script", "_law_many"]) fun _ _ _ _ _ _ us hl => match us, hl with | [_, _, _], _ => rfl
  have F32 := fun_mk (st := st__law_function) l32 c32 k32
  have b32 := F32.binds (ps := ["_law_state", "_law_script", "_law_block_here"]) fun _ _ _ _ _ _ us hl => match us, hl with | [_, _, _], _ => rfl
  have F33 := fun_mk (st := st__law_deep) l33 c33 k33
  have b33 := F33.binds (ps := ["_law_state", "_law_script", "_law_block_here"]) fun _ _ _ _ _ _ us hl => match us, hl with | [_, _, _], _ => rfl
  have F34 := fun_mk (st := st__law_program) l34 c34 k34
  have b34 := F34.binds (ps := ["_law_state", "_law_script"]) fun _ _ _ _ _ _ us hl => match us, hl with | [_, _], _ => rfl
  have F35 := fun_mk (st := st_law) l35 c35 k35
  have b35 := F35.binds (ps := ["_law_script"]) fun _ _ _ _ _ _ us hl => match us, hl with | [_], _ => rfl
  have gY_Token := PySem.W.mg_of X G ya_Token
  have cY_Token : Cls K y_Token := ⟨yp_Token, yh_Token, yo_Token, ys_Token⟩
  have gY_Parser := PySem.W.mg_of X G ya_Parser
  have cY_Parser : Cls K y_Parser := ⟨yp_Parser, yh_Parser, yo_Parser, ys_Parser⟩
  have F_Token___init__ := fun_mk (st := st_Token___init__) l_Token___init__ c_Token___init__ k_Token___init__
  have b_Token___init__ := F_Token___init__.binds (ps := ["self", "form", "text", "line", "column"]) fun _ _ _ _ _ _ us hl => match us, hl with | [_, _, _, _, _], _ => rfl
  have M_Token___init__ : Mk K y_Token f_Token___init__ := ⟨ym_Token, a_Token___init__, i_Token___init__, yk_Token⟩
  have F_Parser___init__ := fun_mk (st := st_Parser___init__) l_Parser___init__ c_Parser___init__ k_Parser___init__
  have b_Parser___init__ := F_Parser___init__.binds (ps := ["self", "text"]) fun _ _ _ _ _ _ us hl => match us, hl with | [_, _], _ => rfl
  have M_Parser___init__ : Mk K y_Parser f_Parser___init__ := ⟨ym_Parser, a_Parser___init__, i_Parser___init__, yk_Parser⟩
  have F_Parser_token := fun_mk (st := st_Parser_token) l_Parser_token c_Parser_token k_Parser_token
  have b_Parser_token := F_Parser_token.binds (ps := ["self"]) fun _ _ _ _ _ _ us hl => match us, hl with | [_], _ => rfl
  have M_Parser_token : Meth K y_Parser "token" f_Parser_token := ⟨a_Parser_token, i_Parser_token, k_Parser_token⟩
  have F_Parser_fail := fun_mk (st := st_Parser_fail) l_Parser_fail c_Parser_fail k_Parser_fail
  have b_Parser_fail := F_Parser_fail.binds (ps := ["self", "token"]) fun _ _ _ _ _ _ us hl => match us, hl with | [_, _], _ => rfl
  have M_Parser_fail : Meth K y_Parser "fail" f_Parser_fail := ⟨a_Parser_fail, i_Parser_fail, k_Parser_fail⟩
  have F_Parser_sees := fun_mk (st := st_Parser_sees) l_Parser_sees c_Parser_sees k_Parser_sees
  have b_Parser_sees := F_Parser_sees.binds (ps := ["self", "text"]) fun _ _ _ _ _ _ us hl => match us, hl with | [_, _], _ => rfl
  have M_Parser_sees : Meth K y_Parser "sees" f_Parser_sees := ⟨a_Parser_sees, i_Parser_sees, k_Parser_sees⟩
  have F_Parser_takes := fun_mk (st := st_Parser_takes) l_Parser_takes c_Parser_takes k_Parser_takes
  have b_Parser_takes := F_Parser_takes.binds (ps := ["self", "text"]) fun _ _ _ _ _ _ us hl => match us, hl with | [_, _], _ => rfl
  have M_Parser_takes : Meth K y_Parser "takes" f_Parser_takes := ⟨a_Parser_takes, i_Parser_takes, k_Parser_takes⟩
  have F_Parser_expect := fun_mk (st := st_Parser_expect) l_Parser_expect c_Parser_expect k_Parser_expect
  have b_Parser_expect := F_Parser_expect.binds (ps := ["self", "text"]) fun _ _ _ _ _ _ us hl => match us, hl with | [_, _], _ => rfl
  have M_Parser_expect : Meth K y_Parser "expect" f_Parser_expect := ⟨a_Parser_expect, i_Parser_expect, k_Parser_expect⟩
  have F_Parser_take_form := fun_mk (st := st_Parser_take_form) l_Parser_take_form c_Parser_take_form k_Parser_take_form
  have b_Parser_take_form := F_Parser_take_form.binds (ps := ["self", "form"]) fun _ _ _ _ _ _ us hl => match us, hl with | [_, _], _ => rfl
  have M_Parser_take_form : Meth K y_Parser "take_form" f_Parser_take_form := ⟨a_Parser_take_form, i_Parser_take_form, k_Parser_take_form⟩
  have F_Parser_parse_program := fun_mk (st := st_Parser_parse_program) l_Parser_parse_program c_Parser_parse_program k_Parser_parse_program
  have b_Parser_parse_program := F_Parser_parse_program.binds (ps := ["self"]) fun _ _ _ _ _ _ us hl => match us, hl with | [_], _ => rfl
  have M_Parser_parse_program : Meth K y_Parser "parse_program" f_Parser_parse_program := ⟨a_Parser_parse_program, i_Parser_parse_program, k_Parser_parse_program⟩
  have F_Parser_parse_record := fun_mk (st := st_Parser_parse_record) l_Parser_parse_record c_Parser_parse_record k_Parser_parse_record
  have b_Parser_parse_record := F_Parser_parse_record.binds (ps := ["self"]) fun _ _ _ _ _ _ us hl => match us, hl with | [_], _ => rfl
  have M_Parser_parse_record : Meth K y_Parser "parse_record" f_Parser_parse_record := ⟨a_Parser_parse_record, i_Parser_parse_record, k_Parser_parse_record⟩
  have F_Parser_parse_field := fun_mk (st := st_Parser_parse_field) l_Parser_parse_field c_Parser_parse_field k_Parser_parse_field
  have b_Parser_parse_field := F_Parser_parse_field.binds (ps := ["self"]) fun _ _ _ _ _ _ us hl => match us, hl with | [_], _ => rfl
  have M_Parser_parse_field : Meth K y_Parser "parse_field" f_Parser_parse_field := ⟨a_Parser_parse_field, i_Parser_parse_field, k_Parser_parse_field⟩
  have F_Parser_parse_function := fun_mk (st := st_Parser_parse_function) l_Parser_parse_function c_Parser_parse_function k_Parser_parse_function
  have b_Parser_parse_function := F_Parser_parse_function.binds (ps := ["self"]) fun _ _ _ _ _ _ us hl => match us, hl with | [_], _ => rfl
  have M_Parser_parse_function : Meth K y_Parser "parse_function" f_Parser_parse_function := ⟨a_Parser_parse_function, i_Parser_parse_function, k_Parser_parse_function⟩
  have F_Parser_parse_kind := fun_mk (st := st_Parser_parse_kind) l_Parser_parse_kind c_Parser_parse_kind k_Parser_parse_kind
  have b_Parser_parse_kind := F_Parser_parse_kind.binds (ps := ["self"]) fun _ _ _ _ _ _ us hl => match us, hl with | [_], _ => rfl
  have M_Parser_parse_kind : Meth K y_Parser "parse_kind" f_Parser_parse_kind := ⟨a_Parser_parse_kind, i_Parser_parse_kind, k_Parser_parse_kind⟩
  have F_Parser_parse_block := fun_mk (st := st_Parser_parse_block) l_Parser_parse_block c_Parser_parse_block k_Parser_parse_block
  have b_Parser_parse_block := F_Parser_parse_block.binds (ps := ["self"]) fun _ _ _ _ _ _ us hl => match us, hl with | [_], _ => rfl
  have M_Parser_parse_block : Meth K y_Parser "parse_block" f_Parser_parse_block := ⟨a_Parser_parse_block, i_Parser_parse_block, k_Parser_parse_block⟩
  have F_Parser_parse_statement := fun_mk (st := st_Parser_parse_statement) l_Parser_parse_statement c_Parser_parse_statement k_Parser_parse_statement
  have b_Parser_parse_statement := F_Parser_parse_statement.binds (ps := ["self"]) fun _ _ _ _ _ _ us hl => match us, hl with | [_], _ => rfl
  have M_Parser_parse_statement : Meth K y_Parser "parse_statement" f_Parser_parse_statement := ⟨a_Parser_parse_statement, i_Parser_parse_statement, k_Parser_parse_statement⟩
  have F_Parser_parse_simple := fun_mk (st := st_Parser_parse_simple) l_Parser_parse_simple c_Parser_parse_simple k_Parser_parse_simple
  have b_Parser_parse_simple := F_Parser_parse_simple.binds (ps := ["self"]) fun _ _ _ _ _ _ us hl => match us, hl with | [_], _ => rfl
  have M_Parser_parse_simple : Meth K y_Parser "parse_simple" f_Parser_parse_simple := ⟨a_Parser_parse_simple, i_Parser_parse_simple, k_Parser_parse_simple⟩
  have F_Parser_parse_place := fun_mk (st := st_Parser_parse_place) l_Parser_parse_place c_Parser_parse_place k_Parser_parse_place
  have b_Parser_parse_place := F_Parser_parse_place.binds (ps := ["self"]) fun _ _ _ _ _ _ us hl => match us, hl with | [_], _ => rfl
  have M_Parser_parse_place : Meth K y_Parser "parse_place" f_Parser_parse_place := ⟨a_Parser_parse_place, i_Parser_parse_place, k_Parser_parse_place⟩
  have F_Parser_parse_steps := fun_mk (st := st_Parser_parse_steps) l_Parser_parse_steps c_Parser_parse_steps k_Parser_parse_steps
  have b_Parser_parse_steps := F_Parser_parse_steps.binds (ps := ["self", "name"]) fun _ _ _ _ _ _ us hl => match us, hl with | [_, _], _ => rfl
  have M_Parser_parse_steps : Meth K y_Parser "parse_steps" f_Parser_parse_steps := ⟨a_Parser_parse_steps, i_Parser_parse_steps, k_Parser_parse_steps⟩
  have F_Parser_parse_expression := fun_mk (st := st_Parser_parse_expression) l_Parser_parse_expression c_Parser_parse_expression k_Parser_parse_expression
  have b_Parser_parse_expression := F_Parser_parse_expression.binds (ps := ["self"]) fun _ _ _ _ _ _ us hl => match us, hl with | [_], _ => rfl
  have M_Parser_parse_expression : Meth K y_Parser "parse_expression" f_Parser_parse_expression := ⟨a_Parser_parse_expression, i_Parser_parse_expression, k_Parser_parse_expression⟩
  have F_Parser_parse_integer := fun_mk (st := st_Parser_parse_integer) l_Parser_parse_integer c_Parser_parse_integer k_Parser_parse_integer
  have b_Parser_parse_integer := F_Parser_parse_integer.binds (ps := ["self"]) fun _ _ _ _ _ _ us hl => match us, hl with | [_], _ => rfl
  have M_Parser_parse_integer : Meth K y_Parser "parse_integer" f_Parser_parse_integer := ⟨a_Parser_parse_integer, i_Parser_parse_integer, k_Parser_parse_integer⟩
  have F_Parser_parse_named := fun_mk (st := st_Parser_parse_named) l_Parser_parse_named c_Parser_parse_named k_Parser_parse_named
  have b_Parser_parse_named := F_Parser_parse_named.binds (ps := ["self"]) fun _ _ _ _ _ _ us hl => match us, hl with | [_], _ => rfl
  have M_Parser_parse_named : Meth K y_Parser "parse_named" f_Parser_parse_named := ⟨a_Parser_parse_named, i_Parser_parse_named, k_Parser_parse_named⟩
  have F_Parser_parse_arguments := fun_mk (st := st_Parser_parse_arguments) l_Parser_parse_arguments c_Parser_parse_arguments k_Parser_parse_arguments
  have b_Parser_parse_arguments := F_Parser_parse_arguments.binds (ps := ["self"]) fun _ _ _ _ _ _ us hl => match us, hl with | [_], _ => rfl
  have M_Parser_parse_arguments : Meth K y_Parser "parse_arguments" f_Parser_parse_arguments := ⟨a_Parser_parse_arguments, i_Parser_parse_arguments, k_Parser_parse_arguments⟩
  have F_Parser_parse_group := fun_mk (st := st_Parser_parse_group) l_Parser_parse_group c_Parser_parse_group k_Parser_parse_group
  have b_Parser_parse_group := F_Parser_parse_group.binds (ps := ["self"]) fun _ _ _ _ _ _ us hl => match us, hl with | [_], _ => rfl
  have M_Parser_parse_group : Meth K y_Parser "parse_group" f_Parser_parse_group := ⟨a_Parser_parse_group, i_Parser_parse_group, k_Parser_parse_group⟩
  have F_Parser_parse_word := fun_mk (st := st_Parser_parse_word) l_Parser_parse_word c_Parser_parse_word k_Parser_parse_word
  have b_Parser_parse_word := F_Parser_parse_word.binds (ps := ["self"]) fun _ _ _ _ _ _ us hl => match us, hl with | [_], _ => rfl
  have M_Parser_parse_word : Meth K y_Parser "parse_word" f_Parser_parse_word := ⟨a_Parser_parse_word, i_Parser_parse_word, k_Parser_parse_word⟩
  have cB_WORDS : ConT K mg "WORDS" (.tup [.str "and", .str "bool", .str "box", .str "do", .str "else", .str "false", .str "fn", .str "from", .str "if", .str "int", .str "is", .str "let", .str "maybe", .str "mut", .str "none", .str "not", .str "or", .str "print", .str "record", .str "return", .str "some", .str "swap", .str "true", .str "unbox", .str "unit", .str "while", .str "with"]) := conT (ps := [("and", uc0_0), ("bool", uc0_1), ("box", uc0_2), ("do", uc0_3), ("else", uc0_4), ("false", uc0_5), ("fn", uc0_6), ("from", uc0_7), ("if", uc0_8), ("int", uc0_9), ("is", uc0_10), ("let", uc0_11), ("maybe", uc0_12), ("mut", uc0_13), ("none", uc0_14), ("not", uc0_15), ("or", uc0_16), ("print", uc0_17), ("record", uc0_18), ("return", uc0_19), ("some", uc0_20), ("swap", uc0_21), ("true", uc0_22), ("unbox", uc0_23), ("unit", uc0_24), ("while", uc0_25), ("with", uc0_26)]) (PySem.W.mg_of X G qa0) ql0 rfl (by show 27 ≤ 1000; decide)
  have cB_SIGNS : ConT K mg "SIGNS" (.tup [.str "->", .str "==", .str "{", .str "}", .str "(", .str ")", .str "[", .str "]", .str ",", .str ";", .str ":", .str ".", .str "?", .str "^", .str "&", .str "+", .str "-", .str "*", .str "<", .str "="]) := conT (ps := [("->", uc1_0), ("==", uc1_1), ("{", uc1_2), ("}", uc1_3), ("(", uc1_4), (")", uc1_5), ("[", uc1_6), ("]", uc1_7), (",", uc1_8), (";", uc1_9), (":", uc1_10), (".", uc1_11), ("?", uc1_12), ("^", uc1_13), ("&", uc1_14), ("+", uc1_15), ("-", uc1_16), ("*", uc1_17), ("<", uc1_18), ("=", uc1_19)]) (PySem.W.mg_of X G qa1) ql1 rfl (by show 20 ≤ 1000; decide)
  have cB_OPERATIONS : ConT K mg "OPERATIONS" (.tup [.str "+", .str "-", .str "*", .str "<", .str "==", .str "and", .str "or"]) := conT (ps := [("+", uc2_0), ("-", uc2_1), ("*", uc2_2), ("<", uc2_3), ("==", uc2_4), ("and", uc2_5), ("or", uc2_6)]) (PySem.W.mg_of X G qa2) ql2 rfl (by show 7 ≤ 1000; decide)
  have cS_SMALL : ConS mg "SMALL" "abcdefghijklmnopqrstuvwxyz" := ⟨_, PySem.W.mg_of X G qt_SMALL⟩
  have cS_LARGE : ConS mg "LARGE" "ABCDEFGHIJKLMNOPQRSTUVWXYZ" := ⟨_, PySem.W.mg_of X G qt_LARGE⟩
  have cS_DIGITS : ConS mg "DIGITS" "0123456789" := ⟨_, PySem.W.mg_of X G qt_DIGITS⟩
  have cI_LONGEST_NAME : ConI mg "LONGEST_NAME" 20 := ⟨_, PySem.W.mg_of X G qt_LONGEST_NAME⟩
  have cI_LONGEST_NUMBER : ConI mg "LONGEST_NUMBER" 10 := ⟨_, PySem.W.mg_of X G qt_LONGEST_NUMBER⟩
  have cI_LEAST : ConI mg "LEAST" (-2147483648) := ⟨_, PySem.W.mg_of X G qt_LEAST⟩
  have cI_MOST : ConI mg "MOST" 2147483647 := ⟨_, PySem.W.mg_of X G qt_MOST⟩
  have gX_SyntaxProblem := PySem.W.mg_of X G xa_SyntaxProblem
  have mX_SyntaxProblem_SyntaxProblem := exm_of xb_SyntaxProblem xi_SyntaxProblem xt_SyntaxProblem xs_SyntaxProblem_SyntaxProblem
  have tX_SyntaxProblem_SyntaxProblem := kit_yes xi_SyntaxProblem xt_SyntaxProblem xs_SyntaxProblem_SyntaxProblem
  have m_abs := PySem.W.mg_none_of X G z_abs
  have m_bool := PySem.W.mg_none_of X G z_bool
  have m_int := PySem.W.mg_none_of X G z_int
  have m_isinstance := PySem.W.mg_none_of X G z_isinstance
  have m_len := PySem.W.mg_none_of X G z_len
  have m_range := PySem.W.mg_none_of X G z_range
  have m_str := PySem.W.mg_none_of X G z_str
  have m_tuple := PySem.W.mg_none_of X G z_tuple
  refine ⟨PySem.W.fnOf "law" "law" (defArgs st_law) (defBody st_law) (defScope st_law) .none kV35 dc35 pm35 an35 cd35 ct35, fun s v => .of_eq rfl, fun base _ _ => ?_⟩
  have g1 := PySem.W.mg_of X G a1
  have g2 := PySem.W.mg_of X G a2
  have g3 := PySem.W.mg_of X G a3
  have g4 := PySem.W.mg_of X G a4
  have g5 := PySem.W.mg_of X G a5
  have g6 := PySem.W.mg_of X G a6
  have g7 := PySem.W.mg_of X G a7
  have g8 := PySem.W.mg_of X G a8
  have g9 := PySem.W.mg_of X G a9
  have g10 := PySem.W.mg_of X G a10
  have g11 := PySem.W.mg_of X G a11
  have g12 := PySem.W.mg_of X G a12
  have g13 := PySem.W.mg_of X G a13
  have g14 := PySem.W.mg_of X G a14
  have g15 := PySem.W.mg_of X G a15
  have g16 := PySem.W.mg_of X G a16
  have g17 := PySem.W.mg_of X G a17
  have g18 := PySem.W.mg_of X G a18
  have g19 := PySem.W.mg_of X G a19
  have g20 := PySem.W.mg_of X G a20
  have g21 := PySem.W.mg_of X G a21
  have g22 := PySem.W.mg_of X G a22
  have g23 := PySem.W.mg_of X G a23
  have g24 := PySem.W.mg_of X G a24
  have g25 := PySem.W.mg_of X G a25
  have g26 := PySem.W.mg_of X G a26
  have g27 := PySem.W.mg_of X G a27
  have g28 := PySem.W.mg_of X G a28
  have g29 := PySem.W.mg_of X G a29
  have g30 := PySem.W.mg_of X G a30
  have g31 := PySem.W.mg_of X G a31
  have g32 := PySem.W.mg_of X G a32
  have g33 := PySem.W.mg_of X G a33
  have g34 := PySem.W.mg_of X G a34
  have g35 := PySem.W.mg_of X G a35
  have c_ : Cons K mg := ⟨cB_WORDS, cB_SIGNS, cS_SMALL, cS_LARGE, cS_DIGITS, cI_LONGEST_NAME, cI_LONGEST_NUMBER⟩
  have c2_ : Cons2 K mg := ⟨cI_LEAST, cI_MOST, cB_OPERATIONS⟩
  have cT_ : TCls K y_Token := ⟨cY_Token, yn_Token_form, yn_Token_text, yn_Token_line, yn_Token_column⟩
  have cp_ : PCls K y_Parser := ⟨cY_Parser, yn_Parser_tokens, yn_Parser_at⟩
  have C__law_pick := ok_pick (P := l.prog) (w := w) (mg := mg) (base := base) F20 b20 g20 m_len m_int m_abs
  have C__law_big := ok_big (P := l.prog) (w := w) (mg := mg) (base := base) F23 b23 g23 m_range C__law_pick
  have C__law_words := ok_words (P := l.prog) (w := w) (mg := mg) (base := base) F21 b21 g21
  have C__law_name := ok_name (P := l.prog) (w := w) (mg := mg) (base := base) F22 b22 g22 m_range C__law_pick C__law_words
  have C_consists_of := ok_cons (P := l.prog) (w := w) (mg := mg) (base := base) F1 b1 g1
  have C_end_of := ok_end (P := l.prog) (w := w) (mg := mg) (base := base) F2 b2 g2 m_len
  have C_is_name := ok_isnm (P := l.prog) (w := w) (mg := mg) (base := base) c_ F3 b3 g3 m_len C_consists_of
  have C_is_record_name := ok_isrn (P := l.prog) (w := w) (mg := mg) (base := base) c_ F4 b4 g4 m_len C_consists_of
  have C_form_of_word := ok_fword (P := l.prog) (w := w) (mg := mg) (base := base) c_ F5 b5 g5 C_is_name C_is_record_name
  have C_form_of_number := ok_fnum (P := l.prog) (w := w) (mg := mg) (base := base) c_ F6 b6 g6 m_len
  have C_Token___init__ := ok_tinit (P := l.prog) (w := w) (mg := mg) (base := base) cT_ F_Token___init__ b_Token___init__ M_Token___init__ gY_Token
  have C_token_at := ok_tokat (P := l.prog) (w := w) (mg := mg) (base := base) c_ F7 b7 g7 m_len C_end_of C_form_of_word C_form_of_number C_Token___init__
  have C_tokens_of := ok_toks (P := l.prog) (w := w) (mg := mg) (base := base) F8 b8 g8 cT_ m_len C_token_at C_Token___init__
  have C_Parser_token := ok_token (T := y_Token) (P := l.prog) (w := w) (mg := mg) (base := base) cp_ F_Parser_token b_Parser_token M_Parser_token
  have C_Parser_sees := ok_sees (P := l.prog) (w := w) (mg := mg) (base := base) cp_ cT_ F_Parser_sees b_Parser_sees M_Parser_sees C_Parser_token
  have C_Parser_takes := ok_takes (P := l.prog) (w := w) (mg := mg) (base := base) cp_ F_Parser_takes b_Parser_takes M_Parser_takes C_Parser_sees
  have C_Parser_take_form := ok_form (P := l.prog) (w := w) (mg := mg) (base := base) cp_ cT_ F_Parser_take_form b_Parser_take_form M_Parser_take_form C_Parser_token
  have C_Parser_expect := ok_expect (P := l.prog) (w := w) (mg := mg) (base := base) cp_ F_Parser_expect b_Parser_expect M_Parser_expect C_Parser_takes
  have C_Parser_parse_kind := ok_pkind (P := l.prog) (w := w) (mg := mg) (base := base) cp_ F_Parser_parse_kind b_Parser_parse_kind M_Parser_parse_kind m_tuple C_Parser_takes C_Parser_expect C_Parser_take_form
  have C_Parser_parse_field := ok_pfield (P := l.prog) (w := w) (mg := mg) (base := base) cp_ F_Parser_parse_field b_Parser_parse_field M_Parser_parse_field C_Parser_expect C_Parser_take_form C_Parser_parse_kind
  have C_Parser_parse_record := ok_precord (P := l.prog) (w := w) (mg := mg) (base := base) cp_ F_Parser_parse_record b_Parser_parse_record M_Parser_parse_record m_tuple C_Parser_takes C_Parser_expect C_Parser_take_form C_Parser_parse_field
  have C_Parser_parse_block := ok_pblock0 (P := l.prog) (w := w) (mg := mg) (base := base) cp_ F_Parser_parse_block b_Parser_parse_block M_Parser_parse_block m_tuple C_Parser_takes C_Parser_expect
  have C_Parser_parse_steps := ok_psteps (P := l.prog) (w := w) (mg := mg) (base := base) cp_ cT_ F_Parser_parse_steps b_Parser_parse_steps M_Parser_parse_steps m_tuple m_int C_Parser_token C_Parser_takes C_Parser_take_form
  have C_Parser_parse_place := ok_pplace (P := l.prog) (w := w) (mg := mg) (base := base) cp_ F_Parser_parse_place b_Parser_parse_place M_Parser_parse_place C_Parser_parse_steps C_Parser_take_form
  have C_Parser_parse_integer := ok_pinteger (P := l.prog) (w := w) (mg := mg) (base := base) cp_ c2_ F_Parser_parse_integer b_Parser_parse_integer M_Parser_parse_integer m_int C_Parser_token C_Parser_takes C_Parser_take_form
  have C_Parser_parse_arguments := ok_pargs (P := l.prog) (w := w) (mg := mg) (base := base) cp_ F_Parser_parse_arguments b_Parser_parse_arguments M_Parser_parse_arguments m_tuple C_Parser_takes C_Parser_expect
  have C_Parser_parse_named := ok_pnamed (P := l.prog) (w := w) (mg := mg) (base := base) cp_ F_Parser_parse_named b_Parser_parse_named M_Parser_parse_named C_Parser_takes C_Parser_expect C_Parser_take_form C_Parser_parse_steps
  have C_Parser_parse_group := ok_pgroup (P := l.prog) (w := w) (mg := mg) (base := base) cp_ c2_ F_Parser_parse_group b_Parser_parse_group M_Parser_parse_group m_tuple C_Parser_takes C_Parser_expect
  have C_Parser_parse_word := ok_pword (P := l.prog) (w := w) (mg := mg) (base := base) cp_ F_Parser_parse_word b_Parser_parse_word M_Parser_parse_word C_Parser_takes C_Parser_expect C_Parser_parse_kind C_Parser_parse_place
  have C_Parser_parse_expression := ok_pexpr (P := l.prog) (w := w) (mg := mg) (base := base) cp_ cT_ F_Parser_parse_expression b_Parser_parse_expression M_Parser_parse_expression C_Parser_token C_Parser_sees C_Parser_takes C_Parser_expect C_Parser_parse_integer C_Parser_parse_place C_Parser_parse_arguments C_Parser_parse_named C_Parser_parse_group C_Parser_parse_word
  have C__law_tree_kind := ok_tree (P := l.prog) (w := w) (mg := mg) (base := base) F25 b25 g25 m_int m_range m_tuple C__law_pick C__law_big
  have C__law_fields := ok_flds (P := l.prog) (w := w) (mg := mg) (base := base) F31 b31 g31 m_range m_tuple C__law_name C__law_tree_kind
  have C__law_function := ok_fun (P := l.prog) (w := w) (mg := mg) (base := base) F32 b32 g32 m_range m_tuple C__law_pick C__law_name C__law_tree_kind C__law_fields
  have C__law_number := ok_num (P := l.prog) (w := w) (mg := mg) (base := base) F26 b26 g26 C__law_pick
  have C__law_place := ok_pl (P := l.prog) (w := w) (mg := mg) (base := base) F27 b27 g27 m_range m_tuple C__law_pick C__law_name
  have C__law_expression := ok_ex (P := l.prog) (w := w) (mg := mg) (base := base) F28 b28 g28 m_int m_range m_tuple C__law_pick C__law_big C__law_name C__law_number C__law_place C__law_tree_kind
  have C_Parser_parse_simple := ok_psimple (P := l.prog) (w := w) (mg := mg) (base := base) (show 5 ≤ 120 by decide) cp_ F_Parser_parse_simple b_Parser_parse_simple M_Parser_parse_simple C_Parser_takes C_Parser_expect C_Parser_take_form C_Parser_parse_place (C_Parser_parse_expression 36)
  have C_Parser_parse_block := ok_pblock (P := l.prog) (w := w) (mg := mg) (base := base) cp_ F_Parser_parse_block b_Parser_parse_block M_Parser_parse_block m_tuple C_Parser_takes C_Parser_expect
  have C_Parser_parse_statement := ok_pstm (P := l.prog) (w := w) (mg := mg) (base := base) (show 5 ≤ 120 by decide) cp_ F_Parser_parse_statement b_Parser_parse_statement M_Parser_parse_statement C_Parser_takes C_Parser_expect (C_Parser_parse_expression 36) C_Parser_parse_simple C_Parser_parse_block
  have C__law_statement := ok_stm (P := l.prog) (w := w) (mg := mg) (base := base) F30 b30 g30 m_int C__law_pick C__law_name C__law_place C__law_expression (fun n k C => pk_blk F29 b29 g29 m_range m_tuple C__law_pick C)
  have C_write_kind := ok_wkind (P := l.prog) (w := w) (mg := mg) (base := base) F10 b10 g10
  have C_write_fields := ok_wflds (P := l.prog) (w := w) (mg := mg) (base := base) F11 b11 g11 C_write_kind
  have C_write_place := ok_wplace (P := l.prog) (w := w) (mg := mg) (base := base) F12 b12 g12 m_str
  have C_write_literal := ok_wlit (P := l.prog) (w := w) (mg := mg) (base := base) F14 b14 g14 m_str C_write_kind
  have C_write_expression := ok_we (P := l.prog) (w := w) (mg := mg) (base := base) F15 b15 g15 C_write_place C_write_literal (fun n k C => pk_wes F13 b13 g13 C)
  have C_write_statement := ok_wst (P := l.prog) (w := w) (mg := mg) (base := base) F17 b17 g17 C_write_place C_write_expression (fun n k C => pk_wbl F16 b16 g16 C)
  have C_write_function := ok_wfun (P := l.prog) (w := w) (mg := mg) (base := base) F18 b18 g18 m_len C_write_kind C_write_fields (pk_wbl (n := 15) (k := 107) F16 b16 g16 (C_write_statement 15))
  have C_write_program := ok_wprog (P := l.prog) (w := w) (mg := mg) (base := base) F19 b19 g19 C_write_fields C_write_function
  have C__law_deep := ok_deep (P := l.prog) (w := w) (mg := mg) (base := base) F33 b33 g33 m_range C__law_pick C__law_expression
  have C__law_program := ok_pgm (P := l.prog) (w := w) (mg := mg) (base := base) F34 b34 g34 m_range m_tuple C__law_pick C__law_big C__law_fields C__law_function (pk_blk (n := 4) (k := 16) F29 b29 g29 m_range m_tuple C__law_pick (C__law_statement 4)) C__law_deep
  have C_Parser___init__ := ok_pinit (P := l.prog) (w := w) (mg := mg) (base := base) cp_ F_Parser___init__ b_Parser___init__ M_Parser___init__ gY_Parser C_tokens_of
  have C__law_same := ok_same (P := l.prog) (w := w) (mg := mg) (base := base) F24 b24 g24 m_tuple m_isinstance m_bool m_int m_str m_len m_range
  have C_Parser_parse_function := ok_pfun (okB := BOk 15) (rawB := blockW) (dvB := blkD) (P := l.prog) (w := w) (mg := mg) (base := base) (show 10 ≤ 153 by decide) (fun _ => ⟨_, rfl⟩) cp_ F_Parser_parse_function b_Parser_parse_function M_Parser_parse_function m_tuple C_Parser_takes C_Parser_expect C_Parser_take_form C_Parser_parse_field C_Parser_parse_kind (C_Parser_parse_block 15 152 (by decide) (C_Parser_parse_statement 15))
  have C_Parser_parse_program := ok_pm (okB := BOk 15) (rawB := blockW) (dvB := blkD) (P := l.prog) (w := w) (mg := mg) (base := base) (show 10 ≤ 154 by decide) cp_ cT_ F_Parser_parse_program b_Parser_parse_program M_Parser_parse_program m_tuple C_Parser_token C_Parser_takes C_Parser_parse_record C_Parser_parse_function
  have C_parse_program := ok_parse (P := l.prog) (w := w) (mg := mg) (base := base) (show 10 ≤ 155 by decide) cp_ F9 b9 g9 C_Parser___init__ C_Parser_parse_program
  exact ok_law F35 m_isinstance m_str m_len C__law_program C_write_program C_parse_program C__law_same
theorem walk {l : PySem.W.OpenLaw} {q : Program} {loose : List Str} {XP : (Str → Option Value) → Heap → Prop} {YP : World → Heap → Prop} {d : DefRec} {K : Params → PySem.W.Frag} (hn : l.most = some 63) (hdf : d.params.defaults = [])
    (hY : ∀ (w : World) (h : Heap), YP w h → (K w.params).In h)
    (F : ∀ (w : World) (mg : Str → Option Value) (fa : Addr) (h : Heap), (K w.params).In h → h.Ns mainGlobals mg → mg d.name = some (.ref fa) →
      ∃ fd : FuncData, (∀ (s : Shared) (u : Value), BindsTo s fd ⟨[u], []⟩ [("_law_script", u)]) ∧ ∀ base : Heap, (K w.params).In base → base.Ns mainGlobals mg → FnOk l.prog w (K w.params) mg base CX0 157 fa fd ["_law_script"] (spD (K w.params) spLaw)) :
    PySem.W.WalkO q loose XP YP l.row.toRowW d [] (fun f vs => PySem.call f vs) :=
  L2.walk_of (n := 63) (k := 157) (x := "_law_script") (CX := fun _ => CX0) (sp := fun w => spD (K w.params) spLaw) hn (by decide) hdf ⟨rfl, by decide, by decide⟩ hY F (fun _ H a ns hl hO hS => law_sp hl hO hS fun M Q q => ⟨ns, rfl, q⟩) fun _ _ _ _ _ z => z
end My
set_option maxHeartbeats 4000000
namespace My
open PySem L2 DL
end My
open PySem PySem.W PyProof.Rows
set_option maxRecDepth 100000 in
set_option maxHeartbeats 0 in
theorem PySem.Challenge.cw_lendback_k15_whole_written_programs_are_holds : PySem.Challenge.rw_lendback_k15_whole_written_programs_are.Holds := by
  w_on; o_law; k_head; (case hw => w_witness2)
  k_fill
  refine My.walk (l := PySem.Challenge.rw_lendback_k15_whole_written_programs_are) rfl rfl (fun w h Y => PySem.W.kIn_of Y) ?F
  case F =>
    intro w mg fa h KX G hmg
    refine' My.all_mk KX G hmg ?a1 ?l1 ?c1 ?k1 ?a2 ?l2 ?c2 ?k2 ?a3 ?l3 ?c3 ?k3 ?a4 ?l4 ?c4 ?k4 ?a5 ?l5 ?c5 ?k5 ?a6 ?l6 ?c6 ?k6 ?a7 ?l7 ?c7 ?k7 ?a8 ?l8 ?c8 ?k8 ?a9 ?l9 ?c9 ?k9 ?a10 ?l10 ?c10 ?k10 ?a11 ?l11 ?c11 ?k11 ?a12 ?l12 ?c12 ?k12 ?a13 ?l13 ?c13 ?k13 ?a14 ?l14 ?c14 ?k14 ?a15 ?l15 ?c15 ?k15 ?a16 ?l16 ?c16 ?k16 ?a17 ?l17 ?c17 ?k17 ?a18 ?l18 ?c18 ?k18 ?a19 ?l19 ?c19 ?k19 ?a20 ?l20 ?c20 ?k20 ?a21 ?l21 ?c21 ?k21 ?a22 ?l22 ?c22 ?k22 ?a23 ?l23 ?c23 ?k23 ?a24 ?l24 ?c24 ?k24 ?a25 ?l25 ?c25 ?k25 ?a26 ?l26 ?c26 ?k26 ?a27 ?l27 ?c27 ?k27 ?a28 ?l28 ?c28 ?k28 ?a29 ?l29 ?c29 ?k29 ?a30 ?l30 ?c30 ?k30 ?a31 ?l31 ?c31 ?k31 ?a32 ?l32 ?c32 ?k32 ?a33 ?l33 ?c33 ?k33 ?a34 ?l34 ?c34 ?k34 ?a35 ?l35 ?c35 ?k35 ?ya_Token ?yp_Token ?yh_Token ?yo_Token ?ys_Token ?ym_Token ?yk_Token ?yn_Token_form ?yn_Token_text ?yn_Token_line ?yn_Token_column ?ya_Parser ?yp_Parser ?yh_Parser ?yo_Parser ?ys_Parser ?ym_Parser ?yk_Parser ?yn_Parser_tokens ?yn_Parser_at ?a_Token___init__ ?i_Token___init__ ?l_Token___init__ ?c_Token___init__ ?k_Token___init__ ?a_Parser___init__ ?i_Parser___init__ ?l_Parser___init__ ?c_Parser___init__ ?k_Parser___init__ ?a_Parser_token ?i_Parser_token ?l_Parser_token ?c_Parser_token ?k_Parser_token ?a_Parser_fail ?i_Parser_fail ?l_Parser_fail ?c_Parser_fail ?k_Parser_fail ?a_Parser_sees ?i_Parser_sees ?l_Parser_sees ?c_Parser_sees ?k_Parser_sees ?a_Parser_takes ?i_Parser_takes ?l_Parser_takes ?c_Parser_takes ?k_Parser_takes ?a_Parser_expect ?i_Parser_expect ?l_Parser_expect ?c_Parser_expect ?k_Parser_expect ?a_Parser_take_form ?i_Parser_take_form ?l_Parser_take_form ?c_Parser_take_form ?k_Parser_take_form ?a_Parser_parse_program ?i_Parser_parse_program ?l_Parser_parse_program ?c_Parser_parse_program ?k_Parser_parse_program ?a_Parser_parse_record ?i_Parser_parse_record ?l_Parser_parse_record ?c_Parser_parse_record ?k_Parser_parse_record ?a_Parser_parse_field ?i_Parser_parse_field ?l_Parser_parse_field ?c_Parser_parse_field ?k_Parser_parse_field ?a_Parser_parse_function ?i_Parser_parse_function ?l_Parser_parse_function ?c_Parser_parse_function ?k_Parser_parse_function ?a_Parser_parse_kind ?i_Parser_parse_kind ?l_Parser_parse_kind ?c_Parser_parse_kind ?k_Parser_parse_kind ?a_Parser_parse_block ?i_Parser_parse_block ?l_Parser_parse_block ?c_Parser_parse_block ?k_Parser_parse_block ?a_Parser_parse_statement ?i_Parser_parse_statement ?l_Parser_parse_statement ?c_Parser_parse_statement ?k_Parser_parse_statement ?a_Parser_parse_simple ?i_Parser_parse_simple ?l_Parser_parse_simple ?c_Parser_parse_simple ?k_Parser_parse_simple ?a_Parser_parse_place ?i_Parser_parse_place ?l_Parser_parse_place ?c_Parser_parse_place ?k_Parser_parse_place ?a_Parser_parse_steps ?i_Parser_parse_steps ?l_Parser_parse_steps ?c_Parser_parse_steps ?k_Parser_parse_steps ?a_Parser_parse_expression ?i_Parser_parse_expression ?l_Parser_parse_expression ?c_Parser_parse_expression ?k_Parser_parse_expression ?a_Parser_parse_integer ?i_Parser_parse_integer ?l_Parser_parse_integer ?c_Parser_parse_integer ?k_Parser_parse_integer ?a_Parser_parse_named ?i_Parser_parse_named ?l_Parser_parse_named ?c_Parser_parse_named ?k_Parser_parse_named ?a_Parser_parse_arguments ?i_Parser_parse_arguments ?l_Parser_parse_arguments ?c_Parser_parse_arguments ?k_Parser_parse_arguments ?a_Parser_parse_group ?i_Parser_parse_group ?l_Parser_parse_group ?c_Parser_parse_group ?k_Parser_parse_group ?a_Parser_parse_word ?i_Parser_parse_word ?l_Parser_parse_word ?c_Parser_parse_word ?k_Parser_parse_word ?qa0 ?ql0 ?qa1 ?ql1 ?qa2 ?ql2 ?qt_SMALL ?qt_LARGE ?qt_DIGITS ?qt_LONGEST_NAME ?qt_LONGEST_NUMBER ?qt_LEAST ?qt_MOST ?xa_SyntaxProblem ?xk_SyntaxProblem ?xb_SyntaxProblem ?xt_SyntaxProblem ?xi_SyntaxProblem ?xn_ ?xy_ ?xs_SyntaxProblem_SyntaxProblem ?z_abs ?z_bool ?z_int ?z_isinstance ?z_len ?z_range ?z_str ?z_tuple
    (case a1 => k_is)
    (case l1 => k_is)
    (case c1 => k_is)
    (case k1 => k_is)
    (case a2 => k_is)
    (case l2 => k_is)
    (case c2 => k_is)
    (case k2 => k_is)
    (case a3 => k_is)
    (case l3 => k_is)
    (case c3 => k_is)
    (case k3 => k_is)
    (case a4 => k_is)
    (case l4 => k_is)
    (case c4 => k_is)
    (case k4 => k_is)
    (case a5 => k_is)
    (case l5 => k_is)
    (case c5 => k_is)
    (case k5 => k_is)
    (case a6 => k_is)
    (case l6 => k_is)
    (case c6 => k_is)
    (case k6 => k_is)
    (case a7 => k_is)
    (case l7 => k_is)
    (case c7 => k_is)
    (case k7 => k_is)
    (case a8 => k_is)
    (case l8 => k_is)
    (case c8 => k_is)
    (case k8 => k_is)
    (case a9 => k_is)
    (case l9 => k_is)
    (case c9 => k_is)
    (case k9 => k_is)
    (case a10 => k_is)
    (case l10 => k_is)
    (case c10 => k_is)
    (case k10 => k_is)
    (case a11 => k_is)
    (case l11 => k_is)
    (case c11 => k_is)
    (case k11 => k_is)
    (case a12 => k_is)
    (case l12 => k_is)
    (case c12 => k_is)
    (case k12 => k_is)
    (case a13 => k_is)
    (case l13 => k_is)
    (case c13 => k_is)
    (case k13 => k_is)
    (case a14 => k_is)
    (case l14 => k_is)
    (case c14 => k_is)
    (case k14 => k_is)
    (case a15 => k_is)
    (case l15 => k_is)
    (case c15 => k_is)
    (case k15 => k_is)
    (case a16 => k_is)
    (case l16 => k_is)
    (case c16 => k_is)
    (case k16 => k_is)
    (case a17 => k_is)
    (case l17 => k_is)
    (case c17 => k_is)
    (case k17 => k_is)
    (case a18 => k_is)
    (case l18 => k_is)
    (case c18 => k_is)
    (case k18 => k_is)
    (case a19 => k_is)
    (case l19 => k_is)
    (case c19 => k_is)
    (case k19 => k_is)
    (case a20 => k_is)
    (case l20 => k_is)
    (case c20 => k_is)
    (case k20 => k_is)
    (case a21 => k_is)
    (case l21 => k_is)
    (case c21 => k_is)
    (case k21 => k_is)
    (case a22 => k_is)
    (case l22 => k_is)
    (case c22 => k_is)
    (case k22 => k_is)
    (case a23 => k_is)
    (case l23 => k_is)
    (case c23 => k_is)
    (case k23 => k_is)
    (case a24 => k_is)
    (case l24 => k_is)
    (case c24 => k_is)
    (case k24 => k_is)
    (case a25 => k_is)
    (case l25 => k_is)
    (case c25 => k_is)
    (case k25 => k_is)
    (case a26 => k_is)
    (case l26 => k_is)
    (case c26 => k_is)
    (case k26 => k_is)
    (case a27 => k_is)
    (case l27 => k_is)
    (case c27 => k_is)
    (case k27 => k_is)
    (case a28 => k_is)
    (case l28 => k_is)
    (case c28 => k_is)
    (case k28 => k_is)
    (case a29 => k_is)
    (case l29 => k_is)
    (case c29 => k_is)
    (case k29 => k_is)
    (case a30 => k_is)
    (case l30 => k_is)
    (case c30 => k_is)
    (case k30 => k_is)
    (case a31 => k_is)
    (case l31 => k_is)
    (case c31 => k_is)
    (case k31 => k_is)
    (case a32 => k_is)
    (case l32 => k_is)
    (case c32 => k_is)
    (case k32 => k_is)
    (case a33 => k_is)
    (case l33 => k_is)
    (case c33 => k_is)
    (case k33 => k_is)
    (case a34 => k_is)
    (case l34 => k_is)
    (case c34 => k_is)
    (case k34 => k_is)
    (case a35 => k_is)
    (case l35 => k_is)
    (case c35 => k_is)
    (case k35 => k_is)
    (case ya_Token => k_is)
    (case yp_Token => k_is)
    (case yh_Token => k_is)
    (case yo_Token => k_is)
    (case ys_Token => k_is)
    (case ym_Token => k_is)
    (case yk_Token => k_is)
    (case yn_Token_form => k_is)
    (case yn_Token_text => k_is)
    (case yn_Token_line => k_is)
    (case yn_Token_column => k_is)
    (case ya_Parser => k_is)
    (case yp_Parser => k_is)
    (case yh_Parser => k_is)
    (case yo_Parser => k_is)
    (case ys_Parser => k_is)
    (case ym_Parser => k_is)
    (case yk_Parser => k_is)
    (case yn_Parser_tokens => k_is)
    (case yn_Parser_at => k_is)
    (case a_Token___init__ => k_is)
    (case i_Token___init__ => k_is)
    (case l_Token___init__ => k_is)
    (case c_Token___init__ => k_is)
    (case k_Token___init__ => k_is)
    (case a_Parser___init__ => k_is)
    (case i_Parser___init__ => k_is)
    (case l_Parser___init__ => k_is)
    (case c_Parser___init__ => k_is)
    (case k_Parser___init__ => k_is)
    (case a_Parser_token => k_is)
    (case i_Parser_token => k_is)
    (case l_Parser_token => k_is)
    (case c_Parser_token => k_is)
    (case k_Parser_token => k_is)
    (case a_Parser_fail => k_is)
    (case i_Parser_fail => k_is)
    (case l_Parser_fail => k_is)
    (case c_Parser_fail => k_is)
    (case k_Parser_fail => k_is)
    (case a_Parser_sees => k_is)
    (case i_Parser_sees => k_is)
    (case l_Parser_sees => k_is)
    (case c_Parser_sees => k_is)
    (case k_Parser_sees => k_is)
    (case a_Parser_takes => k_is)
    (case i_Parser_takes => k_is)
    (case l_Parser_takes => k_is)
    (case c_Parser_takes => k_is)
    (case k_Parser_takes => k_is)
    (case a_Parser_expect => k_is)
    (case i_Parser_expect => k_is)
    (case l_Parser_expect => k_is)
    (case c_Parser_expect => k_is)
    (case k_Parser_expect => k_is)
    (case a_Parser_take_form => k_is)
    (case i_Parser_take_form => k_is)
    (case l_Parser_take_form => k_is)
    (case c_Parser_take_form => k_is)
    (case k_Parser_take_form => k_is)
    (case a_Parser_parse_program => k_is)
    (case i_Parser_parse_program => k_is)
    (case l_Parser_parse_program => k_is)
    (case c_Parser_parse_program => k_is)
    (case k_Parser_parse_program => k_is)
    (case a_Parser_parse_record => k_is)
    (case i_Parser_parse_record => k_is)
    (case l_Parser_parse_record => k_is)
    (case c_Parser_parse_record => k_is)
    (case k_Parser_parse_record => k_is)
    (case a_Parser_parse_field => k_is)
    (case i_Parser_parse_field => k_is)
    (case l_Parser_parse_field => k_is)
    (case c_Parser_parse_field => k_is)
    (case k_Parser_parse_field => k_is)
    (case a_Parser_parse_function => k_is)
    (case i_Parser_parse_function => k_is)
    (case l_Parser_parse_function => k_is)
    (case c_Parser_parse_function => k_is)
    (case k_Parser_parse_function => k_is)
    (case a_Parser_parse_kind => k_is)
    (case i_Parser_parse_kind => k_is)
    (case l_Parser_parse_kind => k_is)
    (case c_Parser_parse_kind => k_is)
    (case k_Parser_parse_kind => k_is)
    (case a_Parser_parse_block => k_is)
    (case i_Parser_parse_block => k_is)
    (case l_Parser_parse_block => k_is)
    (case c_Parser_parse_block => k_is)
    (case k_Parser_parse_block => k_is)
    (case a_Parser_parse_statement => k_is)
    (case i_Parser_parse_statement => k_is)
    (case l_Parser_parse_statement => k_is)
    (case c_Parser_parse_statement => k_is)
    (case k_Parser_parse_statement => k_is)
    (case a_Parser_parse_simple => k_is)
    (case i_Parser_parse_simple => k_is)
    (case l_Parser_parse_simple => k_is)
    (case c_Parser_parse_simple => k_is)
    (case k_Parser_parse_simple => k_is)
    (case a_Parser_parse_place => k_is)
    (case i_Parser_parse_place => k_is)
    (case l_Parser_parse_place => k_is)
    (case c_Parser_parse_place => k_is)
    (case k_Parser_parse_place => k_is)
    (case a_Parser_parse_steps => k_is)
    (case i_Parser_parse_steps => k_is)
    (case l_Parser_parse_steps => k_is)
    (case c_Parser_parse_steps => k_is)
    (case k_Parser_parse_steps => k_is)
    (case a_Parser_parse_expression => k_is)
    (case i_Parser_parse_expression => k_is)
    (case l_Parser_parse_expression => k_is)
    (case c_Parser_parse_expression => k_is)
    (case k_Parser_parse_expression => k_is)
    (case a_Parser_parse_integer => k_is)
    (case i_Parser_parse_integer => k_is)
    (case l_Parser_parse_integer => k_is)
    (case c_Parser_parse_integer => k_is)
    (case k_Parser_parse_integer => k_is)
    (case a_Parser_parse_named => k_is)
    (case i_Parser_parse_named => k_is)
    (case l_Parser_parse_named => k_is)
    (case c_Parser_parse_named => k_is)
    (case k_Parser_parse_named => k_is)
    (case a_Parser_parse_arguments => k_is)
    (case i_Parser_parse_arguments => k_is)
    (case l_Parser_parse_arguments => k_is)
    (case c_Parser_parse_arguments => k_is)
    (case k_Parser_parse_arguments => k_is)
    (case a_Parser_parse_group => k_is)
    (case i_Parser_parse_group => k_is)
    (case l_Parser_parse_group => k_is)
    (case c_Parser_parse_group => k_is)
    (case k_Parser_parse_group => k_is)
    (case a_Parser_parse_word => k_is)
    (case i_Parser_parse_word => k_is)
    (case l_Parser_parse_word => k_is)
    (case c_Parser_parse_word => k_is)
    (case k_Parser_parse_word => k_is)
    (case qa0 => k_is)
    (case ql0 => k_is)
    (case qa1 => k_is)
    (case ql1 => k_is)
    (case qa2 => k_is)
    (case ql2 => k_is)
    (case qt_SMALL => k_is)
    (case qt_LARGE => k_is)
    (case qt_DIGITS => k_is)
    (case qt_LONGEST_NAME => k_is)
    (case qt_LONGEST_NUMBER => k_is)
    (case qt_LEAST => k_is)
    (case qt_MOST => k_is)
    (case xa_SyntaxProblem => k_is)
    (case xk_SyntaxProblem => k_is)
    (case xb_SyntaxProblem => k_is)
    (case xt_SyntaxProblem => k_is)
    (case xi_SyntaxProblem => k_is)
    (case xn_ => k_is)
    (case xy_ => k_is)
    (case xs_SyntaxProblem_SyntaxProblem => first | rfl | k_is)
    (case z_abs => k_is)
    (case z_bool => k_is)
    (case z_int => k_is)
    (case z_isinstance => k_is)
    (case z_len => k_is)
    (case z_range => k_is)
    (case z_str => k_is)
    (case z_tuple => k_is)
#print axioms PySem.Challenge.cw_lendback_k15_whole_written_programs_are_holds
