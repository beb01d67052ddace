import PyProof.Rows.All
import Wide.All
import OpenK.AllK
import Wide.FinOn
import HandS.ForMost
import HandS.ForExc
import HandS.TupAny
import HandS.DeepEq
import HandS.IsInst
import HandS.Lambda
import KE.KeyNested
import HandS.Walk
import KE.GoesEnum
import HandS.ExcIs
import HandS.ListItems
import HandS.Conv
import HandS.WordsDict
import HandS.ExcOwn
import HandS.More
import HandS.SetFor
import HandS.Deep
import HandS.Text
import HandS.RaiseMore
import HandS.Wide
import KE.IntTextLaws
import HandS.TupMul
import HandS.ExcInit
import HandS.ExcField
import KE.KSuper
import KE.KExcSuper
import KE.KExcLine
import HandS.Iter
import HandS.Rev
import HandS.RevTup
import PyProof.ListNew
import HandS.FStr
import HandS.SortInts
import PyProof.SeqRoads2
import HandS.Nested
import HandS.SortKw
import KE.SortKeyHeap
import HandS.DictComp
import PyProof.DictRoadsH
import PyProof.Rows.TupTab
import HandS.Style
import PyProof.ReprRoads
import HandS.EndTab
import HandS.Head0
import HandS.Head1
import HandS.Head2
import PySem.Challenge.RW_lendback_k45_shortest_lists
set_option Elab.async false
set_option linter.all false
set_option maxRecDepth 100000
set_option maxHeartbeats 1000000
namespace DL
open PySem L2
/-- data: what a program's value is, whatever the addresses of its tuples -/
inductive D where
  | non | bl (b : Bool) | int (i : Int) | str (x : Str) | ref (a : Addr) | ty (n : String) | tup (l : List D) | rol (l : List D)
/-! ### dicts whose keys are any nested data: the keys' data, told of the object -/
/-- the dict at a: its entries' keys (as keys, as values) and values -/
def noP (w : World) (a : Addr) (es : List (NestedKey × V × V)) : Heap → Prop := fun h => es.length ≤ sizeLine ∧ (a == sysModules) = false ∧ (es.map (·.1)).Nodup ∧
  ∃ o ar ep, h.get? a = some o ∧ o.ExactDict ∧ o.data = .dict ar ep ∧ Paired (fun (x : NestedKey × V × V) (e : DictEntry) => e.hash = x.1.hash w ∧ L2.RelV x.2.1 e.key ∧ L2.RelV x.2.2 e.val) es ar.toList
def NO (w : World) (a : Addr) (es : List (NestedKey × V × V)) : HO := .ext (noP w a es)
/-- objects that never change keep standing -/
def fixedO : HO → Prop
  | .tup _ => True
  | .frz _ _ => True
  | .ext φ => ∀ w a es, φ ≠ noP w a es
  | _ => False
theorem nfixed_NO {w : World} {a : Addr} {es : List (NestedKey × V × V)} : ¬ fixedO (NO w a es) := fun h => h w a es rfl
/-- what is true of a heap without dicts -/
theorem fixed_ext {φ : Heap → Prop} (ob : Obj) (n : Nat) (hd : ∀ es ep, ob.data ≠ .dict es ep) (h : φ { objs := Array.replicate n ob }) : fixedO (.ext φ) := fun w a es e => by
  rw [e] at h
  obtain ⟨_, _, _, o, ar, ep, ho, _, hdat, _⟩ := h
  have : ∀ o, ({ objs := Array.replicate n ob } : Heap).get? a = some o → o = ob := by
    intro o h
    unfold Heap.get? at h
    have ea : ∀ x, (Array.replicate n ob)[a]? = some x → x = ob := fun x hx => by
      rw [Array.getElem?_replicate] at hx
      split at hx
      · exact (Option.some.inj hx).symm
      · cases hx
    split at h
    · cases h
    · exact ea _ h
  rw [this o ho] at hdat
  exact hd _ _ hdat
theorem get_repl {n a : Nat} {ob : Obj} (h : a < n) (hf : ∀ x y z, ob ≠ ⟨x, y, .freed, z⟩) : ({ objs := Array.replicate n ob } : Heap).get? a = some ob := by
  unfold Heap.get?
  have e : (Array.replicate n ob)[a]? = some ob := by rw [Array.getElem?_replicate, if_pos h]
  show (match (Array.replicate n ob)[a]? with
    | some ⟨_, _, .freed, _⟩ => none
    | o => o) = some ob
  rw [e]
  split
  · rename_i x y z q
    exact absurd (Option.some.inj q) (hf _ _ _)
  · rfl
theorem fixed_code {c : Addr} {q : Str} : fixedO (LamX.CodeO c q) :=
  fixed_ext { cls := .none, data := .fields #[.none, .str q 0] } (c + 1) (fun _ _ h => nomatch h) ⟨_, _, 0, get_repl (Nat.lt_succ_self c) (fun _ _ _ h => nomatch h), rfl, rfl⟩
def Imm (H H' : Hp) : Prop := ∀ a o, H a = some o → fixedO o → H' a = some o
theorem Imm.refl (H : Hp) : Imm H H := fun _ _ h _ => h
theorem Imm.trans {H H1 H2 : Hp} (a : Imm H H1) (b : Imm H1 H2) : Imm H H2 := fun x o h f => b x o (a x o h f) f
theorem Imm.new {H : Hp} {p : Addr} {o : HO} (h : H p = none) : Imm H (upd H p o) := fun a u e _ => by
  rw [upd_ne (ne_of_none e h)]
  exact e
theorem Imm.set {H : Hp} {p : Addr} {o u : HO} (h : H p = some u) (nf : ¬ fixedO u) : Imm H (upd H p o) := fun a w e f => by
  by_cases hap : a = p
  · subst hap
    rw [h] at e
    cases e
    exact absurd f nf
  · rw [upd_ne hap]
    exact e
theorem imm_rdT {H H' : Hp} {a : Addr} {xs : List V} (i : Imm H H') (h : Rd H a (.tup xs)) : Rd H' a (.tup xs) := by
  rcases h with h | ⟨o, h⟩
  · exact .inl (i a _ h trivial)
  · exact .inr ⟨o, i a _ h trivial⟩
theorem imm_sqT {K : PySem.W.Frag} {H H' : Hp} {a : Addr} {xs : List V} (i : Imm H H') (h : SqT K H a xs) : SqT K H' a xs := by
  rcases h with h | h
  · exact .inl (imm_rdT i h)
  · exact .inr h
/-- a list that never changes -/
def SqF (K : PySem.W.Frag) (H : Hp) (a : Addr) (xs : List V) : Prop :=
  (∃ o, H a = some (.frz o (.lst xs))) ∨
    ∃ (o : Obj) (its : Array Value) (n : Nat), K.lookup a = some o ∧ o.cls = .type "list" ∧ o.dict = none ∧ o.data = .seq its n ∧ its.size ≤ sizeLine ∧ Vals xs its.toList
theorem SqF.sq {K : PySem.W.Frag} {H : Hp} {a : Addr} {xs : List V} (h : SqF K H a xs) : SqL K H a xs := by
  rcases h with ⟨o, h⟩ | h
  · exact .inl (.inr ⟨o, h⟩)
  · exact .inr h
theorem imm_sqF {K : PySem.W.Frag} {H H' : Hp} {a : Addr} {xs : List V} (i : Imm H H') (h : SqF K H a xs) : SqF K H' a xs := by
  rcases h with ⟨o, h⟩ | h
  · exact .inl ⟨o, i a _ h trivial⟩
  · exact .inr h
mutual
inductive Tp (K : PySem.W.Frag) (H : Hp) : V → D → Prop
  | non : Tp K H .non .non
  | bl (b : Bool) : Tp K H (.bl b) (.bl b)
  | int (i : Int) : Tp K H (.int i) (.int i)
  | str (x : Str) : Tp K H (.str x) (.str x)
  | ref (a : Addr) : Tp K H (.ref a) (.ref a)
  | ty (n : String) : Tp K H (.ty n) (.ty n)
  | tup {a : Addr} {xs : List V} {ds : List D} : SqT K H a xs → Tps K H xs ds → Tp K H (.ref a) (.tup ds)
  | rol {a : Addr} {xs : List V} {ds : List D} : SqF K H a xs → Tps K H xs ds → Tp K H (.ref a) (.rol ds)
inductive Tps (K : PySem.W.Frag) (H : Hp) : List V → List D → Prop
  | nil : Tps K H [] []
  | cons {v : V} {vs : List V} {d : D} {ds : List D} : Tp K H v d → Tps K H vs ds → Tps K H (v :: vs) (d :: ds)
end
mutual
theorem Tp.mono {K : PySem.W.Frag} {H H' : Hp} (i : Imm H H') : ∀ (d : D) (v : V), Tp K H v d → Tp K H' v d
  | .non, _, h => by cases h; exact .non
  | .bl b, _, h => by cases h; exact .bl b
  | .int n, _, h => by cases h; exact .int n
  | .str x, _, h => by cases h; exact .str x
  | .ref a, _, h => by cases h; exact .ref a
  | .ty n, _, h => by cases h; exact .ty n
  | .tup ds, _, h => by
    cases h with
    | tup hs ha => exact .tup (imm_sqT i hs) (Tps.mono i ds _ ha)
  | .rol ds, _, h => by
    cases h with
    | rol hs ha => exact .rol (imm_sqF i hs) (Tps.mono i ds _ ha)
theorem Tps.mono {K : PySem.W.Frag} {H H' : Hp} (i : Imm H H') : ∀ (ds : List D) (vs : List V), Tps K H vs ds → Tps K H' vs ds
  | [], _, h => by cases h; exact .nil
  | d :: ds, _, h => by
    cases h with
    | cons h1 h2 => exact .cons (Tp.mono i d _ h1) (Tps.mono i ds _ h2)
end
section
variable {K : PySem.W.Frag} {H : Hp}
theorem Tps.length : ∀ {vs : List V} {ds : List D}, Tps K H vs ds → vs.length = ds.length
  | _, _, .nil => rfl
  | _, _, .cons _ t => by rw [List.length_cons, List.length_cons, Tps.length t]
theorem Tps.get : ∀ {vs : List V} {ds : List D} {i : Nat} {d : D}, Tps K H vs ds → ds[i]? = some d → ∃ v, vs[i]? = some v ∧ Tp K H v d
  | _, _, _, _, .nil, h => by simp at h
  | _, _, 0, _, .cons r _, h => by simp at h; subst h; exact ⟨_, rfl, r⟩
  | _, _, i + 1, _, .cons _ t, h => by
    obtain ⟨v, e, r⟩ := Tps.get (i := i) t (by simpa using h)
    exact ⟨v, by simpa using e, r⟩
theorem Tps.get' : ∀ {vs : List V} {ds : List D} {i : Nat} {v : V}, Tps K H vs ds → vs[i]? = some v → ∃ d, ds[i]? = some d ∧ Tp K H v d
  | _, _, _, _, .nil, h => by simp at h
  | _, _, 0, _, .cons r _, h => by simp at h; subst h; exact ⟨_, rfl, r⟩
  | _, _, i + 1, _, .cons _ t, h => by
    obtain ⟨v, e, r⟩ := Tps.get' (i := i) t (by simpa using h)
    exact ⟨v, by simpa using e, r⟩
theorem Tps.append : ∀ {vs us : List V} {ds es : List D}, Tps K H vs ds → Tps K H us es → Tps K H (vs ++ us) (ds ++ es)
  | _, _, _, _, .nil, s => s
  | _, _, _, _, .cons r t, s => .cons r (Tps.append t s)
theorem Tps.take : ∀ {vs : List V} {ds : List D} (n : Nat), Tps K H vs ds → Tps K H (vs.take n) (ds.take n)
  | _, _, 0, _ => .nil
  | _, _, _ + 1, .nil => .nil
  | _, _, n + 1, .cons r t => .cons r (Tps.take n t)
theorem Tps.drop : ∀ {vs : List V} {ds : List D} (n : Nat), Tps K H vs ds → Tps K H (vs.drop n) (ds.drop n)
  | _, _, 0, r => r
  | _, _, _ + 1, .nil => .nil
  | _, _, n + 1, .cons _ t => Tps.drop n t
theorem Tps.set {v : V} {d : D} (r : Tp K H v d) : ∀ {vs : List V} {ds : List D} (n : Nat), Tps K H vs ds → Tps K H (vs.set n v) (ds.set n d)
  | _, _, _, .nil => .nil
  | _, _, 0, .cons _ t => .cons r t
  | _, _, n + 1, .cons q t => .cons q (Tps.set r n t)
theorem Tps.dropLast : ∀ {vs : List V} {ds : List D}, Tps K H vs ds → Tps K H vs.dropLast ds.dropLast
  | _, _, .nil => .nil
  | _, _, .cons _ .nil => .nil
  | _, _, .cons r (.cons q t) => .cons r (Tps.dropLast (.cons q t))
theorem Tps.eraseIdx : ∀ {vs : List V} {ds : List D} (n : Nat), Tps K H vs ds → Tps K H (vs.eraseIdx n) (ds.eraseIdx n)
  | _, _, _, .nil => .nil
  | _, _, 0, .cons _ t => t
  | _, _, n + 1, .cons r t => .cons r (Tps.eraseIdx n t)
theorem Tps.cut {vs : List V} {ds : List D} (lo hi : Option Int) (r : Tps K H vs ds) : Tps K H (cutV vs lo hi) ((ds.drop (HT.sIx ds.length 0 lo)).take (HT.sIx ds.length ds.length hi - HT.sIx ds.length 0 lo)) := by
  unfold cutV
  rw [r.length]
  exact (r.drop _).take _
theorem Tps.reverse {vs : List V} {ds : List D} (r : Tps K H vs ds) : Tps K H vs.reverse ds.reverse := by
  induction r using Tps.rec (motive_1 := fun _ _ _ => True) with
  | nil => exact .nil
  | cons r _ _ ih => rw [List.reverse_cons, List.reverse_cons]; exact ih.append (.cons r .nil)
  | _ => trivial
theorem Tps.ints : ∀ (ns : List Int), Tps K H (ns.map V.int) (ns.map D.int)
  | [] => .nil
  | n :: r => .cons (.int n) (Tps.ints r)
theorem tps_ints : ∀ {vs : List V} {ns : List Int}, Tps K H vs (ns.map D.int) → vs = ns.map V.int
  | _, [], .nil => rfl
  | _, n :: r, .cons h t => by cases h; rw [tps_ints t]; rfl
theorem tps_strs : ∀ {vs : List V} {ns : List Str}, Tps K H vs (ns.map D.str) → vs = ns.map V.str
  | _, [], .nil => rfl
  | _, n :: r, .cons h t => by cases h; rw [tps_strs t]; rfl
theorem Tps.strs : ∀ (ns : List Str), Tps K H (ns.map V.str) (ns.map D.str)
  | [] => .nil
  | n :: r => .cons (.str n) (Tps.strs r)
end
/-! ### what stands at an address that may change -/
inductive MO where
  | lst (ds : List D)
  | dK (kvs : List (Key × D))
  | ins (C dx : Addr) (fs : List (Str × D))
  | own (x : Addr)
  | fix (o : HO)
  | xd (fs : List (Str × D))
  | tab (nm : Nat → Nat → Str)
  | dN (w : World) (a : Addr) (ks : List NestedKey)
abbrev Mp := Addr → Option MO
def updM (M : Mp) (a : Addr) (o : MO) : Mp := fun b => if b = a then some o else M b
theorem updM_same {M : Mp} {a : Addr} {o : MO} : updM M a o a = some o := by unfold updM; rw [if_pos rfl]
theorem updM_ne {M : Mp} {a b : Addr} {o : MO} (h : b ≠ a) : updM M a o b = M b := by unfold updM; rw [if_neg h]
theorem updM_updM {M : Mp} {a : Addr} {o u : MO} : updM (updM M a o) a u = updM M a u := by
  funext b; unfold updM; split <;> rfl
inductive KVs (K : PySem.W.Frag) (H : Hp) {κ : Type} : List (κ × V) → List (κ × D) → Prop
  | nil : KVs K H [] []
  | cons {k : κ} {v : V} {d : D} {vs : List (κ × V)} {ds : List (κ × D)} : Tp K H v d → KVs K H vs ds → KVs K H ((k, v) :: vs) ((k, d) :: ds)
theorem KVs.mono {K : PySem.W.Frag} {H H' : Hp} {κ : Type} (i : Imm H H') : ∀ {vs : List (κ × V)} {ds : List (κ × D)}, KVs K H vs ds → KVs K H' vs ds
  | _, _, .nil => .nil
  | _, _, .cons r t => .cons (Tp.mono i _ _ r) (KVs.mono i t)
theorem KVs.length {K : PySem.W.Frag} {H : Hp} {κ : Type} : ∀ {vs : List (κ × V)} {ds : List (κ × D)}, KVs K H vs ds → vs.length = ds.length
  | _, _, .nil => rfl
  | _, _, .cons _ t => by rw [List.length_cons, List.length_cons, KVs.length t]
mutual
/-- data as a key -/
def nkD : D → NestedKey
  | .int i => .num i
  | .str x => .text x
  | .tup l => .tup (nksD l)
  | _ => .none
def nksD : List D → List NestedKey
  | [] => []
  | d :: l => nkD d :: nksD l
end
mutual
/-- data that are keys: None, ints, texts, tuples of these -/
def kyD : D → Bool
  | .non => true
  | .int _ => true
  | .str _ => true
  | .tup l => kysD l
  | _ => false
def kysD : List D → Bool
  | [] => true
  | d :: l => kyD d && kysD l
end
def RelO (K : PySem.W.Frag) (H : Hp) : MO → HO → Prop
  | .dN w a ks, o => ∃ es, o = NO w a es ∧ es.map (·.1) = ks ∧ ∀ x ∈ es, ∃ d, kyD d = true ∧ nkD d = x.1 ∧ x.1.depth ≤ 8 ∧ Tp K H x.2.1 d
  | .lst ds, o => ∃ xs, o = .lst xs ∧ Tps K H xs ds
  | .dK kvs, o => ∃ xs, o = .dK xs ∧ KVs K H xs kvs
  | .ins C dx fs, o => ∃ gs, o = .ins C dx gs ∧ KVs K H gs fs
  | .own x, o => o = .own x
  | .fix u, o => o = u ∧ fixedO u
  | .xd fs, o => ∃ gs, o = .xd gs ∧ KVs K H gs fs
  | .tab nm, o => ∃ ps : Array Value, o = .tbl ps ∧ TriplesOk ps.toList ∧ ∀ (pos : Pos) (cv : Value), codeAmong pos ps.toList = some cv → ∃ c, cv = .ref c ∧ H c = some (LamX.CodeO c (nm pos.line pos.col))
theorem RelO.mono {K : PySem.W.Frag} {H H' : Hp} (i : Imm H H') : ∀ {m : MO} {o : HO}, RelO K H m o → RelO K H' m o
  | .dN _ _ _, _, ⟨es, e, e2, h⟩ => ⟨es, e, e2, fun x hx => let ⟨d, a, b, c, t⟩ := h x hx; ⟨d, a, b, c, Tp.mono i _ _ t⟩⟩
  | .lst _, _, ⟨xs, e, h⟩ => ⟨xs, e, Tps.mono i _ _ h⟩
  | .dK _, _, ⟨xs, e, h⟩ => ⟨xs, e, KVs.mono i h⟩
  | .ins _ _ _, _, ⟨gs, e, h⟩ => ⟨gs, e, KVs.mono i h⟩
  | .own _, _, e => e
  | .fix _, _, e => e
  | .xd _, _, ⟨gs, e, h⟩ => ⟨gs, e, KVs.mono i h⟩
  | .tab _, _, ⟨ps, e, h1, h2⟩ => ⟨ps, e, h1, fun pos cv hc => let ⟨c, a, b⟩ := h2 pos cv hc; ⟨c, a, i _ _ b fixed_code⟩⟩
def RelM (K : PySem.W.Frag) (M : Mp) (H : Hp) : Prop := ∀ a m, M a = some m → ∃ o, H a = some o ∧ RelO K H m o
section
variable {K : PySem.W.Frag} {H H' : Hp} {M M' : Mp} {p : Addr} {m : MO} {o : HO}
theorem RelM.fresh (r : RelM K M H) (h : H p = none) : M p = none := by
  cases e : M p with
  | none => rfl
  | some m =>
    obtain ⟨o, q, _⟩ := r p m e
    rw [h] at q
    cases q
/-- a new object that M does not tell -/
theorem RelM.skip (r : RelM K M H) (h : H p = none) : RelM K M (upd H p o) := fun a m e => by
  obtain ⟨u, q, z⟩ := r a m e
  exact ⟨u, by rw [upd_ne (ne_of_none q h)]; exact q, z.mono (Imm.new h)⟩
theorem RelM.new (r : RelM K M H) (h : H p = none) (z : RelO K (upd H p o) m o) : RelM K (updM M p m) (upd H p o) := fun a n e => by
  by_cases hap : a = p
  · subst hap
    rw [updM_same] at e
    cases e
    exact ⟨o, upd_same, z⟩
  · rw [updM_ne hap] at e
    exact r.skip h a n e
theorem RelM.set (r : RelM K M H) {u : HO} (h : H p = some u) (nf : ¬ fixedO u) (z : RelO K (upd H p o) m o) : RelM K (updM M p m) (upd H p o) := fun a n e => by
  by_cases hap : a = p
  · subst hap
    rw [updM_same] at e
    cases e
    exact ⟨o, upd_same, z⟩
  · rw [updM_ne hap] at e
    obtain ⟨w, q, y⟩ := r a n e
    exact ⟨w, by rw [upd_ne hap]; exact q, y.mono (Imm.set h nf)⟩
/-- less is told -/
def Mle (M M' : Mp) : Prop := ∀ a m, M a = some m → M' a = some m
theorem Mle.refl (M : Mp) : Mle M M := fun _ _ h => h
theorem Mle.trans {M M1 M2 : Mp} (a : Mle M M1) (b : Mle M1 M2) : Mle M M2 := fun x o h => b x o (a x o h)
theorem Mle.new (h : M p = none) : Mle M (updM M p m) := fun a n e => by
  rw [updM_ne (by rintro rfl; rw [h] at e; cases e)]
  exact e
theorem Mle.new2 (l : Mle M M') (h : M p = none) : Mle M (updM M' p m) := fun a n e => by
  rw [updM_ne (by rintro rfl; rw [h] at e; cases e)]
  exact l a n e
theorem RelM.le (r : RelM K M' H) (l : Mle M M') : RelM K M H := fun a n e => r a n (l a n e)
theorem mne {a b : Addr} {m : MO} (h : M a = some m) (h' : M b = none) : a ≠ b := by
  rintro rfl
  rw [h] at h'
  cases h'
end
theorem Mle.fresh {M M' : Mp} {p : Addr} (l : Mle M M') (h : M' p = none) : M p = none := by
  cases e : M p with
  | none => rfl
  | some m =>
    have := l p m e
    rw [h] at this
    cases this
theorem Mle.newR {M M' : Mp} {p : Addr} {m : MO} (l : Mle M M') (h : M' p = none) : Mle M (updM M' p m) := l.new2 (l.fresh h)
/-- all but what stands at a is kept -/
def Keep (a : Addr) (M M' : Mp) : Prop := ∀ b m, b ≠ a → M b = some m → M' b = some m
theorem Keep.refl {a : Addr} {M : Mp} : Keep a M M := fun _ _ _ h => h
theorem Keep.trans {a : Addr} {M M1 M2 : Mp} (h : Keep a M M1) (k : Keep a M1 M2) : Keep a M M2 := fun b m hb e => k b m hb (h b m hb e)
theorem Keep.upd {a : Addr} {M : Mp} {m : MO} : Keep a M (updM M a m) := fun b n hb e => by rw [updM_ne hb]; exact e
theorem Keep.set {a : Addr} {M M' : Mp} {m : MO} (k : Keep a M M') : Keep a M (updM M' a m) := k.trans Keep.upd
theorem Keep.newR {a p : Addr} {M M' : Mp} {m : MO} (k : Keep a M M') (h : M' p = none) : Keep a M (updM M' p m) := fun b n hb e => by
  have e' := k b n hb e
  rw [updM_ne (by rintro rfl; rw [h] at e'; cases e')]
  exact e'
theorem Mle.keep {a : Addr} {M M' : Mp} (l : Mle M M') : Keep a M M' := fun b m _ e => l b m e
theorem Keep.to {a : Addr} {M M1 M2 : Mp} (h : Keep a M M1) (l : Mle M1 M2) : Keep a M M2 := h.trans l.keep
/-- a write to another place that M does not tell -/
theorem Keep.setN {a p : Addr} {M M' : Mp} {m : MO} (k : Keep a M M') (h : M p = none) : Keep a M (updM M' p m) := fun b n hb e => by
  rw [updM_ne (by rintro rfl; rw [h] at e; cases e)]
  exact k b n hb e
theorem Keep.fresh {a p : Addr} {M M' : Mp} (k : Keep a M M') (ha : ∃ m, M' a = some m) (h : M' p = none) : M p = none := by
  cases e : M p with
  | none => rfl
  | some m =>
    have hne : p ≠ a := by
      rintro rfl
      obtain ⟨m', q⟩ := ha
      rw [h] at q
      cases q
    have := k p m hne e
    rw [h] at this
    cases this
theorem Keep.other {a p : Addr} {M M1 M2 : Mp} (k : Keep a M M1) (k' : Keep p M1 M2) (h : M p = none) : Keep a M M2 := fun b m hb e => k' b m (by rintro rfl; rw [h] at e; cases e) (k b m hb e)
theorem Mle.other {p : Addr} {M M1 M2 : Mp} (k : Mle M M1) (k' : Keep p M1 M2) (h : M p = none) : Mle M M2 := fun b m e => k' b m (by rintro rfl; rw [h] at e; cases e) (k b m e)
/-- a new object; an object changed -/
def NewM (M : Mp) (o : MO) (Q : Addr → Mp → Prop) : Prop := ∀ p M', M p = none → M' p = some o → Mle M M' → Q p M'
def SetM (M : Mp) (a : Addr) (o : MO) (Q : Mp → Prop) : Prop := ∀ M', M' a = some o → Keep a M M' → Q M'
theorem NewM.at {M : Mp} {o : MO} {Q : Addr → Mp → Prop} (h : NewM M o Q) {p : Addr} (hp : M p = none) : Q p (updM M p o) := h p _ hp updM_same (Mle.new hp)
theorem SetM.at {M : Mp} {a : Addr} {o : MO} {Q : Mp → Prop} (h : SetM M a o Q) : Q (updM M a o) := h _ updM_same Keep.upd
theorem Keep.at {a p : Addr} {M M' : Mp} {m : MO} (k : Keep a M M') (h : p ≠ a) (e : M p = some m) : M' p = some m := k p m h e
theorem Mle.at {p : Addr} {M M' : Mp} {m : MO} (k : Mle M M') (e : M p = some m) : M' p = some m := k p m e
/-! ### slots -/
abbrev Sd := List (Option D)
structure Slots (K : PySem.W.Frag) (H : Hp) (σv : L2.St) (σ : Sd) : Prop where
  len : σv.length = σ.length
  at_ : ∀ (i : Nat) (d : D), σ[i]? = some (some d) → ∃ v, σv[i]? = some (some v) ∧ Tp K H v d
section
variable {K : PySem.W.Frag} {H H' : Hp} {σv : L2.St} {σ : Sd}
theorem Slots.mono (i : Imm H H') (s : Slots K H σv σ) : Slots K H' σv σ := ⟨s.len, fun j d h => let ⟨v, e, r⟩ := s.at_ j d h; ⟨v, e, Tp.mono i _ _ r⟩⟩
theorem Slots.set (s : Slots K H σv σ) {v : V} {d : D} (r : Tp K H v d) (i : Nat) : Slots K H (σv.set i (some v)) (σ.set i (some d)) := by
  refine ⟨by rw [List.length_set, List.length_set, s.len], fun j e h => ?_⟩
  by_cases hj : j = i
  · subst hj
    by_cases hl : j < σ.length
    · rw [List.getElem?_set_self hl] at h
      cases h
      exact ⟨v, by rw [List.getElem?_set_self (by rw [s.len]; exact hl)], r⟩
    · rw [List.getElem?_eq_none (by rw [List.length_set]; omega)] at h
      cases h
  · rw [List.getElem?_set_ne (Ne.symm hj)] at h
    obtain ⟨v', e', r'⟩ := s.at_ j e h
    exact ⟨v', by rw [List.getElem?_set_ne (Ne.symm hj)]; exact e', r'⟩
def startD (N : List Str) (ds : List D) : Sd := ds.map some ++ List.replicate (N.length - ds.length) none
theorem Slots.start {N : List Str} {vs : List V} {ds : List D} (r : Tps K H vs ds) : Slots K H (L2.start N vs) (startD N ds) := by
  refine ⟨by unfold L2.start startD; rw [List.length_append, List.length_append, List.length_map, List.length_map, List.length_replicate, List.length_replicate, r.length], fun i d h => ?_⟩
  unfold startD at h
  by_cases hi : i < ds.length
  · rw [List.getElem?_append_left (by rw [List.length_map]; exact hi), List.getElem?_map] at h
    cases e : ds[i]? with
    | none => rw [e] at h; cases h
    | some d' =>
      rw [e] at h
      cases h
      obtain ⟨v, q, z⟩ := r.get e
      refine ⟨v, ?_, z⟩
      unfold L2.start
      rw [List.getElem?_append_left (by rw [List.length_map, r.length]; exact hi), List.getElem?_map, q]
      rfl
  · rw [List.getElem?_append_right (by rw [List.length_map]; omega), List.getElem?_replicate] at h
    split at h <;> cases h
end
end DL
set_option maxHeartbeats 1000000
namespace DL
open PySem L2 PySem.Spec PyProof.Rows
/-! ### readings by meaning -/
def tE (X : Cx) (e : Expr) : TE := fun σ H Q => ∀ pins s, Inv X pins σ H s → wpAny (model X.prog X.w) X.A (eval e X.env) (EP X pins σ Q) X.xe s
def tT (X : Cx) (e : Expr) : TT := fun σ H Q => ∀ pins s, Inv X pins σ H s → wpAny (model X.prog X.w) X.A (isTrue e X.env (eval e X.env)) (TP X pins σ Q) X.xe s
def tW (X : Cx) (e : Expr) : TT := fun σ H Q => ∀ whole pins s, Inv X pins σ H s → wpAny (model X.prog X.w) X.A (isTrue e X.env whole) (TP X pins σ Q) X.xe s
def tA (X : Cx) (es : List Expr) : TA := fun σ H Q => ∀ pos pins s, Inv X pins σ H s → wpAny (model X.prog X.w) X.A (spliced (backTo pos (starEach es X.env))) (AP X pins σ Q) X.xe s
def tS (X : Cx) (st : Stmt) : TS := fun D σ H => ∀ pins s, Inv X pins σ H s → wpAny (model X.prog X.w) X.A (exec st X.env) (SP X pins D) X.xe s
def tSs (X : Cx) (st : List Stmt) : TS := fun D σ H => ∀ pins s, Inv X pins σ H s → wpAny (model X.prog X.w) X.A (execs st X.env) (SP X pins D) X.xe s
def tG (X : Cx) (tg : Expr) : TG := fun v σ H Q => ∀ pins s u, Inv X pins σ H s → RelV v u → wpAny (model X.prog X.w) X.A (assign tg X.env u) (fun _ s' => ∃ σ' H', Inv X pins σ' H' s' ∧ Q σ' H') X.xe s
def tGs (X : Cx) (ts : List Expr) : TGs := fun vs σ H Q => ∀ pins s us, Inv X pins σ H s → Vals vs us → wpAny (model X.prog X.w) X.A (assignInOrder ((assignEach ts X.env).map (·.2)) us) (fun _ s' => ∃ σ' H', Inv X pins σ' H' s' ∧ Q σ' H') X.xe s
def tI (X : Cx) (tg iter : Expr) : TI := fun σ H R => ∀ pins s, Inv X pins σ H s → wpAny (model X.prog X.w) X.A (eval iter X.env) (fun v s1 => wpAny (model X.prog X.w) X.A (pyIter v) (PIE X pins σ tg R) X.xe s1) X.xe s
def tO (X : Cx) (e : Option Expr) (t : TO) : Prop := PO X e t
section
variable {X : Cx} {e : Expr} {es : List Expr} {st : Stmt} {sts : List Stmt} {tg iter : Expr}
theorem pe_sem : PE X e (tE X e) := ⟨fun pins s σ H Q I h => h pins s I⟩
theorem pt_sem : PT X e (tT X e) := ⟨fun pins s σ H Q I h => h pins s I⟩
theorem pw_sem : PW X e (tW X e) := ⟨fun wh pins s σ H Q I h => h wh pins s I⟩
theorem pa_sem : PA X es (tA X es) := ⟨fun pos pins s σ H Q I h => h pos pins s I⟩
theorem ps_sem : PS X st (tS X st) := ⟨fun pins s σ H D I h => h pins s I⟩
theorem pss_sem : PSs X sts (tSs X sts) := ⟨fun pins s σ H D I h => h pins s I⟩
theorem pg_sem : PG X tg (tG X tg) := ⟨fun pins s σ H v u Q I r h => h pins s u I r⟩
theorem pgs_sem : PGs X es (tGs X es) := ⟨fun pins s σ H vs us Q I r h => h pins s us I r⟩
theorem pi_sem : PI X tg iter (tI X tg iter) := ⟨fun pins s σ H R I h => h pins s I⟩
variable {σ σ' : L2.St} {H H' : Hp}
theorem tE.mono {Q Q' : VK} (h : tE X e σ H Q) (k : ∀ v H', Q v H' → Q' v H') : tE X e σ H Q' := fun pins s I => thn (h pins s I) fun u s' ⟨v, H', I', r, q⟩ => ⟨v, H', I', r, k v H' q⟩
theorem tT.mono {Q Q' : Bool → Hp → Prop} (h : tT X e σ H Q) (k : ∀ v H', Q v H' → Q' v H') : tT X e σ H Q' := fun pins s I => thn (h pins s I) fun u s' ⟨H', I', q⟩ => ⟨H', I', k u H' q⟩
theorem tW.mono {Q Q' : Bool → Hp → Prop} (h : tW X e σ H Q) (k : ∀ v H', Q v H' → Q' v H') : tW X e σ H Q' := fun wh pins s I => thn (h wh pins s I) fun u s' ⟨H', I', q⟩ => ⟨H', I', k u H' q⟩
theorem tA.mono {Q Q' : List V → Hp → Prop} (h : tA X es σ H Q) (k : ∀ v H', Q v H' → Q' v H') : tA X es σ H Q' := fun pos pins s I => thn (h pos pins s I) fun u s' ⟨v, H', I', r, q⟩ => ⟨v, H', I', r, k v H' q⟩
theorem tG.mono {v : V} {Q Q' : L2.St → Hp → Prop} (h : tG X tg v σ H Q) (k : ∀ v H', Q v H' → Q' v H') : tG X tg v σ H Q' := fun pins s u I r => thn (h pins s u I r) fun _ s' ⟨σ', H', I', q⟩ => ⟨σ', H', I', k σ' H' q⟩
theorem tGs.mono {vs : List V} {Q Q' : L2.St → Hp → Prop} (h : tGs X es vs σ H Q) (k : ∀ v H', Q v H' → Q' v H') : tGs X es vs σ H Q' := fun pins s u I r => thn (h pins s u I r) fun _ s' ⟨σ', H', I', q⟩ => ⟨σ', H', I', k σ' H' q⟩
theorem tI.mono {R R' : It → Hp → Prop} (h : tI X tg iter σ H R) (k : ∀ v H', R v H' → R' v H') : tI X tg iter σ H R' := fun pins s I => thn (h pins s I) fun v s1 h1 => thn h1 fun itv s2 ⟨it, fp, tn, J, H2, e, I2, T, st, f, q⟩ => ⟨it, fp, tn, J, H2, e, I2, T, st, f, k J H2 q⟩
structure EndsLe (D D' : Ends) : Prop where
  nx : ∀ σ H, D.nx σ H → D'.nx σ H
  rt : ∀ v H, D.rt v H → D'.rt v H
  bk : ∀ σ H, D.bk σ H → D'.bk σ H
  ct : ∀ σ H, D.ct σ H → D'.ct σ H
theorem SP.le {D D' : Ends} {pins : List (Addr × Obj)} {f : Flow} {s' : Shared} (h : SP X pins D f s') (k : EndsLe D D') : SP X pins D' f s' := by
  cases f with
  | next => obtain ⟨σ', H', I, q⟩ := h; exact ⟨σ', H', I, k.nx _ _ q⟩
  | brk => obtain ⟨σ', H', I, q⟩ := h; exact ⟨σ', H', I, k.bk _ _ q⟩
  | cont => obtain ⟨σ', H', I, q⟩ := h; exact ⟨σ', H', I, k.ct _ _ q⟩
  | ret u => obtain ⟨v, σ', H', I, r, q⟩ := h; exact ⟨v, σ', H', I, r, k.rt _ _ q⟩
theorem tS.mono {D D' : Ends} (h : tS X st D σ H) (k : EndsLe D D') : tS X st D' σ H := fun pins s I => thn (h pins s I) fun f s' q => SP.le q k
theorem tSs.mono {D D' : Ends} (h : tSs X sts D σ H) (k : EndsLe D D') : tSs X sts D' σ H := fun pins s I => thn (h pins s I) fun f s' q => SP.le q k
end
/-! ### the judgements over data -/
abbrev QD := D → Mp → Prop
/-- what follows, from the heap H on -/
def DQ (K : PySem.W.Frag) (H : Hp) (Q : QD) : VK := fun v H' => Imm H H' ∧ ∃ d M, RelM K M H' ∧ Tp K H' v d ∧ Q d M
def DB (K : PySem.W.Frag) (H : Hp) (Q : Bool → Mp → Prop) : Bool → Hp → Prop := fun b H' => Imm H H' ∧ ∃ M, RelM K M H' ∧ Q b M
def DA (K : PySem.W.Frag) (H : Hp) (Q : List D → Mp → Prop) : List V → Hp → Prop := fun vs H' => Imm H H' ∧ ∃ ds M, RelM K M H' ∧ Tps K H' vs ds ∧ Q ds M
def DN (K : PySem.W.Frag) (H : Hp) (Q : Sd → Mp → Prop) : L2.St → Hp → Prop := fun σv H' => Imm H H' ∧ ∃ σ M, Slots K H' σv σ ∧ RelM K M H' ∧ Q σ M
structure DE where
  nx : Sd → Mp → Prop
  rt : QD
  bk : Sd → Mp → Prop := fun _ _ => False
  ct : Sd → Mp → Prop := fun _ _ => False
def DE.ends (K : PySem.W.Frag) (H : Hp) (E : DE) : Ends := { nx := DN K H E.nx, rt := DQ K H E.rt, bk := DN K H E.bk, ct := DN K H E.ct }
section
variable {K : PySem.W.Frag} {H H0 H1 : Hp}
theorem DQ.from {Q : QD} (i : Imm H0 H) {v : V} {H' : Hp} (h : DQ K H Q v H') : DQ K H0 Q v H' := ⟨i.trans h.1, h.2⟩
theorem DB.from {Q : Bool → Mp → Prop} (i : Imm H0 H) {v : Bool} {H' : Hp} (h : DB K H Q v H') : DB K H0 Q v H' := ⟨i.trans h.1, h.2⟩
theorem DA.from {Q : List D → Mp → Prop} (i : Imm H0 H) {v : List V} {H' : Hp} (h : DA K H Q v H') : DA K H0 Q v H' := ⟨i.trans h.1, h.2⟩
theorem DN.from {Q : Sd → Mp → Prop} (i : Imm H0 H) {v : L2.St} {H' : Hp} (h : DN K H Q v H') : DN K H0 Q v H' := ⟨i.trans h.1, h.2⟩
theorem DE.from {E : DE} (i : Imm H0 H) : EndsLe (E.ends K H) (E.ends K H0) := ⟨fun _ _ h => DN.from i h, fun _ _ h => DQ.from i h, fun _ _ h => DN.from i h, fun _ _ h => DN.from i h⟩
end
structure ES (X : Cx) (e : Expr) (σ : Sd) (M : Mp) (Q : QD) : Prop where
  run : ∀ σv H, Slots X.K H σv σ → RelM X.K M H → tE X e σv H (DQ X.K H Q)
structure TT3 (X : Cx) (e : Expr) (σ : Sd) (M : Mp) (Q : Bool → Mp → Prop) : Prop where
  run : ∀ σv H, Slots X.K H σv σ → RelM X.K M H → tT X e σv H (DB X.K H Q)
structure TW3 (X : Cx) (e : Expr) (σ : Sd) (M : Mp) (Q : Bool → Mp → Prop) : Prop where
  run : ∀ σv H, Slots X.K H σv σ → RelM X.K M H → tW X e σv H (DB X.K H Q)
structure AS (X : Cx) (es : List Expr) (σ : Sd) (M : Mp) (Q : List D → Mp → Prop) : Prop where
  run : ∀ σv H, Slots X.K H σv σ → RelM X.K M H → tA X es σv H (DA X.K H Q)
structure SS (X : Cx) (st : Stmt) (σ : Sd) (M : Mp) (E : DE) : Prop where
  run : ∀ σv H, Slots X.K H σv σ → RelM X.K M H → tS X st (E.ends X.K H) σv H
structure SSs (X : Cx) (sts : List Stmt) (σ : Sd) (M : Mp) (E : DE) : Prop where
  run : ∀ σv H, Slots X.K H σv σ → RelM X.K M H → tSs X sts (E.ends X.K H) σv H
structure GS (X : Cx) (tg : Expr) (d : D) (σ : Sd) (M : Mp) (Q : Sd → Mp → Prop) : Prop where
  run : ∀ σv H v, Slots X.K H σv σ → RelM X.K M H → Tp X.K H v d → tG X tg v σv H (DN X.K H Q)
structure GSs (X : Cx) (ts : List Expr) (ds : List D) (σ : Sd) (M : Mp) (Q : Sd → Mp → Prop) : Prop where
  run : ∀ σv H vs, Slots X.K H σv σ → RelM X.K M H → Tps X.K H vs ds → tGs X ts vs σv H (DN X.K H Q)
/-- what is walked: the items are known ahead; they stay while G holds of what may change -/
structure WalkD (K : PySem.W.Frag) (H0 : Hp) (J : It) (its : List D) (G : Mp → Prop) : Prop where
  goes : ∀ i H M, Imm H0 H → RelM K M H → G M → i < its.length → J.go i H
  stops : ∀ H M, Imm H0 H → RelM K M H → G M → J.stop its.length H
  yields : ∀ i H M x H' d, Imm H0 H → RelM K M H → G M → its[i]? = some d → J.yld i H x H' → Imm H H' ∧ RelM K M H' ∧ Tp K H' x d
structure IS (X : Cx) (tg iter : Expr) (σ : Sd) (M : Mp) (R : List D → (Mp → Prop) → Mp → Prop) : Prop where
  run : ∀ σv H, Slots X.K H σv σ → RelM X.K M H → tI X tg iter σv H fun J H1 => Imm H H1 ∧ ∃ its G M1, RelM X.K M1 H1 ∧ WalkD X.K H1 J its G ∧ R its G M1
section
variable {X : Cx} {e a b : Expr} {es : List Expr} {st : Stmt} {sts : List Stmt} {σ : Sd} {M : Mp} {Q : QD} {E : DE} {pos : Pos}
theorem ES.of {t : TE} (h : PE X e t) (q : ∀ σv H, Slots X.K H σv σ → RelM X.K M H → t σv H (DQ X.K H Q)) : ES X e σ M Q := ⟨fun σv H S R pins s I => h.run pins s σv H _ I (q σv H S R)⟩
theorem TT3.of {t : TT} {Q : Bool → Mp → Prop} (h : PT X e t) (q : ∀ σv H, Slots X.K H σv σ → RelM X.K M H → t σv H (DB X.K H Q)) : TT3 X e σ M Q := ⟨fun σv H S R pins s I => h.run pins s σv H _ I (q σv H S R)⟩
theorem TW3.of {t : TT} {Q : Bool → Mp → Prop} (h : PW X e t) (q : ∀ σv H, Slots X.K H σv σ → RelM X.K M H → t σv H (DB X.K H Q)) : TW3 X e σ M Q := ⟨fun σv H S R wh pins s I => h.run wh pins s σv H _ I (q σv H S R)⟩
theorem AS.of {t : TA} {Q : List D → Mp → Prop} (h : PA X es t) (q : ∀ σv H, Slots X.K H σv σ → RelM X.K M H → t σv H (DA X.K H Q)) : AS X es σ M Q := ⟨fun σv H S R pos pins s I => h.run pos pins s σv H _ I (q σv H S R)⟩
theorem SS.of {t : TS} (h : PS X st t) (q : ∀ σv H, Slots X.K H σv σ → RelM X.K M H → t (E.ends X.K H) σv H) : SS X st σ M E := ⟨fun σv H S R pins s I => h.run pins s σv H _ I (q σv H S R)⟩
theorem SSs.of {t : TS} (h : PSs X sts t) (q : ∀ σv H, Slots X.K H σv σ → RelM X.K M H → t (E.ends X.K H) σv H) : SSs X sts σ M E := ⟨fun σv H S R pins s I => h.run pins s σv H _ I (q σv H S R)⟩
/-- run an expression, from the heap H0 on -/
theorem ES.go {H0 H : Hp} {σv : L2.St} {Q' : VK} (h : ES X e σ M Q) (S : Slots X.K H σv σ) (R : RelM X.K M H)
    (k : ∀ v H1 d M1, Imm H H1 → RelM X.K M1 H1 → Tp X.K H1 v d → Q d M1 → Q' v H1) : tE X e σv H Q' :=
  (h.run σv H S R).mono fun v H1 ⟨i, d, M1, R1, t, q⟩ => k v H1 d M1 i R1 t q
theorem TT3.go {H : Hp} {σv : L2.St} {Q : Bool → Mp → Prop} {Q' : Bool → Hp → Prop} (h : TT3 X e σ M Q) (S : Slots X.K H σv σ) (R : RelM X.K M H)
    (k : ∀ v H1 M1, Imm H H1 → RelM X.K M1 H1 → Q v M1 → Q' v H1) : tT X e σv H Q' :=
  (h.run σv H S R).mono fun v H1 ⟨i, M1, R1, q⟩ => k v H1 M1 i R1 q
theorem TW3.go {H : Hp} {σv : L2.St} {Q : Bool → Mp → Prop} {Q' : Bool → Hp → Prop} (h : TW3 X e σ M Q) (S : Slots X.K H σv σ) (R : RelM X.K M H)
    (k : ∀ v H1 M1, Imm H H1 → RelM X.K M1 H1 → Q v M1 → Q' v H1) : tW X e σv H Q' :=
  (h.run σv H S R).mono fun v H1 ⟨i, M1, R1, q⟩ => k v H1 M1 i R1 q
theorem AS.go {H : Hp} {σv : L2.St} {Q : List D → Mp → Prop} {Q' : List V → Hp → Prop} (h : AS X es σ M Q) (S : Slots X.K H σv σ) (R : RelM X.K M H)
    (k : ∀ v H1 d M1, Imm H H1 → RelM X.K M1 H1 → Tps X.K H1 v d → Q d M1 → Q' v H1) : tA X es σv H Q' :=
  (h.run σv H S R).mono fun v H1 ⟨i, d, M1, R1, t, q⟩ => k v H1 d M1 i R1 t q
theorem ES.imp {Q' : QD} (h : ES X e σ M Q) (k : ∀ d M, Q d M → Q' d M) : ES X e σ M Q' := ⟨fun σv H S R => h.go (H0 := H) S R fun v H1 d M1 i R1 t q => ⟨i, d, M1, R1, t, k _ _ q⟩⟩
/-! ### names, constants -/
theorem e_var (i : Nat) {x : Str} {d : D} (h : σ[i]? = some (some d)) (q : Q d M) (hN : X.N[i]? = some x := by rfl) (hv : Vis X.env.scope x := by first | exact Or.inl rfl | exact Or.inr (Or.inl rfl) | exact Or.inr (Or.inr rfl))
    (hd : (x == ("__debug__" : Str)) = false := by decide) (hcd : (x == ("__classdict__" : Str)) = false := by decide) : ES X (.Name x pos) σ M Q :=
  ES.of (pe_var hN hv hd hcd) fun σv H S R => let ⟨v, e, r⟩ := S.at_ i d h; ⟨v, e, Imm.refl H, d, M, R, r, q⟩
theorem e_int {i j} (q : Q (.int i) M) : ES X (.Constant (.int i) j pos) σ M Q := ES.of pe_int fun σv H S R => ⟨Imm.refl H, _, M, R, .int i, q⟩
theorem e_bl {i j} (q : Q (.bl i) M) : ES X (.Constant (.bool i) j pos) σ M Q := ES.of pe_bl fun σv H S R => ⟨Imm.refl H, _, M, R, .bl i, q⟩
theorem e_non {j} (q : Q .non M) : ES X (.Constant .none j pos) σ M Q := ES.of pe_non fun σv H S R => ⟨Imm.refl H, _, M, R, .non, q⟩
theorem e_str {i j} (q : Q (.str i) M) : ES X (.Constant (.str i) j pos) σ M Q := ES.of pe_str fun σv H S R => ⟨Imm.refl H, _, M, R, .str i, q⟩
/-- a module's constant; a built-in's name -/
theorem e_glob {x : Str} {v : V} {u : Value} {d : D} (hm : X.mg x = some u) (r : RelV v u) (hd : ∀ H, Tp X.K H v d) (q : Q d M) (hg : Gl X x := by rfl) (hdb : (x == ("__debug__" : Str)) = false := by decide) : ES X (.Name x pos) σ M Q :=
  ES.of (pe_glob hg hm r hdb) fun σv H S R => ⟨Imm.refl H, d, M, R, hd H, q⟩
theorem e_bltn {x : Str} {v : V} {u : Value} {d : D} (hm : X.mg x = none) (hv : bootBuiltins x = some u) (r : RelV v u) (hd : ∀ H, Tp X.K H v d) (q : Q d M) (hg : Gl X x := by rfl) (hn : x ≠ "__name__" := by decide) (hdb : (x == ("__debug__" : Str)) = false := by decide) : ES X (.Name x pos) σ M Q :=
  ES.of (pe_bltn hg hm hv r hn hdb) fun σv H S R => ⟨Imm.refl H, d, M, R, hd H, q⟩
/-! ### operators -/
abbrev R3 := D → D → Mp → QD → Prop
def To (K : PySem.W.Frag) (H0 : Hp) (Q : QD) (Q' : VK) : Prop := ∀ v H' d M', Imm H0 H' → RelM K M' H' → Tp K H' v d → Q d M' → Q' v H'
theorem To.dq {K : PySem.W.Frag} {H0 : Hp} {Q : QD} : To K H0 Q (DQ K H0 Q) := fun _ _ d M' i R t q => ⟨i, d, M', R, t, q⟩
def RD (K : PySem.W.Frag) (r : R2) (R : R3) : Prop := ∀ H0 H M vx vy x y Q Q', Imm H0 H → RelM K M H → Tp K H vx x → Tp K H vy y → To K H0 Q Q' → R x y M Q → r vx vy H Q'
theorem op_goT {r : R2} {R : R3} (hR : RD X.K r R) (h : ES X a σ M fun x M1 => ES X b σ M1 fun y M2 => R x y M2 Q) :
    ∀ σv H, Slots X.K H σv σ → RelM X.K M H → ∀ Q', To X.K H Q Q' → tOp r (tE X a) (tE X b) σv H Q' := fun σv H S RM Q' to =>
  h.go (H0 := H) S RM fun v H1 x M1 i1 R1 t1 q1 => q1.go (H0 := H) (S.mono i1) R1 fun u H2 y M2 i2 R2 t2 q2 => hR H H2 M2 v u x y Q Q' (i1.trans i2) R2 (Tp.mono i2 _ _ t1) t2 to q2
theorem op_go {r : R2} {R : R3} (hR : RD X.K r R) (h : ES X a σ M fun x M1 => ES X b σ M1 fun y M2 => R x y M2 Q) :
    ∀ σv H, Slots X.K H σv σ → RelM X.K M H → tOp r (tE X a) (tE X b) σv H (DQ X.K H Q) := fun σv H S RM => op_goT hR h σv H S RM _ To.dq
theorem e_op {op : Operator} {r : R2} {R : R3} (ho : OpR X (binaryOp op) r) (hR : RD X.K r R) (h : ES X a σ M fun x M1 => ES X b σ M1 fun y M2 => R x y M2 Q) : ES X (.BinOp a op b pos) σ M Q :=
  ES.of (pe_op ho pe_sem pe_sem) (op_go hR h)
theorem e_cmp {op : CmpOp} {r : R2} {R : R3} (ho : OpR X (compareOp op) r) (hR : RD X.K r R) (hm : behindInMarks op b = false) (h : ES X a σ M fun x M1 => ES X b σ M1 fun y M2 => R x y M2 Q) : ES X (.Compare a [op] [b] pos) σ M Q :=
  ES.of (pe_cmpR ho pe_sem pe_sem hm) (op_go hR h)
theorem OpR.or {f : Value → Value → Sem Value} {r r' : R2} (h : OpR X f r) (h' : OpR X f r') : OpR X f (fun x y H Q => r x y H Q ∨ r' x y H Q) := fun pins s σ H x y v u Q I rx ry q => by
  rcases q with q | q
  · exact h pins s σ H x y v u Q I rx ry q
  · exact h' pins s σ H x y v u Q I rx ry q
end
section
variable {K : PySem.W.Frag}
def RInt (C : Int → Int → Prop) (g : Int → Int → D) : R3 := fun x y M Q => match x, y with
  | .int i, .int j => C i j ∧ Q (g i j) M
  | _, _ => False
def RInt0 (g : Int → Int → D) : R3 := fun x y M Q => match x, y with
  | .int i, .int j => Q (g i j) M
  | _, _ => False
theorem rd_int {C : Int → Int → Prop} {g : Int → Int → Int} : RD K (rI C fun i j => .int (g i j)) (RInt C fun i j => .int (g i j)) := by
  intro H0 H M vx vy x y Q Q' i R tx ty k q
  cases tx <;> cases ty <;> first | exact False.elim q | exact ⟨_, _, rfl, rfl, q.1, k _ _ _ _ i R (.int _) q.2⟩
theorem rd_int0 {g : Int → Int → Int} : RD K (rI0 fun i j => .int (g i j)) (RInt0 fun i j => .int (g i j)) := by
  intro H0 H M vx vy x y Q Q' i R tx ty k q
  cases tx <;> cases ty <;> first | exact False.elim q | exact ⟨_, _, rfl, rfl, k _ _ _ _ i R (.int _) q⟩
theorem rd_cmp0 {g : Int → Int → Bool} : RD K (rI0 fun i j => .bl (g i j)) (RInt0 fun i j => .bl (g i j)) := by
  intro H0 H M vx vy x y Q Q' i R tx ty k q
  cases tx <;> cases ty <;> first | exact False.elim q | exact ⟨_, _, rfl, rfl, k _ _ _ _ i R (.bl _) q⟩
def rAddStr : R2 := fun x y H Q => ∃ i j, x = .str i ∧ y = .str j ∧ i.length + j.length ≤ sizeLine ∧ Q (.str (i ++ j)) H
/-- +: ints, texts, tuples, lists -/
def rAdd (K : PySem.W.Frag) : R2 := fun x y H Q => rI0 (fun i j => .int (i + j)) x y H Q ∨ rAddStr x y H Q ∨ rCatA K x y H Q ∨ rCat x y H Q
def RAdd : R3 := fun x y M Q => match x, y with
  | .int i, .int j => Q (.int (i + j)) M
  | .str i, .str j => i.length + j.length ≤ sizeLine ∧ Q (.str (i ++ j)) M
  | .tup xs, .tup ys => xs.length + ys.length ≤ sizeLine ∧ Q (.tup (xs ++ ys)) M
  | .ref a, .ref b => ∃ xs ys, M a = some (.lst xs) ∧ M b = some (.lst ys) ∧ xs.length + ys.length ≤ sizeLine ∧ NewM M (.lst (xs ++ ys)) fun p M' => Q (.ref p) M'
  | _, _ => False
theorem op_addA {X : Cx} : OpR X (binaryOp .Add) (rAdd X.K) := OpR.or op_add (OpR.or op_add_str (OpR.or op_catA op_cat))
theorem rd_add : RD K (rAdd K) RAdd := by
  intro H0 H M vx vy x y Q Q' i R tx ty k q
  cases tx with
  | int n =>
    cases ty with
    | int m => exact .inl ⟨_, _, rfl, rfl, k _ _ _ _ i R (.int _) q⟩
    | _ => exact False.elim q
  | str n =>
    cases ty with
    | str m => exact .inr (.inl ⟨_, _, rfl, rfl, q.1, k _ _ _ _ i R (.str _) q.2⟩)
    | _ => exact False.elim q
  | @tup a xs ds hs ha =>
    cases ty with
    | @tup b ys es ht hb =>
      refine .inr (.inr (.inl ⟨a, b, xs, ys, rfl, rfl, hs, ht, by rw [ha.length, hb.length]; exact q.1, fun e => ?_, fun e1 e2 => ?_, fun _ _ p hp => ?_⟩))
      · subst e
        cases ha
        exact k _ _ _ _ i R (.tup ht hb) q.2
      · subst e2
        cases hb
        refine k _ _ _ _ i R (.tup hs ha) ?_
        have := q.2
        rwa [List.append_nil] at this
      · have im := Imm.new (o := .tup (xs ++ ys)) hp
        exact k _ _ _ _ (i.trans im) (R.skip hp) (.tup (SqT.of upd_same) ((Tps.mono im _ _ ha).append (Tps.mono im _ _ hb))) q.2
    | _ => exact False.elim q
  | ref a =>
    cases ty with
    | ref b =>
      obtain ⟨xs, ys, ha, hb, hz, kp⟩ := q
      obtain ⟨_, ea, us, rfl, ra⟩ := R a _ ha
      obtain ⟨_, eb, ws, rfl, rb⟩ := R b _ hb
      refine .inr (.inr (.inr ⟨a, b, us, ws, rfl, rfl, ea, eb, by rw [ra.length, rb.length]; exact hz, fun p hp => ?_⟩))
      have im := Imm.new (o := .lst (us ++ ws)) hp
      exact k _ _ _ _ (i.trans im) (R.new (m := .lst (xs ++ ys)) hp ⟨_, rfl, (Tps.mono im _ _ ra).append (Tps.mono im _ _ rb)⟩) (.ref p) (NewM.at kp (R.fresh hp))
    | _ => exact False.elim q
  | _ => exact False.elim q
end
section
variable {X : Cx} {a b : Expr} {σ : Sd} {M : Mp} {Q : QD} {pos : Pos}
theorem e_add (h : ES X a σ M fun x M1 => ES X b σ M1 fun y M2 => RAdd x y M2 Q) : ES X (.BinOp a .Add b pos) σ M Q := e_op op_addA rd_add h
theorem e_sub (h : ES X a σ M fun x M1 => ES X b σ M1 fun y M2 => RInt0 (fun i j => .int (i - j)) x y M2 Q) : ES X (.BinOp a .Sub b pos) σ M Q := e_op op_sub rd_int0 h
theorem e_mul (h : ES X a σ M fun x M1 => ES X b σ M1 fun y M2 => RInt CMul (fun i j => .int (i * j)) x y M2 Q) : ES X (.BinOp a .Mult b pos) σ M Q := e_op op_mul rd_int h
theorem e_mod (h : ES X a σ M fun x M1 => ES X b σ M1 fun y M2 => RInt (fun _ j => 0 < j) (fun i j => .int (i % j)) x y M2 Q) : ES X (.BinOp a .Mod b pos) σ M Q := e_op op_mod rd_int h
theorem e_fdiv (h : ES X a σ M fun x M1 => ES X b σ M1 fun y M2 => RInt CDiv (fun i j => .int (i / j)) x y M2 Q) : ES X (.BinOp a .FloorDiv b pos) σ M Q := e_op op_fdiv rd_int h
theorem e_pow (h : ES X a σ M fun x M1 => ES X b σ M1 fun y M2 => RInt CPow (fun i j => .int (i ^ j.toNat)) x y M2 Q) : ES X (.BinOp a .Pow b pos) σ M Q := e_op op_pow rd_int h
theorem e_lt (h : ES X a σ M fun x M1 => ES X b σ M1 fun y M2 => RInt0 (fun i j => .bl (decide (i < j))) x y M2 Q) : ES X (.Compare a [.Lt] [b] pos) σ M Q := e_cmp op_lt rd_cmp0 (nomark _) h
theorem e_le (h : ES X a σ M fun x M1 => ES X b σ M1 fun y M2 => RInt0 (fun i j => .bl (decide (i ≤ j))) x y M2 Q) : ES X (.Compare a [.LtE] [b] pos) σ M Q := e_cmp op_le rd_cmp0 (nomark _) h
theorem e_gt (h : ES X a σ M fun x M1 => ES X b σ M1 fun y M2 => RInt0 (fun i j => .bl (decide (j < i))) x y M2 Q) : ES X (.Compare a [.Gt] [b] pos) σ M Q := e_cmp op_gt rd_cmp0 (nomark _) h
theorem e_ge (h : ES X a σ M fun x M1 => ES X b σ M1 fun y M2 => RInt0 (fun i j => .bl (decide (j ≤ i))) x y M2 Q) : ES X (.Compare a [.GtE] [b] pos) σ M Q := e_cmp op_ge rd_cmp0 (nomark _) h
end
end DL
set_option maxHeartbeats 1000000
namespace DL
open PySem L2 PySem.Spec PyProof.Rows
/-! ### equality of data -/
mutual
def D.py : D → PyData
  | .non => .none
  | .bl b => .bool b
  | .int i => .int i
  | .str x => .str x
  | .ref _ => .none
  | .ty _ => .none
  | .tup l => .tuple (D.pys l)
  | .rol l => .list (D.pys l)
def D.pys : List D → List PyData
  | [] => []
  | d :: r => d.py :: D.pys r
end
mutual
/-- no address inside -/
def D.pure : D → Bool
  | .ref _ => false
  | .ty _ => false
  | .tup l => D.pures l
  | .rol l => D.pures l
  | _ => true
def D.pures : List D → Bool
  | [] => true
  | d :: r => d.pure && D.pures r
end
mutual
theorem Tp.dp {K : PySem.W.Frag} {H : Hp} : ∀ (d : D) (v : V), d.pure = true → Tp K H v d → Dp K H v d.py
  | .non, _, _, h => by cases h; exact .non
  | .bl b, _, _, h => by cases h; exact .bl b
  | .int i, _, _, h => by cases h; exact .int i
  | .str x, _, _, h => by cases h; exact .str x
  | .tup l, _, p, h => by
    cases h with
    | tup hs ha => exact .tup hs (Tps.dp l _ (by simpa [D.pure] using p) ha)
  | .rol l, _, p, h => by
    cases h with
    | rol hs ha => exact .lst hs.sq (Tps.dp l _ (by simpa [D.pure] using p) ha)
theorem Tps.dp {K : PySem.W.Frag} {H : Hp} : ∀ (ds : List D) (vs : List V), D.pures ds = true → Tps K H vs ds → DpAll K H vs (D.pys ds)
  | [], _, _, h => by cases h; exact .nil
  | d :: r, _, p, h => by
    have p' : d.pure = true ∧ D.pures r = true := by simpa [D.pures] using p
    cases h with
    | cons h1 h2 => exact .cons (Tp.dp d _ p'.1 h1) (Tps.dp r _ p'.2 h2)
end
/-- comparable by content -/
def D.shp (d : D) : Bool := d.pure && SeqAt.shaped d.py
def D.eqv (d e : D) : Bool := PyData.eqv d.py e.py
def EqOk : D → D → Prop
  | .tup a, e => (D.tup a).shp = true ∧ e.shp = true
  | d, .tup b => d.shp = true ∧ (D.tup b).shp = true
  | .int _, .int _ => True
  | .str _, .str _ => True
  | .bl _, .bl _ => True
  | .non, .non => True
  | .non, .int _ => True
  | .int _, .non => True
  | .non, .str _ => True
  | .str _, .non => True
  | .non, .bl _ => True
  | .bl _, .non => True
  | .int _, .str _ => True
  | .str _, .int _ => True
  | .bl _, .str _ => True
  | .str _, .bl _ => True
  | _, _ => False
def REq : R3 := fun x y M Q => EqOk x y ∧ Q (.bl (D.eqv x y)) M
def RNe : R3 := fun x y M Q => EqOk x y ∧ Q (.bl (!D.eqv x y)) M
def rEqA (K : PySem.W.Frag) : R2 := fun x y H Q => rEq x y H Q ∨ rEqD K x y H Q
def rNeA (K : PySem.W.Frag) : R2 := fun x y H Q => rNe x y H Q ∨ rNeD K x y H Q
theorem eqok_cases {K : PySem.W.Frag} {H : Hp} {vx vy : V} {x y : D} (tx : Tp K H vx x) (ty : Tp K H vy y) (ok : EqOk x y) :
    (scal vx vy = true ∧ decide (vx = vy) = D.eqv x y) ∨ ((x.pure = true ∧ SeqAt.shaped x.py = true) ∧ (y.pure = true ∧ SeqAt.shaped y.py = true)) := by
  have two : x.shp = true ∧ y.shp = true → (x.pure = true ∧ SeqAt.shaped x.py = true) ∧ (y.pure = true ∧ SeqAt.shaped y.py = true) := fun h => by
    unfold D.shp at h
    simpa only [Bool.and_eq_true] using h
  cases tx with
  | tup _ _ => exact .inr (two (by simpa only [EqOk] using ok))
  | rol _ _ => cases ty <;> first | (refine .inr (two ?_); simpa only [EqOk] using ok) | (exact (show False from ok).elim)
  | ref _ => cases ty <;> first | (refine .inr (two ?_); simpa only [EqOk] using ok) | (exact (show False from ok).elim)
  | ty _ => cases ty <;> first | (refine .inr (two ?_); simpa only [EqOk] using ok) | (exact (show False from ok).elim)
  | non => cases ty <;> first | (exact (show False from ok).elim) | (refine .inl ⟨rfl, ?_⟩; simp [D.eqv, D.py, PyData.eqv]; done) | (refine .inr (two ?_); simpa only [EqOk] using ok)
  | bl _ => cases ty <;> first | (exact (show False from ok).elim) | (refine .inl ⟨rfl, ?_⟩; simp [D.eqv, D.py, PyData.eqv, Bool.beq_eq_decide_eq]; done) | (refine .inr (two ?_); simpa only [EqOk] using ok)
  | int _ => cases ty <;> first | (exact (show False from ok).elim) | (refine .inl ⟨rfl, ?_⟩; simp [D.eqv, D.py, PyData.eqv, Bool.beq_eq_decide_eq]; done) | (refine .inr (two ?_); simpa only [EqOk] using ok)
  | str _ => cases ty <;> first | (exact (show False from ok).elim) | (refine .inl ⟨rfl, ?_⟩; simp [D.eqv, D.py, PyData.eqv, Bool.beq_eq_decide_eq]; done) | (refine .inr (two ?_); simpa only [EqOk] using ok)
section
variable {K : PySem.W.Frag}
theorem rd_eq : RD K (rEqA K) REq := by
  intro H0 H M vx vy x y Q Q' i R tx ty k ⟨ok, q⟩
  rcases eqok_cases tx ty ok with ⟨h1, h2⟩ | ⟨h1, h2⟩
  · exact .inl ⟨h1, k _ _ _ _ i R (.bl _) (by rw [h2]; exact q)⟩
  · exact .inr ⟨_, _, Tp.dp _ _ h1.1 tx, Tp.dp _ _ h2.1 ty, h1.2, h2.2, k _ _ _ _ i R (.bl _) q⟩
theorem rd_ne : RD K (rNeA K) RNe := by
  intro H0 H M vx vy x y Q Q' i R tx ty k ⟨ok, q⟩
  rcases eqok_cases tx ty ok with ⟨h1, h2⟩ | ⟨h1, h2⟩
  · exact .inl ⟨h1, k _ _ _ _ i R (.bl _) (by rw [h2]; exact q)⟩
  · exact .inr ⟨_, _, Tp.dp _ _ h1.1 tx, Tp.dp _ _ h2.1 ty, h1.2, h2.2, k _ _ _ _ i R (.bl _) q⟩
def rIsN' : R2 := fun x y H Q => y = .non ∧ Q (.bl (decide (x = .non))) H
def rNotN' : R2 := fun x y H Q => y = .non ∧ Q (.bl (!decide (x = .non))) H
def D.isNon : D → Bool
  | .non => true
  | _ => false
def RIsN : R3 := fun x y M Q => match y with
  | .non => Q (.bl x.isNon) M
  | _ => False
def RNotN : R3 := fun x y M Q => match y with
  | .non => Q (.bl (!x.isNon)) M
  | _ => False
theorem isNon_of {H : Hp} {v : V} {d : D} (t : Tp K H v d) : decide (v = .non) = d.isNon := by cases t <;> simp [D.isNon]
theorem rd_isN : RD K rIsN' RIsN := by
  intro H0 H M vx vy x y Q Q' i R tx ty k q
  cases ty <;> first | exact False.elim q | exact ⟨rfl, k _ _ _ _ i R (.bl _) (by rw [isNon_of tx]; exact q)⟩
theorem rd_notN : RD K rNotN' RNotN := by
  intro H0 H M vx vy x y Q Q' i R tx ty k q
  cases ty <;> first | exact False.elim q | exact ⟨rfl, k _ _ _ _ i R (.bl _) (by rw [isNon_of tx]; exact q)⟩
/-! x in xs, flat things -/
def D.flat : D → Bool
  | .non | .bl _ | .int _ | .str _ => true
  | _ => false
def D.eqF : D → D → Bool
  | .int i, .int j => i == j
  | .str x, .str y => x == y
  | .bl a, .bl b => a == b
  | .non, .non => true
  | .bl a, .int j => (if a then 1 else 0) == j
  | .int i, .bl b => i == (if b then 1 else 0)
  | _, _ => false
def inD (x : D) (xs : List D) : Bool := xs.any fun y => D.eqv y x
end
end DL
set_option maxHeartbeats 1000000
namespace DL
open PySem L2 PySem.Spec PyProof.Rows
section
variable {X : Cx} {e a b : Expr} {es : List Expr} {σ : Sd} {M : Mp} {Q : QD} {pos : Pos}
theorem e_eq (hr : ∃ k, Room k X.A) (h : ES X a σ M fun x M1 => ES X b σ M1 fun y M2 => REq x y M2 Q) : ES X (.Compare a [.Eq] [b] pos) σ M Q := e_cmp (OpR.or op_eq (op_eqD hr.choose_spec.units)) rd_eq (nomark _) h
theorem e_ne (hr : ∃ k, Room k X.A) (h : ES X a σ M fun x M1 => ES X b σ M1 fun y M2 => RNe x y M2 Q) : ES X (.Compare a [.NotEq] [b] pos) σ M Q := e_cmp (OpR.or op_ne (op_neD hr.choose_spec.units)) rd_ne (nomark _) h
theorem e_isN (h : ES X a σ M fun x M1 => ES X b σ M1 fun y M2 => RIsN x y M2 Q) : ES X (.Compare a [.Is] [b] pos) σ M Q := e_cmp op_isN rd_isN (nomark _) h
theorem e_notN (h : ES X a σ M fun x M1 => ES X b σ M1 fun y M2 => RNotN x y M2 Q) : ES X (.Compare a [.IsNot] [b] pos) σ M Q := e_cmp op_notN rd_notN (nomark _) h
end
/-! ### in -/
section
variable {K : PySem.W.Frag}
theorem tp_flat {H : Hp} {v : V} {d : D} (t : Tp K H v d) (f : d.flat = true) : flatV v = true := by cases t <;> first | rfl | (cases f; done)
theorem tps_flat {H : Hp} : ∀ {vs : List V} {ds : List D}, Tps K H vs ds → ds.all D.flat = true → vs.all flatV = true
  | _, _, .nil, _ => rfl
  | _, _, .cons r t, f => by
    rw [List.all_cons, Bool.and_eq_true] at f
    rw [List.all_cons, tp_flat r f.1, tps_flat t f.2]
    rfl
theorem eqV_of {H : Hp} {vx vy : V} {x y : D} (tx : Tp K H vx x) (ty : Tp K H vy y) (fx : x.flat = true) (fy : y.flat = true) : eqV vx vy = D.eqv x y := by
  cases tx <;> first | (cases fx; done) | skip
  all_goals (cases ty <;> first | (cases fy; done) | skip)
  all_goals first | rfl | (simp [eqV, D.eqv, D.py, PyData.eqv]; done)
theorem inV_of {H : Hp} {vx : V} {x : D} (tx : Tp K H vx x) (fx : x.flat = true) : ∀ {vs : List V} {ds : List D}, Tps K H vs ds → ds.all D.flat = true → inV vx vs = inD x ds
  | _, _, .nil, _ => rfl
  | _, _, .cons r t, f => by
    rw [List.all_cons, Bool.and_eq_true] at f
    have ih := inV_of tx fx t f.2
    unfold inV inD at ih ⊢
    rw [List.any_cons, List.any_cons, ih, eqV_of r tx f.1 fx]
def RIn (neg : Bool) : R3 := fun x y M Q => match y with
  | .tup ds => x.flat = true ∧ ds.all D.flat = true ∧ Q (.bl (if neg then !inD x ds else inD x ds)) M
  | .rol ds => x.flat = true ∧ ds.all D.flat = true ∧ Q (.bl (if neg then !inD x ds else inD x ds)) M
  | .ref a => ∃ ds, M a = some (.lst ds) ∧ x.flat = true ∧ ds.all D.flat = true ∧ Q (.bl (if neg then !inD x ds else inD x ds)) M
  | _ => False
theorem rd_in {neg : Bool} : RD K (rIn K neg) (RIn neg) := by
  intro H0 H M vx vy x y Q Q' i R tx ty k q
  cases ty with
  | tup hs ha => exact ⟨_, _, rfl, .inr hs, tp_flat tx q.1, tps_flat ha q.2.1, k _ _ _ _ i R (.bl _) (by rw [inV_of tx q.1 ha q.2.1]; exact q.2.2)⟩
  | rol hs ha => exact ⟨_, _, rfl, .inl hs.sq, tp_flat tx q.1, tps_flat ha q.2.1, k _ _ _ _ i R (.bl _) (by rw [inV_of tx q.1 ha q.2.1]; exact q.2.2)⟩
  | ref a =>
    obtain ⟨ds, e, q⟩ := q
    obtain ⟨_, ea, us, rfl, ha⟩ := R a _ e
    exact ⟨_, _, rfl, .inl (SqL.of ea), tp_flat tx q.1, tps_flat ha q.2.1, k _ _ _ _ i R (.bl _) (by rw [inV_of tx q.1 ha q.2.1]; exact q.2.2)⟩
  | _ => exact False.elim q
end
section
variable {X : Cx} {e a b : Expr} {es : List Expr} {σ : Sd} {M : Mp} {Q : QD} {pos : Pos}
theorem e_in (h : ES X a σ M fun x M1 => ES X b σ M1 fun y M2 => RIn false x y M2 Q) (hm : behindInMarks .In b = false := by rfl) : ES X (.Compare a [.In] [b] pos) σ M Q := e_cmp op_in_seq rd_in hm h
theorem e_notIn (h : ES X a σ M fun x M1 => ES X b σ M1 fun y M2 => RIn true x y M2 Q) (hm : behindInMarks .NotIn b = false := by rfl) : ES X (.Compare a [.NotIn] [b] pos) σ M Q := e_cmp op_notIn_seq rd_in hm h
end
/-! ### x[i], x[lo:hi] -/
section
variable {K : PySem.W.Frag}
theorem tps_atI {H : Hp} {vs : List V} {ds : List D} {i : Int} {d : D} (t : Tps K H vs ds) (h : atI ds i = some d) : ∃ v, atI vs i = some v ∧ Tp K H v d := by
  unfold atI at h ⊢
  rw [t.length]
  cases e : ixN ds.length i with
  | none => rw [e] at h; cases h
  | some j =>
    rw [e] at h
    exact t.get h
def RIx : R3 := fun x y M Q => match x, y with
  | .tup ds, .int i => ∃ d, atI ds i = some d ∧ Q d M
  | .rol ds, .int i => ∃ d, atI ds i = some d ∧ Q d M
  | .ref a, .int i => ∃ ds d, M a = some (.lst ds) ∧ atI ds i = some d ∧ Q d M
  | .str z, .int i => z.length ≤ sizeLine ∧ ∃ c, atI z.cps.toList i = some c ∧ Q (.str ⟨#[c]⟩) M
  | _, _ => False
theorem rd_ix : RD K (rIx K) RIx := by
  intro H0 H M vx vy x y Q Q' i R tx ty k q
  cases ty with
  | int n =>
    cases tx with
    | tup hs ha =>
      obtain ⟨d, hd, q⟩ := q
      obtain ⟨v, hv, r⟩ := tps_atI ha hd
      exact .inr (.inl ⟨_, _, _, _, rfl, rfl, hs, hv, k _ _ _ _ i R r q⟩)
    | rol hs ha =>
      obtain ⟨d, hd, q⟩ := q
      obtain ⟨v, hv, r⟩ := tps_atI ha hd
      exact .inl ⟨_, _, _, _, rfl, rfl, hs.sq, hv, k _ _ _ _ i R r q⟩
    | ref a =>
      obtain ⟨ds, d, e, hd, q⟩ := q
      obtain ⟨_, ea, us, rfl, ha⟩ := R a _ e
      obtain ⟨v, hv, r⟩ := tps_atI ha hd
      exact .inl ⟨_, _, _, _, rfl, rfl, SqL.of ea, hv, k _ _ _ _ i R r q⟩
    | str z =>
      obtain ⟨hz, c, hc, q⟩ := q
      exact .inr (.inr ⟨_, _, _, rfl, rfl, hz, hc, k _ _ _ _ i R (.str _) q⟩)
    | _ => exact False.elim q
  | _ => cases tx <;> exact False.elim q
def cutD (ds : List D) (lo hi : Option Int) : List D := (ds.drop (HT.sIx ds.length 0 lo)).take (HT.sIx ds.length ds.length hi - HT.sIx ds.length 0 lo)
theorem cutD_length (ds : List D) (lo hi : Option Int) : (cutD ds lo hi).length ≤ ds.length := by
  unfold cutD
  rw [List.length_take, List.length_drop]
  omega
theorem cutD_whole {ds : List D} {lo hi : Option Int} (h : HT.sIx ds.length 0 lo = 0 ∧ HT.sIx ds.length ds.length hi = ds.length) : cutD ds lo hi = ds := by
  unfold cutD
  rw [h.1, h.2, List.drop_zero, Nat.sub_zero, List.take_length]
def rSl (K : PySem.W.Frag) : V → Option Int → Option Int → Hp → VK → Prop := fun x lo hi H Q => rSlA K x lo hi H Q ∨ rSlL K x lo hi H Q ∨ rSlS x lo hi H Q
theorem sl_any {X : Cx} : SlR X (rSl X.K) := SlR.or sl_tupA (SlR.or sl_list sl_str)
def RSl : D → Option Int → Option Int → Mp → QD → Prop := fun x lo hi M Q => match x with
  | .tup ds => Q (.tup (cutD ds lo hi)) M
  | .rol ds => NewM M (.lst (cutD ds lo hi)) fun p M' => Q (.ref p) M'
  | .ref a => ∃ ds, M a = some (.lst ds) ∧ NewM M (.lst (cutD ds lo hi)) fun p M' => Q (.ref p) M'
  | .str z => z.length ≤ sizeLine ∧ Q (.str (cutS z lo hi)) M
  | _ => False
theorem rd_sl {H0 H : Hp} {M : Mp} {v : V} {x : D} {lo hi : Option Int} {Q : QD} (i : Imm H0 H) (R : RelM K M H) (tx : Tp K H v x) (q : RSl x lo hi M Q) : rSl K v lo hi H (DQ K H0 Q) := by
  cases tx with
  | @tup a xs ds hs ha =>
    have el := ha.length
    refine .inl ⟨a, xs, rfl, hs, fun hw => ?_, fun hw p hp => ?_⟩
    · refine ⟨i, _, M, R, .tup hs ha, ?_⟩
      rw [el] at hw
      have q' : Q (.tup (cutD ds lo hi)) M := q
      rw [cutD_whole hw] at q'
      exact q'
    · have im := Imm.new (o := .tup (cutV xs lo hi)) hp
      exact ⟨i.trans im, _, M, R.skip hp, .tup (SqT.of upd_same) (Tps.mono im _ _ (ha.cut lo hi)), q⟩
  | @rol a xs ds hs ha =>
    refine .inr (.inl ⟨a, xs, rfl, hs.sq, fun p hp => ?_⟩)
    have im := Imm.new (o := .lst (cutV xs lo hi)) hp
    exact ⟨i.trans im, _, _, R.new (m := .lst (cutD ds lo hi)) hp ⟨_, rfl, Tps.mono im _ _ (ha.cut lo hi)⟩, .ref p, NewM.at q (R.fresh hp)⟩
  | ref a =>
    obtain ⟨ds, e, q⟩ := q
    obtain ⟨_, ea, us, rfl, ha⟩ := R a _ e
    refine .inr (.inl ⟨a, us, rfl, SqL.of ea, fun p hp => ?_⟩)
    have im := Imm.new (o := .lst (cutV us lo hi)) hp
    exact ⟨i.trans im, _, _, R.new (m := .lst (cutD ds lo hi)) hp ⟨_, rfl, Tps.mono im _ _ (ha.cut lo hi)⟩, .ref p, NewM.at q (R.fresh hp)⟩
  | str z => exact .inr (.inr ⟨z, rfl, q.1, i, _, M, R, .str _, q.2⟩)
  | _ => exact False.elim q
end
section
variable {X : Cx} {e a b : Expr} {es : List Expr} {σ : Sd} {M : Mp} {Q : QD} {pos p2 : Pos} {lo hi : Option Expr}
theorem e_ix (h : ES X a σ M fun x M1 => ES X b σ M1 fun y M2 => RIx x y M2 Q) (hs : PlainIx b := by exact fun _ _ => rfl) : ES X (.Subscript a b pos) σ M Q :=
  ES.of (pe_ix ix_seq pe_sem pe_sem hs) (op_go rd_ix h)
structure OS (X : Cx) (e : Option Expr) (σ : Sd) (M : Mp) (Q : Option Int → Mp → Prop) : Prop where
  run : ∃ t, PO X e t ∧ ∀ σv H, Slots X.K H σv σ → RelM X.K M H → t σv H fun o H' => Imm H H' ∧ ∃ M', RelM X.K M' H' ∧ Q o M'
theorem o_none {Q : Option Int → Mp → Prop} (q : Q none M) : OS X none σ M Q := ⟨_, po_none, fun σv H S R => ⟨Imm.refl H, M, R, q⟩⟩
def OInt (Q : Option Int → Mp → Prop) : QD := fun d M => match d with
  | .int i => Q (some i) M
  | _ => False
theorem o_some {Q : Option Int → Mp → Prop} (h : ES X e σ M (OInt Q)) : OS X (some e) σ M Q := ⟨_, po_some pe_sem, fun σv H S R => h.go (H0 := H) S R fun v H1 d M1 i1 R1 t1 q1 => by
  cases t1 <;> first | exact False.elim q1 | exact ⟨_, rfl, i1, M1, R1, q1⟩⟩
/-- x[lo:hi]: x first, then lo, hi (plain expressions that change nothing) -/
theorem e_sl {x : D} {l u : Option Int} {M1 : Mp} (h : ES X e σ M fun d M' => d = x ∧ M' = M1) (hl : OS X lo σ M1 fun o M' => o = l ∧ M' = M1) (hh : OS X hi σ M1 fun o M' => o = u ∧ M' = M1) (q : RSl x l u M1 Q) :
    ES X (.Subscript e (.Slice lo hi none p2) pos) σ M Q := by
  obtain ⟨tl, pl, kl⟩ := hl.run
  obtain ⟨th, ph, kh⟩ := hh.run
  have tlm : ∀ σv H, Slots X.K H σv σ → RelM X.K M1 H → tl σv H fun o H' => Imm H H' ∧ ∃ M', RelM X.K M' H' ∧ (o = l ∧ M' = M1) := kl
  refine ⟨fun σv H S R pins s I => ?_⟩
  have sem : PO X lo (fun σ H Q => ∀ pins s, Inv X pins σ H s → _) := ⟨fun pins s σ H Q I h => h pins s I⟩
  have semh : PO X hi (fun σ H Q => ∀ pins s, Inv X pins σ H s → _) := ⟨fun pins s σ H Q I h => h pins s I⟩
  refine (pe_slice sl_any pe_sem sem semh).run pins s σv H _ I ?_
  refine h.go (H0 := H) S R fun v H1 d M' i1 R1 t1 ⟨e1, e2⟩ => ?_
  subst e1; subst e2
  intro pins1 s1 I1
  refine wpAny_mono (pl.run pins1 s1 σv H1 _ I1 (kl σv H1 (S.mono i1) R1)) (fun vo s2 q2 => ?_) (fun _ _ z => z)
  obtain ⟨o, H2, I2, p2', i2, M2, R2, e3, e4⟩ := q2
  subst e3; subst e4
  refine ⟨o, H2, I2, p2', ?_⟩
  intro pins2 s3 I3
  refine wpAny_mono (ph.run pins2 s3 σv H2 _ I3 (kh σv H2 ((S.mono i1).mono i2) R2)) (fun vo s4 q4 => ?_) (fun _ _ z => z)
  obtain ⟨o', H3, I4, p4', i3, M3, R3', e5, e6⟩ := q4
  subst e5; subst e6
  refine ⟨o', H3, I4, p4', ?_⟩
  exact rd_sl ((i1.trans i2).trans i3) R3' (Tp.mono (i2.trans i3) _ _ t1) q
end
end DL
set_option maxHeartbeats 1000000
namespace DL
open PySem L2 PySem.Spec PyProof.Rows
/-! ### tests -/
def BQ (c : Bool) (A B : Prop) : Prop := (c = true → A) ∧ (c = false → B)
theorem BQ.t {A B : Prop} (h : A) : BQ true A B := ⟨fun _ => h, fun e => Bool.noConfusion e⟩
theorem BQ.f {A B : Prop} (h : B) : BQ false A B := ⟨fun e => Bool.noConfusion e, fun _ => h⟩
/-- the truth of a value -/
def RTru (d : D) (M : Mp) (Q : Bool → Mp → Prop) : Prop := match d with
  | .non => Q false M
  | .bl b => Q b M
  | .int i => Q (i != 0) M
  | .str y => y.length ≤ sizeLine ∧ Q ((y.length : Int) != 0) M
  | .tup ds => Q (!ds.isEmpty) M
  | .rol ds => Q (!ds.isEmpty) M
  | .ref a => (∃ ds, M a = some (.lst ds) ∧ Q (!ds.isEmpty) M) ∨ (∃ kvs, M a = some (.dK kvs) ∧ Q (!kvs.isEmpty) M)
  | _ => False
theorem tps_empty {K : PySem.W.Frag} {H : Hp} {vs : List V} {ds : List D} (t : Tps K H vs ds) : vs.isEmpty = ds.isEmpty := by cases t <;> rfl
theorem kvs_empty {K : PySem.W.Frag} {H : Hp} {κ : Type} {vs : List (κ × V)} {ds : List (κ × D)} (t : KVs K H vs ds) : vs.isEmpty = ds.isEmpty := by cases t <;> rfl
theorem rd_tru {K : PySem.W.Frag} {H0 H : Hp} {M : Mp} {v : V} {d : D} {Q : Bool → Mp → Prop} (i : Imm H0 H) (R : RelM K M H) (t : Tp K H v d) (q : RTru d M Q) : ∃ k, TruV K v H k ∧ DB K H0 Q k H := by
  cases t with
  | non => exact ⟨_, rfl, i, M, R, q⟩
  | bl b => exact ⟨_, rfl, i, M, R, q⟩
  | int n => exact ⟨_, rfl, i, M, R, q⟩
  | str y => exact ⟨_, ⟨q.1, rfl⟩, i, M, R, q.2⟩
  | tup hs ha => exact ⟨_, .inr (.inl ⟨_, hs, rfl⟩), i, M, R, by rw [tps_empty ha]; exact q⟩
  | rol hs ha => exact ⟨_, .inl ⟨_, hs.sq, rfl⟩, i, M, R, by rw [tps_empty ha]; exact q⟩
  | ref a =>
    rcases q with ⟨ds, e, q⟩ | ⟨kvs, e, q⟩
    · obtain ⟨_, ea, us, rfl, ha⟩ := R a _ e
      exact ⟨_, .inl ⟨_, SqL.of ea, rfl⟩, i, M, R, by rw [tps_empty ha]; exact q⟩
    · obtain ⟨_, ea, us, rfl, ha⟩ := R a _ e
      exact ⟨_, .inr (.inr ⟨_, ea, rfl⟩), i, M, R, by rw [kvs_empty ha]; exact q⟩
  | ty _ => exact False.elim q
def QBl (Q : Bool → Mp → Prop) : QD := fun d M => match d with
  | .bl b => Q b M
  | _ => False
section
variable {X : Cx} {e a b c : Expr} {es rest : List Expr} {σ : Sd} {M : Mp} {Q : QD} {QB : Bool → Mp → Prop} {pos : Pos}
theorem t_truth (h : ES X e σ M fun d M1 => RTru d M1 QB) (he : ∀ whole, isTrue e X.env whole = (do let v ← whole; standAt e.pos; holding [v] (truthy v)) := by intro _; rfl) : TT3 X e σ M QB :=
  TT3.of (pt_truth pe_sem he) fun σv H S R => h.go (H0 := H) S R fun v H1 d M1 i1 R1 t1 q1 => rd_tru i1 R1 t1 q1
theorem t_cmp {op : CmpOp} {r : R2} {R : R3} (ho : OpR X (compareOp op) r) (hR : RD X.K r R) (hm : behindInMarks op b = false) (h : ES X a σ M fun x M1 => ES X b σ M1 fun y M2 => R x y M2 (QBl QB)) : TT3 X (.Compare a [op] [b] pos) σ M QB :=
  TT3.of (pt_cmpR ho pe_sem pe_sem hm) fun σv H S RM => op_goT hR h σv H S RM _ fun v H' d M' i' R' t' q' => by
    cases t' <;> first | exact False.elim q' | exact ⟨_, rfl, i', M', R', q'⟩
theorem t_eq (hr : ∃ k, Room k X.A) (h : ES X a σ M fun x M1 => ES X b σ M1 fun y M2 => REq x y M2 (QBl QB)) : TT3 X (.Compare a [.Eq] [b] pos) σ M QB := t_cmp (OpR.or op_eq (op_eqD hr.choose_spec.units)) rd_eq (nomark _) h
theorem t_ne (hr : ∃ k, Room k X.A) (h : ES X a σ M fun x M1 => ES X b σ M1 fun y M2 => RNe x y M2 (QBl QB)) : TT3 X (.Compare a [.NotEq] [b] pos) σ M QB := t_cmp (OpR.or op_ne (op_neD hr.choose_spec.units)) rd_ne (nomark _) h
theorem t_isN (h : ES X a σ M fun x M1 => ES X b σ M1 fun y M2 => RIsN x y M2 (QBl QB)) : TT3 X (.Compare a [.Is] [b] pos) σ M QB := t_cmp op_isN rd_isN (nomark _) h
theorem t_notN (h : ES X a σ M fun x M1 => ES X b σ M1 fun y M2 => RNotN x y M2 (QBl QB)) : TT3 X (.Compare a [.IsNot] [b] pos) σ M QB := t_cmp op_notN rd_notN (nomark _) h
theorem t_in (h : ES X a σ M fun x M1 => ES X b σ M1 fun y M2 => RIn false x y M2 (QBl QB)) (hm : behindInMarks .In b = false := by rfl) : TT3 X (.Compare a [.In] [b] pos) σ M QB := t_cmp op_in_seq rd_in hm h
theorem t_notIn (h : ES X a σ M fun x M1 => ES X b σ M1 fun y M2 => RIn true x y M2 (QBl QB)) (hm : behindInMarks .NotIn b = false := by rfl) : TT3 X (.Compare a [.NotIn] [b] pos) σ M QB := t_cmp op_notIn_seq rd_in hm h
theorem t_lt (h : ES X a σ M fun x M1 => ES X b σ M1 fun y M2 => RInt0 (fun i j => .bl (decide (i < j))) x y M2 (QBl QB)) : TT3 X (.Compare a [.Lt] [b] pos) σ M QB := t_cmp op_lt rd_cmp0 (nomark _) h
theorem t_le (h : ES X a σ M fun x M1 => ES X b σ M1 fun y M2 => RInt0 (fun i j => .bl (decide (i ≤ j))) x y M2 (QBl QB)) : TT3 X (.Compare a [.LtE] [b] pos) σ M QB := t_cmp op_le rd_cmp0 (nomark _) h
theorem t_gt (h : ES X a σ M fun x M1 => ES X b σ M1 fun y M2 => RInt0 (fun i j => .bl (decide (j < i))) x y M2 (QBl QB)) : TT3 X (.Compare a [.Gt] [b] pos) σ M QB := t_cmp op_gt rd_cmp0 (nomark _) h
theorem t_ge (h : ES X a σ M fun x M1 => ES X b σ M1 fun y M2 => RInt0 (fun i j => .bl (decide (j ≤ i))) x y M2 (QBl QB)) : TT3 X (.Compare a [.GtE] [b] pos) σ M QB := t_cmp op_ge rd_cmp0 (nomark _) h
theorem t_not (h : TT3 X a σ M fun c M1 => QB (!c) M1) : TT3 X (.UnaryOp .Not a pos) σ M QB :=
  TT3.of (pt_not pt_sem) fun σv H S R => h.go S R fun v H1 M1 i1 R1 q1 => ⟨i1, M1, R1, q1⟩
theorem t_w (h : TW3 X e σ M QB) : TT3 X e σ M QB := ⟨fun σv H S R pins s I => h.run σv H S R _ pins s I⟩
theorem w_and1 (h : TT3 X a σ M QB) : TW3 X (.BoolOp .And [a] pos) σ M QB := TW3.of (pw_and1 pt_sem) fun σv H S R => h.run σv H S R
theorem w_or1 (h : TT3 X a σ M QB) : TW3 X (.BoolOp .Or [a] pos) σ M QB := TW3.of (pw_or1 pt_sem) fun σv H S R => h.run σv H S R
theorem w_and (h : TT3 X a σ M fun c M1 => BQ c (TW3 X (.BoolOp .And (b :: rest) pos) σ M1 QB) (QB false M1)) : TW3 X (.BoolOp .And (a :: b :: rest) pos) σ M QB :=
  TW3.of (pw_and pt_sem pw_sem) fun σv H S R => h.go S R fun v H1 M1 i1 R1 q1 => by
    cases v with
    | true =>
      rw [if_pos rfl]
      exact (q1.1 rfl).go (S.mono i1) R1 fun v2 H2 M2 i2 R2 q2 => ⟨i1.trans i2, M2, R2, q2⟩
    | false =>
      rw [if_neg Bool.false_ne_true]
      exact ⟨i1, M1, R1, q1.2 rfl⟩
theorem w_or (h : TT3 X a σ M fun c M1 => BQ c (QB true M1) (TW3 X (.BoolOp .Or (b :: rest) pos) σ M1 QB)) : TW3 X (.BoolOp .Or (a :: b :: rest) pos) σ M QB :=
  TW3.of (pw_or pt_sem pw_sem) fun σv H S R => h.go S R fun v H1 M1 i1 R1 q1 => by
    cases v with
    | true =>
      rw [if_pos rfl]
      exact ⟨i1, M1, R1, q1.1 rfl⟩
    | false =>
      rw [if_neg Bool.false_ne_true]
      exact (q1.2 rfl).go (S.mono i1) R1 fun v2 H2 M2 i2 R2 q2 => ⟨i1.trans i2, M2, R2, q2⟩
/-! as values: bools -/
theorem v_one {op} (h : ES X a σ M Q) : ES X (.BoolOp op [a] pos) σ M Q := ES.of (pe_one pe_sem) fun σv H S R => h.run σv H S R
theorem v_and (h : ES X a σ M fun d M1 => QBl (fun c M1 => BQ c (ES X (.BoolOp .And (b :: rest) pos) σ M1 Q) (Q (.bl false) M1)) d M1) : ES X (.BoolOp .And (a :: b :: rest) pos) σ M Q :=
  ES.of (pe_and pe_sem pe_sem) fun σv H S R => h.go (H0 := H) S R fun v H1 d M1 i1 R1 t1 q1 => by
    cases t1 <;> first | exact False.elim q1 | skip
    case bl c =>
      refine ⟨c, rfl, ?_⟩
      cases c with
      | true =>
        rw [if_pos rfl]
        exact (q1.1 rfl).go (H0 := H) (S.mono i1) R1 fun v2 H2 d2 M2 i2 R2 t2 q2 => ⟨i1.trans i2, d2, M2, R2, t2, q2⟩
      | false =>
        rw [if_neg Bool.false_ne_true]
        exact ⟨i1, _, M1, R1, .bl _, q1.2 rfl⟩
theorem v_or (h : ES X a σ M fun d M1 => QBl (fun c M1 => BQ c (Q (.bl true) M1) (ES X (.BoolOp .Or (b :: rest) pos) σ M1 Q)) d M1) : ES X (.BoolOp .Or (a :: b :: rest) pos) σ M Q :=
  ES.of (pe_or pe_sem pe_sem) fun σv H S R => h.go (H0 := H) S R fun v H1 d M1 i1 R1 t1 q1 => by
    cases t1 <;> first | exact False.elim q1 | skip
    case bl c =>
      refine ⟨c, rfl, ?_⟩
      cases c with
      | true =>
        rw [if_pos rfl]
        exact ⟨i1, _, M1, R1, .bl _, q1.1 rfl⟩
      | false =>
        rw [if_neg Bool.false_ne_true]
        exact (q1.2 rfl).go (H0 := H) (S.mono i1) R1 fun v2 H2 d2 M2 i2 R2 t2 q2 => ⟨i1.trans i2, d2, M2, R2, t2, q2⟩
theorem v_not (h : ES X a σ M fun d M1 => QBl (fun c M1 => Q (.bl (!c)) M1) d M1) : ES X (.UnaryOp .Not a pos) σ M Q :=
  ES.of (pe_not pe_sem) fun σv H S R => h.go (H0 := H) S R fun v H1 d M1 i1 R1 t1 q1 => by
    cases t1 <;> first | exact False.elim q1 | exact ⟨_, rfl, i1, _, M1, R1, .bl _, q1⟩
theorem v_neg (h : ES X a σ M fun d M1 => match d with | .int i => Q (.int (-i)) M1 | _ => False) : ES X (.UnaryOp .USub a pos) σ M Q :=
  ES.of (pe_un un_neg pe_sem) fun σv H S R => h.go (H0 := H) S R fun v H1 d M1 i1 R1 t1 q1 => by
    cases t1 <;> first | exact False.elim q1 | exact ⟨_, rfl, i1, _, M1, R1, .int _, q1⟩
theorem v_if (h : TT3 X c σ M fun k M1 => BQ k (ES X a σ M1 Q) (ES X b σ M1 Q)) : ES X (.IfExp c a b pos) σ M Q :=
  ES.of (pe_ifExp pt_sem pe_sem pe_sem) fun σv H S R => h.go S R fun v H1 M1 i1 R1 q1 => by
    cases v with
    | true =>
      rw [if_pos rfl]
      exact (q1.1 rfl).go (H0 := H) (S.mono i1) R1 fun v2 H2 d2 M2 i2 R2 t2 q2 => ⟨i1.trans i2, d2, M2, R2, t2, q2⟩
    | false =>
      rw [if_neg Bool.false_ne_true]
      exact (q1.2 rfl).go (H0 := H) (S.mono i1) R1 fun v2 H2 d2 M2 i2 R2 t2 q2 => ⟨i1.trans i2, d2, M2, R2, t2, q2⟩
/-! ### arguments, displays -/
variable {QA : List D → Mp → Prop}
theorem a_nil (q : QA [] M) : AS X [] σ M QA := AS.of pa_nil fun σv H S R => ⟨Imm.refl H, [], M, R, .nil, q⟩
theorem a_cons (h : ES X e σ M fun d M1 => AS X es σ M1 fun ds M2 => QA (d :: ds) M2) (hs : starEach (e :: es) X.env = (false, eval e X.env) :: starEach es X.env := by rfl) : AS X (e :: es) σ M QA :=
  AS.of (pa_cons pe_sem pa_sem hs) fun σv H S R => h.go (H0 := H) S R fun v H1 d M1 i1 R1 t1 q1 => q1.go (S.mono i1) R1 fun vs H2 ds M2 i2 R2 t2 q2 => ⟨i1.trans i2, d :: ds, M2, R2, .cons (Tp.mono i2 _ _ t1) t2, q2⟩
theorem e_tup {x1} (h : AS X es σ M fun ds M1 => ds.length ≤ sizeLine ∧ Q (.tup ds) M1) : ES X (.Tuple es x1 pos) σ M Q :=
  ES.of (pe_tup pa_sem) fun σv H S R => h.go S R fun vs H1 ds M1 i1 R1 t1 q1 => ⟨by rw [t1.length]; exact q1.1, fun p hp => by
    have im := Imm.new (o := .tup vs) hp
    exact ⟨i1.trans im, _, M1, R1.skip hp, .tup (SqT.of upd_same) (Tps.mono im _ _ t1), q1.2⟩⟩
theorem e_lst (h : AS X es σ M fun ds M1 => ds.length ≤ sizeLine ∧ NewM M1 (.lst ds) fun p M' => Q (.ref p) M') : ES X (.List es pos) σ M Q :=
  ES.of (pe_lst pa_sem) fun σv H S R => h.go S R fun vs H1 ds M1 i1 R1 t1 q1 => ⟨by rw [t1.length]; exact q1.1, fun p hp => by
    have im := Imm.new (o := .lst vs) hp
    exact ⟨i1.trans im, _, _, R1.new (m := .lst ds) hp ⟨_, rfl, Tps.mono im _ _ t1⟩, .ref p, NewM.at q1.2 (R1.fresh hp)⟩⟩
theorem e_dict0 (h : NewM M (.dK []) fun p M' => Q (.ref p) M') : ES X (.Dict [] [] pos) σ M Q :=
  ES.of pe_dnewK fun σv H S R p hp => ⟨Imm.new hp, _, _, R.new (m := .dK []) hp ⟨_, rfl, .nil⟩, .ref p, NewM.at h (R.fresh hp)⟩
end
/-! ### calls -/
abbrev Sp3 := List D → Mp → QD → Prop
def spD (K : PySem.W.Frag) (sp3 : Sp3) : Sp := fun vs H Q _ => ∃ (ds : List D) (M : Mp) (Q3 : QD), Tps K H vs ds ∧ RelM K M H ∧ sp3 ds M Q3 ∧ To K H Q3 Q
/-- a def of the module and what it promises -/
def Callee (P : Program) (w : World) (K : PySem.W.Frag) (mg : Str → Option Value) (base : Heap) (x : Str) (k : Nat) (ps : List Str) (sp3 : Sp3) : Prop :=
  ∃ f fd, FnOk P w K mg base CX0 k f fd ps (spD K sp3) ∧ mg x = some (.ref f) ∧ PySem.W.keepIn K (.ref f) = true ∧ Binds K fd ps []
theorem Callee.imp {P : Program} {w : World} {K : PySem.W.Frag} {mg : Str → Option Value} {base : Heap} {x : Str} {k : Nat} {ps : List Str} {sp3 sp3' : Sp3} (C : Callee P w K mg base x k ps sp3)
    (h : ∀ ds M Q, sp3' ds M Q → sp3 ds M Q) : Callee P w K mg base x k ps sp3' := by
  obtain ⟨f, fd, F, a, b, c⟩ := C
  exact ⟨f, fd, F.imp fun vs H Q E ⟨ds, M, Q3, t, r, q, to⟩ => ⟨ds, M, Q3, t, r, h _ _ _ q, to⟩, a, b, c⟩
theorem Callee.mono {P : Program} {w : World} {K : PySem.W.Frag} {mg : Str → Option Value} {base : Heap} {x : Str} {j k : Nat} {ps : List Str} {sp3 : Sp3} (C : Callee P w K mg base x j ps sp3) (h : j ≤ k) : Callee P w K mg base x k ps sp3 := by
  obtain ⟨f, fd, F, a, b, c⟩ := C
  exact ⟨f, fd, F.mono h, a, b, c⟩
section
variable {X : Cx} {e a b c : Expr} {es rest : List Expr} {σ : Sd} {M : Mp} {Q : QD} {pos p : Pos} {x : Str} {k : Nat} {ps : List Str} {sp3 : Sp3}
theorem e_call (C : Callee X.prog X.w X.K X.mg X.base x k ps sp3) (hr : Room k X.A) (h : AS X (e :: es) σ M fun ds M1 => sp3 ds M1 Q) (hg : Gl X x := by rfl) (hdb : (x == ("__debug__" : Str)) = false := by decide)
    (he : starEach (e :: es) X.env = (false, eval e X.env) :: starEach es X.env := by rfl) (hpl : (backTo pos (starEach es X.env)).any (·.1) = false := by rfl) : ES X (.Call (.Name x p) (e :: es) [] pos) σ M Q := by
  obtain ⟨f, fd, F, hm, hk, hb⟩ := C
  refine ES.of (pe_call F hr hg hm hk hb .nil pass0 pa_sem hdb he hpl) fun σv H S R => h.go S R fun vs H1 ds M1 i1 R1 t1 q1 => ?_
  rw [List.append_nil]
  exact ⟨ds, M1, Q, t1, R1, q1, fun v H2 d M2 i2 R2 t2 q2 => ⟨i1.trans i2, d, M2, R2, t2, q2⟩⟩
theorem e_call0 (C : Callee X.prog X.w X.K X.mg X.base x k ps sp3) (hr : Room k X.A) (h : sp3 [] M Q) (hg : Gl X x := by rfl) (hdb : (x == ("__debug__" : Str)) = false := by decide) : ES X (.Call (.Name x p) [] [] pos) σ M Q := by
  obtain ⟨f, fd, F, hm, hk, hb⟩ := C
  refine ES.of (pe_call0 F hr hg hm hk hb .nil pass0 hdb) fun σv H S R => ?_
  exact ⟨[], M, Q, .nil, R, h, fun v H2 d M2 i2 R2 t2 q2 => ⟨i2, d, M2, R2, t2, q2⟩⟩
/-! built-ins by name -/
abbrev RA3 := List D → Mp → QD → Prop
def RDA (K : PySem.W.Frag) (r : List V → Hp → VK → Prop) (R : RA3) : Prop := ∀ H0 H M vs ds Q Q', Imm H0 H → RelM K M H → Tps K H vs ds → To K H0 Q Q' → R ds M Q → r vs H Q'
theorem e_cb {id : String} {r : List V → Hp → VK → Prop} {R : RA3} (hc : CallR X (.builtin id) r) (hR : RDA X.K r R) (hm : X.mg x = none) (hv : bootBuiltins x = some (.builtin id)) (h : AS X (e :: es) σ M fun ds M1 => R ds M1 Q) (hg : Gl X x := by rfl) (hn : x ≠ "__name__" := by decide) (hdb : (x == ("__debug__" : Str)) = false := by decide)
    (he : starEach (e :: es) X.env = (false, eval e X.env) :: starEach es X.env := by rfl) (hpl : (backTo pos (starEach es X.env)).any (·.1) = false := by rfl) : ES X (.Call (.Name x p) (e :: es) [] pos) σ M Q :=
  ES.of (pe_callB hc hg hm hv pa_sem hn hdb he hpl) fun σv H S R => h.go S R fun vs H1 ds M1 i1 R1 t1 q1 => hR H H1 M1 vs ds Q _ i1 R1 t1 To.dq q1
theorem e_ct {T : String} {r : List V → Hp → VK → Prop} {R : RA3} (hc : CallR X (.type T) r) (hR : RDA X.K r R) (hm : X.mg x = none) (hv : bootBuiltins x = some (.type T)) (h : AS X (e :: es) σ M fun ds M1 => R ds M1 Q) (hg : Gl X x := by rfl) (hn : x ≠ "__name__" := by decide) (hdb : (x == ("__debug__" : Str)) = false := by decide)
    (he : starEach (e :: es) X.env = (false, eval e X.env) :: starEach es X.env := by rfl) (hpl : (backTo pos (starEach es X.env)).any (·.1) = false := by rfl) : ES X (.Call (.Name x p) (e :: es) [] pos) σ M Q :=
  ES.of (pe_callTy hc hg hm hv pa_sem hn hdb he hpl) fun σv H S R => h.go S R fun vs H1 ds M1 i1 R1 t1 q1 => hR H H1 M1 vs ds Q _ i1 R1 t1 To.dq q1
end
section
variable {K : PySem.W.Frag}
theorem Tps.one {H : Hp} {vs : List V} {d : D} (h : Tps K H vs [d]) : ∃ v, vs = [v] ∧ Tp K H v d := by
  cases h with
  | cons r t => cases t; exact ⟨_, rfl, r⟩
theorem Tps.two {H : Hp} {vs : List V} {d e : D} (h : Tps K H vs [d, e]) : ∃ v u, vs = [v, u] ∧ Tp K H v d ∧ Tp K H u e := by
  cases h with
  | cons r t =>
    obtain ⟨u, rfl, q⟩ := t.one
    exact ⟨_, u, rfl, r, q⟩
def RLen : RA3 := fun ds M Q => match ds with
  | [.str z] => z.length ≤ sizeLine ∧ Q (.int z.length) M
  | [.tup l] => Q (.int l.length) M
  | [.rol l] => Q (.int l.length) M
  | [.ref a] => ∃ l, M a = some (.lst l) ∧ Q (.int l.length) M
  | _ => False
def rLen (K : PySem.W.Frag) : List V → Hp → VK → Prop := fun xs H Q => ∃ x n, xs = [x] ∧ LenV K x H n ∧ Q (.int n) H
theorem rd_len : RDA K (rLen K) RLen := by
  intro H0 H M vs ds Q Q' i R t k q
  match ds, t, q with
  | [.str z], t, q =>
    obtain ⟨v, rfl, r⟩ := t.one
    cases r
    exact ⟨_, _, rfl, ⟨q.1, rfl⟩, k _ _ _ _ i R (.int _) q.2⟩
  | [.tup l], t, q =>
    obtain ⟨v, rfl, r⟩ := t.one
    cases r with
    | tup hs ha => exact ⟨_, _, rfl, .inr ⟨_, hs, rfl⟩, k _ _ _ _ i R (.int _) (by rw [ha.length]; exact q)⟩
  | [.rol l], t, q =>
    obtain ⟨v, rfl, r⟩ := t.one
    cases r with
    | rol hs ha => exact ⟨_, _, rfl, .inl ⟨_, hs.sq, rfl⟩, k _ _ _ _ i R (.int _) (by rw [ha.length]; exact q)⟩
  | [.ref a], t, q =>
    obtain ⟨v, rfl, r⟩ := t.one
    obtain ⟨l, e, q⟩ := q
    obtain ⟨_, ea, us, rfl, ha⟩ := R a _ e
    cases r
    exact ⟨_, _, rfl, .inl ⟨_, SqL.of ea, rfl⟩, k _ _ _ _ i R (.int _) (by rw [ha.length]; exact q)⟩
def RAbs : RA3 := fun ds M Q => match ds with
  | [.int i] => Q (.int (if i < 0 then -i else i)) M
  | _ => False
theorem rd_abs : RDA K (fun xs H Q => ∃ i, xs = [.int i] ∧ Q (.int (if i < 0 then -i else i)) H) RAbs := by
  intro H0 H M vs ds Q Q' i R t k q
  match ds, t, q with
  | [.int n], t, q =>
    obtain ⟨v, rfl, r⟩ := t.one
    cases r
    exact ⟨_, rfl, k _ _ _ _ i R (.int _) q⟩
def RIntC : RA3 := fun ds M Q => match ds with
  | [.int i] => Q (.int i) M
  | [.bl b] => Q (.int (if b then 1 else 0)) M
  | _ => False
theorem rd_intc : RDA K (fun xs H Q => (∃ i, xs = [.int i] ∧ Q (.int i) H) ∨ ∃ k, xs = [.bl k] ∧ Q (.int (if k then 1 else 0)) H) RIntC := by
  intro H0 H M vs ds Q Q' i R t k q
  match ds, t, q with
  | [.int n], t, q =>
    obtain ⟨v, rfl, r⟩ := t.one
    cases r
    exact .inl ⟨_, rfl, k _ _ _ _ i R (.int _) q⟩
  | [.bl n], t, q =>
    obtain ⟨v, rfl, r⟩ := t.one
    cases r
    exact .inr ⟨_, rfl, k _ _ _ _ i R (.int _) q⟩
def RList : RA3 := fun ds M Q => match ds with
  | [.tup l] => NewM M (.lst l) fun p M' => Q (.ref p) M'
  | [.rol l] => NewM M (.lst l) fun p M' => Q (.ref p) M'
  | [.ref a] => ∃ l, M a = some (.lst l) ∧ NewM M (.lst l) fun p M' => Q (.ref p) M'
  | _ => False
theorem new_lst {H0 H : Hp} {M : Mp} {xs : List V} {l : List D} {Q : QD} {Q' : VK} (i : Imm H0 H) (R : RelM K M H) (ha : Tps K H xs l) (k : To K H0 Q Q') (q : NewM M (.lst l) fun p M' => Q (.ref p) M') (p : Addr) (hp : H p = none) : Q' (.ref p) (upd H p (.lst xs)) := by
  have im := Imm.new (o := .lst xs) hp
  exact k _ _ _ _ (i.trans im) (R.new (m := .lst l) hp ⟨_, rfl, Tps.mono im _ _ ha⟩) (.ref p) (NewM.at q (R.fresh hp))
theorem rd_list : RDA K (fun xs H Q => ∃ p ys, xs = [.ref p] ∧ (SqL K H p ys ∨ SqT K H p ys) ∧ ∀ l, H l = none → Q (.ref l) (upd H l (.lst ys))) RList := by
  intro H0 H M vs ds Q Q' i R t k q
  match ds, t, q with
  | [.tup l], t, q =>
    obtain ⟨v, rfl, r⟩ := t.one
    cases r with
    | tup hs ha => exact ⟨_, _, rfl, .inr hs, fun p hp => new_lst i R ha k q p hp⟩
  | [.rol l], t, q =>
    obtain ⟨v, rfl, r⟩ := t.one
    cases r with
    | rol hs ha => exact ⟨_, _, rfl, .inl hs.sq, fun p hp => new_lst i R ha k q p hp⟩
  | [.ref a], t, q =>
    obtain ⟨v, rfl, r⟩ := t.one
    obtain ⟨l, e, q⟩ := q
    obtain ⟨_, ea, us, rfl, ha⟩ := R a _ e
    cases r
    exact ⟨_, _, rfl, .inl (SqL.of ea), fun p hp => new_lst i R ha k q p hp⟩
def RTuple : RA3 := fun ds M Q => match ds with
  | [.tup l] => Q (.tup l) M
  | [.rol l] => Q (.tup l) M
  | [.ref a] => ∃ l, M a = some (.lst l) ∧ Q (.tup l) M
  | _ => False
theorem new_tup {H0 H : Hp} {M : Mp} {xs : List V} {l : List D} {Q : QD} {Q' : VK} (i : Imm H0 H) (R : RelM K M H) (ha : Tps K H xs l) (k : To K H0 Q Q') (q : Q (.tup l) M) (p : Addr) (hp : H p = none) : Q' (.ref p) (upd H p (.tup xs)) := by
  have im := Imm.new (o := .tup xs) hp
  exact k _ _ _ _ (i.trans im) (R.skip hp) (.tup (SqT.of upd_same) (Tps.mono im _ _ ha)) q
theorem rd_tuple : RDA K (fun xs H Q => ∃ p ys, xs = [.ref p] ∧ ((SqL K H p ys ∧ ∀ l, H l = none → Q (.ref l) (upd H l (.tup ys))) ∨ (SqT K H p ys ∧ Q (.ref p) H))) RTuple := by
  intro H0 H M vs ds Q Q' i R t k q
  match ds, t, q with
  | [.tup l], t, q =>
    obtain ⟨v, rfl, r⟩ := t.one
    cases r with
    | tup hs ha => exact ⟨_, _, rfl, .inr ⟨hs, k _ _ _ _ i R (.tup hs ha) q⟩⟩
  | [.rol l], t, q =>
    obtain ⟨v, rfl, r⟩ := t.one
    cases r with
    | rol hs ha => exact ⟨_, _, rfl, .inl ⟨hs.sq, fun p hp => new_tup i R ha k q p hp⟩⟩
  | [.ref a], t, q =>
    obtain ⟨v, rfl, r⟩ := t.one
    obtain ⟨l, e, q⟩ := q
    obtain ⟨_, ea, us, rfl, ha⟩ := R a _ e
    cases r
    exact ⟨_, _, rfl, .inl ⟨SqL.of ea, fun p hp => new_tup i R ha k q p hp⟩⟩
/-- a value's type, by name -/
def tyD (M : Mp) : D → Option String
  | .non => some "NoneType"
  | .bl _ => some "bool"
  | .int _ => some "int"
  | .str _ => some "str"
  | .tup _ => some "tuple"
  | .rol _ => some "list"
  | .ref a => match M a with
    | some (.lst _) => some "list"
    | some (.dK _) => some "dict"
    | _ => none
  | .ty _ => none
theorem tyD_ok {H : Hp} {M : Mp} {v : V} {d : D} {n : String} (R : RelM K M H) (t : Tp K H v d) (h : tyD M d = some n) : TyX K H v (.type n) := by
  cases t with
  | non => cases h; exact .base .non
  | bl b => cases h; exact .base (.bl b)
  | int b => cases h; exact .base (.int b)
  | str b => cases h; exact .base (.str b)
  | ty b => cases h
  | tup hs ha =>
    cases h
    rcases hs with (hs | ⟨o, hs⟩) | ⟨o, its, m, hk, hc, _⟩
    · exact .base (.tup hs)
    · exact .fTuple hs
    · exact .kTuple hk hc
  | rol hs ha =>
    cases h
    rcases hs with ⟨o, hs⟩ | ⟨o, its, m, hk, hc, _⟩
    · exact .base (.frz hs)
    · exact .kList hk hc
  | ref a =>
    unfold tyD at h
    cases e : M a with
    | none => simp [e] at h
    | some m =>
      obtain ⟨o, ea, ro⟩ := R a _ e
      cases m with
      | lst l =>
        simp [e] at h
        subst h
        obtain ⟨_, rfl, _⟩ := ro
        exact .base (.lst ea)
      | dK l =>
        simp [e] at h
        subst h
        obtain ⟨_, rfl, _⟩ := ro
        exact .base (.dK ea)
      | _ => simp [e] at h
def RIsi : RA3 := fun ds M Q => match ds with
  | [d, .ty c] => ∃ n b, tyD M d = some n ∧ kitB n c = some b ∧ Q (.bl b) M
  | _ => False
theorem rd_isi : RDA K (rIsi K) RIsi := by
  intro H0 H M vs ds Q Q' i R t k q
  match ds, t, q with
  | [d, .ty c], t, ⟨n, b, hn, hb, q⟩ =>
    obtain ⟨v, u, rfl, r, r2⟩ := t.two
    cases r2
    exact ⟨v, .ty c, _, _, b, rfl, .ty c, tyD_ok R r hn, kit_ty hb, k _ _ _ _ i R (.bl _) q⟩
end
section
variable {X : Cx} {e a b c : Expr} {es rest : List Expr} {σ : Sd} {M : Mp} {Q : QD} {pos p p2 : Pos}
theorem e_len (hm : X.mg "len" = none) (h : AS X [e] σ M fun ds M1 => RLen ds M1 Q) (hg : Gl X "len" := by rfl) (he : starEach [e] X.env = (false, eval e X.env) :: starEach [] X.env := by rfl) : ES X (.Call (.Name "len" p) [e] [] pos) σ M Q := e_cb call_len rd_len hm PySem.boot_len h hg (by decide) (by decide) he rfl
theorem e_abs (hm : X.mg "abs" = none) (h : AS X [e] σ M fun ds M1 => RAbs ds M1 Q) (hg : Gl X "abs" := by rfl) (he : starEach [e] X.env = (false, eval e X.env) :: starEach [] X.env := by rfl) : ES X (.Call (.Name "abs" p) [e] [] pos) σ M Q := e_cb call_abs rd_abs hm (by decide +kernel) h hg (by decide) (by decide) he rfl
theorem e_intc (hm : X.mg "int" = none) (h : AS X [e] σ M fun ds M1 => RIntC ds M1 Q) (hg : Gl X "int" := by rfl) (he : starEach [e] X.env = (false, eval e X.env) :: starEach [] X.env := by rfl) : ES X (.Call (.Name "int" p) [e] [] pos) σ M Q := e_ct call_int1 rd_intc hm (by decide +kernel) h hg (by decide) (by decide) he rfl
theorem e_listc (hm : X.mg "list" = none) (h : AS X [e] σ M fun ds M1 => RList ds M1 Q) (hg : Gl X "list" := by rfl) (he : starEach [e] X.env = (false, eval e X.env) :: starEach [] X.env := by rfl) : ES X (.Call (.Name "list" p) [e] [] pos) σ M Q := e_ct call_list_of rd_list hm (by decide +kernel) h hg (by decide) (by decide) he rfl
theorem e_tuplec (hm : X.mg "tuple" = none) (h : AS X [e] σ M fun ds M1 => RTuple ds M1 Q) (hg : Gl X "tuple" := by rfl) (he : starEach [e] X.env = (false, eval e X.env) :: starEach [] X.env := by rfl) : ES X (.Call (.Name "tuple" p) [e] [] pos) σ M Q := e_ct call_tuple_of rd_tuple hm (by decide +kernel) h hg (by decide) (by decide) he rfl
theorem e_isi (hm : X.mg "isinstance" = none) (h : AS X [a, b] σ M fun ds M1 => RIsi ds M1 Q) (hg : Gl X "isinstance" := by rfl) (he : starEach [a, b] X.env = (false, eval a X.env) :: starEach [b] X.env := by rfl) (he2 : (backTo pos (starEach [b] X.env)).any (·.1) = false := by rfl) : ES X (.Call (.Name "isinstance" p) [a, b] [] pos) σ M Q := e_cb call_isi rd_isi hm (by decide +kernel) h hg (by decide) (by decide) he he2
theorem e_tyname {x : Str} {n : String} (hm : X.mg x = none) (hv : bootBuiltins x = some (.type n)) (q : Q (.ty n) M) (hg : Gl X x := by rfl) (hn : x ≠ "__name__" := by decide) (hdb : (x == ("__debug__" : Str)) = false := by decide) : ES X (.Name x pos) σ M Q := e_bltn (v := .ty n) hm hv rfl (fun _ => .ty n) q hg hn hdb
end
end DL
set_option maxHeartbeats 1000000
namespace DL
open PySem L2 PySem.Spec PyProof.Rows
/-! ### statements -/
section
variable {X : Cx} {e a b c tg iter : Expr} {es rest : List Expr} {st : Stmt} {sts body els : List Stmt} {σ : Sd} {M : Mp} {Q : QD} {E : DE} {pos p p2 : Pos}
theorem ss_nil (q : E.nx σ M) : SSs X [] σ M E := SSs.of pss_nil fun σv H S R => ⟨Imm.refl H, σ, M, S, R, q⟩
theorem ss_cons (h : SS X st σ M { E with nx := fun σ1 M1 => SSs X sts σ1 M1 E }) : SSs X (st :: sts) σ M E :=
  SSs.of (pss_cons ps_sem pss_sem) fun σv H S R => (h.run σv H S R).mono
    ⟨fun σ1 H1 ⟨i1, σ', M1, S1, R1, q1⟩ => (q1.run σ1 H1 S1 R1).mono (DE.from i1), fun _ _ q => q, fun _ _ q => q, fun _ _ q => q⟩
theorem ss_one (h : SS X st σ M E) : SSs X [st] σ M E := SSs.of (pss_one ps_sem) fun σv H S R => h.run σv H S R
theorem s_asg (i : Nat) {x : Str} {pos' : Pos} (hN : X.N.Nodup) (h : ES X e σ M fun d M1 => E.nx (σ.set i (some d)) M1) (hi : X.N[i]? = some x := by rfl) (hx : Loc X.env.scope x := by first | exact Or.inl rfl | exact Or.inr rfl)
    (hs : swapsWith e (some (.Name x pos')) pos.line X.env = pure false := by rfl) (hf : X.fn x = true ∨ X.env.scope.names.lookup x = some .local := by first | exact .inl rfl | exact .inr rfl | assumption) : SS X (.Assign [.Name x pos'] e pos) σ M E :=
  SS.of (ps_set hN hi hx pe_sem hs hf) fun σv H S R => h.go (H0 := H) S R fun v H1 d M1 i1 R1 t1 q1 => ⟨i1, _, M1, (S.mono i1).set t1 i, R1, q1⟩
theorem s_asgG (h : ES X e σ M fun d M1 => GS X tg d σ M1 E.nx) (hs : swapsWithSole [tg] e pos.line X.env = pure false := by rfl) (hw : swappedStores [tg] e X.env = pure none := by rfl)
    (h1 : (assignEach [tg] X.env).map (·.2) = [assign tg X.env] := by rfl) : SS X (.Assign [tg] e pos) σ M E :=
  SS.of (ps_asg pe_sem pg_sem hs hw h1) fun σv H S R => h.go (H0 := H) S R fun v H1 d M1 i1 R1 t1 q1 => (q1.run σv H1 v (S.mono i1) R1 t1).mono fun σ2 H2 q => DN.from i1 q
theorem s_expr (h : ES X e σ M fun _ M1 => E.nx σ M1) (hs : swapsWith e none pos.line X.env = pure false := by rfl) : SS X (.Expr e pos) σ M E :=
  SS.of (ps_expr pe_sem hs) fun σv H S R => h.go (H0 := H) S R fun v H1 d M1 i1 R1 t1 q1 => ⟨i1, σ, M1, S.mono i1, R1, q1⟩
theorem s_doc {x j pos'} (q : E.nx σ M) : SS X (.Expr (.Constant (.str x) j pos) pos') σ M E := SS.of ps_doc fun σv H S R => ⟨Imm.refl H, σ, M, S, R, q⟩
theorem s_ret (h : ES X e σ M E.rt) : SS X (.Return (some e) pos) σ M E := SS.of (ps_ret pe_sem) fun σv H S R => h.run σv H S R
theorem s_retN (q : E.rt .non M) : SS X (.Return none pos) σ M E := SS.of ps_retN fun σv H S R => ⟨Imm.refl H, _, M, R, .non, q⟩
theorem s_pass (q : E.nx σ M) : SS X (.Pass pos) σ M E := SS.of ps_pass fun σv H S R => ⟨Imm.refl H, σ, M, S, R, q⟩
theorem s_break (q : E.bk σ M) : SS X (.Break pos) σ M E := SS.of ps_break fun σv H S R => ⟨Imm.refl H, σ, M, S, R, q⟩
theorem s_cont (q : E.ct σ M) : SS X (.Continue pos) σ M E := SS.of ps_continue fun σv H S R => ⟨Imm.refl H, σ, M, S, R, q⟩
theorem s_if (h : TT3 X c σ M fun k M1 => BQ k (SSs X sts σ M1 E) (SSs X els σ M1 E)) : SS X (.If c sts els pos) σ M E :=
  SS.of (ps_if pt_sem pss_sem pss_sem) fun σv H S R => h.go S R fun v H1 M1 i1 R1 q1 => by
    cases v with
    | true =>
      rw [if_pos rfl]
      exact ((q1.1 rfl).run σv H1 (S.mono i1) R1).mono (DE.from i1)
    | false =>
      rw [if_neg Bool.false_ne_true]
      exact ((q1.2 rfl).run σv H1 (S.mono i1) R1).mono (DE.from i1)
/-- name op= e, ints -/
theorem s_augI (i : Nat) {x : Str} {pos' : Pos} {d : D} (hN : X.N.Nodup) (hd : σ[i]? = some (some d)) (h : ES X e σ M fun y M1 => RInt0 (fun i j => .int (i + j)) d y M1 fun z M2 => E.nx (σ.set i (some z)) M2) (hi : X.N[i]? = some x := by rfl) (hx : Loc X.env.scope x := by first | exact Or.inl rfl | exact Or.inr rfl)
    (hf : X.fn x = true ∨ X.env.scope.names.lookup x = some .local := by first | exact .inl rfl | exact .inr rfl | assumption) : SS X (.AugAssign (.Name x pos') .Add e pos) σ M E :=
  SS.of (ps_aug hN hi hx pe_sem ip_add hf) fun σv H S R => by
    obtain ⟨v, ev, tv⟩ := S.at_ i d hd
    refine ⟨v, ev, h.go (H0 := H) S R fun u H1 y M1 i1 R1 t1 q1 => ?_⟩
    cases tv <;> first | exact False.elim q1 | skip
    case int n =>
      cases t1 <;> first | exact False.elim q1 | skip
      case int m => exact ⟨n, m, rfl, rfl, i1, _, M1, (S.mono i1).set (.int _) i, R1, q1⟩
theorem s_augS (i : Nat) {x : Str} {pos' : Pos} {d : D} (hN : X.N.Nodup) (hd : σ[i]? = some (some d)) (h : ES X e σ M fun y M1 => RInt0 (fun i j => .int (i - j)) d y M1 fun z M2 => E.nx (σ.set i (some z)) M2) (hi : X.N[i]? = some x := by rfl) (hx : Loc X.env.scope x := by first | exact Or.inl rfl | exact Or.inr rfl)
    (hf : X.fn x = true ∨ X.env.scope.names.lookup x = some .local := by first | exact .inl rfl | exact .inr rfl | assumption) : SS X (.AugAssign (.Name x pos') .Sub e pos) σ M E :=
  SS.of (ps_aug hN hi hx pe_sem ip_sub hf) fun σv H S R => by
    obtain ⟨v, ev, tv⟩ := S.at_ i d hd
    refine ⟨v, ev, h.go (H0 := H) S R fun u H1 y M1 i1 R1 t1 q1 => ?_⟩
    cases tv <;> first | exact False.elim q1 | skip
    case int n =>
      cases t1 <;> first | exact False.elim q1 | skip
      case int m => exact ⟨n, m, rfl, rfl, i1, _, M1, (S.mono i1).set (.int _) i, R1, q1⟩
/-! ### targets -/
theorem g_name (i : Nat) {x : Str} {d : D} {Q : Sd → Mp → Prop} (hN : X.N.Nodup) (q : Q (σ.set i (some d)) M) (hi : X.N[i]? = some x := by rfl) (hx : Loc X.env.scope x := by first | exact Or.inl rfl | exact Or.inr rfl)
    (hf : X.fn x = true ∨ X.env.scope.names.lookup x = some .local := by first | exact .inl rfl | exact .inr rfl | assumption) : GS X (.Name x pos) d σ M Q :=
  ⟨fun σv H v S R t pins s u I r => (pg_name hN hi hx hf).run pins s σv H v u _ I r ⟨Imm.refl H, _, M, S.set t i, R, q⟩⟩
theorem gs_nil {Q : Sd → Mp → Prop} (q : Q σ M) : GSs X [] [] σ M Q := ⟨fun σv H vs S R t pins s us I r => by
  cases t
  exact pgs_nil.run pins s σv H [] us _ I r ⟨rfl, Imm.refl H, σ, M, S, R, q⟩⟩
theorem gs_cons {d : D} {ds : List D} {Q : Sd → Mp → Prop} (h : GS X e d σ M fun σ1 M1 => GSs X es ds σ1 M1 Q)
    (hs : (assignEach (e :: es) X.env).map (·.2) = assign e X.env :: (assignEach es X.env).map (·.2) := by rfl) : GSs X (e :: es) (d :: ds) σ M Q := ⟨fun σv H vs S R t pins s us I r => by
  cases t with
  | cons t1 t2 =>
    refine (pgs_cons pg_sem pgs_sem hs).run pins s σv H _ us _ I r ⟨_, _, rfl, (h.run σv H _ S R t1).mono fun σ2 H2 ⟨i2, σ', M2, S2, R2, q2⟩ => ?_⟩
    exact (q2.run σ2 H2 _ S2 R2 (Tps.mono i2 _ _ t2)).mono fun _ _ q => DN.from i2 q⟩
/-- a, b = a tuple -/
theorem g_tup {k : Nat} {d : D} {ds : List D} {Q : Sd → Mp → Prop} (hd : d = .tup ds) (h : GSs X es ds σ M Q) (hc : X.calm = true := by rfl) (hn : (assignEach es X.env).length = ds.length := by rfl) (hst : (assignEach es X.env).findIdx? (·.1) = none := by rfl) : GS X (.Tuple es k pos) d σ M Q := ⟨fun σv H v S R t pins s u I r => by
  subst hd
  cases t with
  | @tup a xs _ hs ha => exact (pg_tup (n := ds.length) hc pgs_sem hn hst).run pins s σv H _ u _ I r ⟨a, xs, rfl, hs, ha.length, h.run σv H xs S R ha⟩⟩
/-- xs[i] = e -/
def RSet (o i d : D) (M : Mp) (Q : Mp → Prop) : Prop := match o, i with
  | .ref a, .int k => ∃ ds j, M a = some (.lst ds) ∧ ixN ds.length k = some j ∧ SetM M a (.lst (ds.set j d)) Q
  | _, _ => False
theorem g_sub {d : D} {Q : Sd → Mp → Prop} (h : ES X a σ M fun o M1 => ES X b σ M1 fun i M2 => RSet o i d M2 (Q σ)) (ha : ∀ v, assign (.Subscript a b pos) X.env v = (do
      let ov ← holding [v] (eval a X.env)
      let iv ← holding [v, ov] (eval b X.env)
      standAt pos
      holding [v, ov, iv] (setItem ov iv v)
      release [v, ov, iv] []) := by intro _; rfl) : GS X (.Subscript a b pos) d σ M Q := ⟨fun σv H v S R t pins s u I r => by
  refine (pg_sub pe_sem pe_sem set_list ha).run pins s σv H v u _ I r ?_
  refine h.go (H0 := H) S R fun ov H1 o M1 i1 R1 t1 q1 => q1.go (H0 := H) (S.mono i1) R1 fun iv H2 i M2 i2 R2 t2 q2 => ?_
  cases t1 <;> first | exact False.elim q2 | skip
  case ref p =>
    cases t2 <;> first | exact False.elim q2 | skip
    case int k =>
      obtain ⟨ds, j, e, hj, q⟩ := q2
      obtain ⟨_, ea, us, rfl, ha'⟩ := R2 p _ e
      have im : Imm H2 (upd H2 p (.lst (us.set j v))) := Imm.set ea (fun z => z)
      have ii := i1.trans i2
      refine ⟨p, us, k, j, rfl, rfl, ea, by rw [ha'.length]; exact hj, ii.trans im, σ, _, S.mono (ii.trans im), R2.set (m := .lst (ds.set j d)) ea (fun z => z) ⟨_, rfl, ?_⟩, SetM.at q⟩
      exact Tps.set (Tp.mono (ii.trans im) _ _ t) j (Tps.mono im _ _ ha')⟩
/-! ### while, for -/
theorem s_while (W : Nat → Sd → Mp → Prop) (m : Nat) (w0 : W m σ M) (hp : PassesOwn (model X.prog X.w) X.A X.env X.xe)
    (hs : ∀ m σ M, W m σ M → TT3 X c σ M fun k M1 => BQ k (SSs X body σ M1 { nx := fun σ' M' => ∃ m', m' < m ∧ W m' σ' M', ct := fun σ' M' => ∃ m', m' < m ∧ W m' σ' M', bk := E.nx, rt := E.rt }) (E.nx σ M1)) :
    SS X (.While c body [] pos) σ M E :=
  SS.of (ps_while hp pt_sem pss_sem) fun σv H S R => by
    refine ⟨fun m σv' H' => Imm H H' ∧ ∃ σ' M', Slots X.K H' σv' σ' ∧ RelM X.K M' H' ∧ W m σ' M', ⟨m, Imm.refl H, σ, M, S, R, w0⟩, ?_⟩
    rintro m1 σv1 H1 ⟨i1, σ1, M1, S1, R1, w1⟩
    refine (hs m1 σ1 M1 w1).go S1 R1 fun k H2 M2 i2 R2 q2 => ?_
    cases k with
    | true =>
      rw [if_pos rfl]
      refine ⟨fun σv' H' => Imm H H' ∧ ∃ m', m' < m1 ∧ ∃ σ' M', Slots X.K H' σv' σ' ∧ RelM X.K M' H' ∧ W m' σ' M', fun σv' H' ⟨i, m', hm, r⟩ => ⟨m', hm, i, r⟩, ?_⟩
      refine ((q2.1 rfl).run σv1 H2 (S1.mono i2) R2).mono ⟨fun σv3 H3 ⟨i3, σ3, M3, S3, R3, m', hm, w3⟩ => ⟨(i1.trans i2).trans i3, m', hm, σ3, M3, S3, R3, w3⟩, fun _ _ q => DQ.from (i1.trans i2) q, fun _ _ q => DN.from (i1.trans i2) q, fun σv3 H3 ⟨i3, σ3, M3, S3, R3, m', hm, w3⟩ => ⟨(i1.trans i2).trans i3, m', hm, σ3, M3, S3, R3, w3⟩⟩
    | false =>
      rw [if_neg Bool.false_ne_true]
      exact ⟨i1.trans i2, σ1, M2, S1.mono i2, R2, q2.2 rfl⟩
theorem s_for (hp : PassesOwn (model X.prog X.w) X.A X.env X.xe) (h : IS X tg iter σ M fun its G M1 => ∃ Pv : Nat → Sd → Mp → Prop, Pv 0 σ M1 ∧ (∀ i σ' M', i ≤ its.length → Pv i σ' M' → G M') ∧
      (∀ i d σ' M', its[i]? = some d → Pv i σ' M' → GS X tg d σ' M' fun σ2 M2 => SSs X body σ2 M2 { nx := Pv (i + 1), ct := Pv (i + 1), bk := E.nx, rt := E.rt }) ∧ ∀ σ' M', Pv its.length σ' M' → E.nx σ' M') (hc : X.calm = true := by rfl)
    (hs : ∀ x, foldedSetIterable iter X.env x = pure x := by intro _; rfl) : SS X (.For tg iter body [] pos) σ M E :=
  SS.of (ps_for hp hc pi_sem pg_sem pss_sem hs) fun σv H S R => (h.run σv H S R).mono fun J H1 ⟨i1, its, G, M1, R1, wk, Pv, p0, pG, ps, pe⟩ => by
    refine ⟨fun i m σv' H' => m = its.length - i ∧ i ≤ its.length ∧ Imm H1 H' ∧ ∃ σ' M', Slots X.K H' σv' σ' ∧ RelM X.K M' H' ∧ Pv i σ' M', ⟨its.length, by simp, Nat.zero_le _, Imm.refl H1, σ, M1, S.mono i1, R1, p0⟩, ?_⟩
    rintro i m σv2 H2 ⟨rfl, hi, i2, σ2, M2, S2, R2, p2⟩
    by_cases hlt : i < its.length
    · refine .inr ⟨wk.goes i H2 M2 i2 R2 (pG i σ2 M2 hi p2) hlt, fun σv' H' => Imm H1 H' ∧ ∃ σ' M', Slots X.K H' σv' σ' ∧ RelM X.K M' H' ∧ Pv (i + 1) σ' M', fun σv' H' ⟨a, b⟩ => ⟨its.length - (i + 1), by omega, rfl, hlt, a, b⟩, fun x H3 y => ?_⟩
      have hd : its[i]? = some its[i] := List.getElem?_eq_getElem hlt
      obtain ⟨i3, R3, t3⟩ := wk.yields i H2 M2 x H3 _ i2 R2 (pG i σ2 M2 hi p2) hd y
      refine ((ps i _ σ2 M2 hd p2).run σv2 H3 x (S2.mono i3) R3 t3).mono fun σv4 H4 ⟨i4, σ4, M4, S4, R4, q4⟩ => ?_
      have i14 := (i2.trans i3).trans i4
      refine (q4.run σv4 H4 S4 R4).mono ⟨fun _ H5 ⟨i5, r⟩ => ⟨i14.trans i5, r⟩, fun _ _ q => DQ.from (i1.trans i14) q, fun _ _ q => DN.from (i1.trans i14) q, fun _ H5 ⟨i5, r⟩ => ⟨i14.trans i5, r⟩⟩
    · have e : i = its.length := by omega
      subst e
      exact .inl ⟨wk.stops H2 M2 i2 R2 (pG _ σ2 M2 hi p2), i1.trans i2, σ2, M2, S2, R2, pe σ2 M2 p2⟩
/-! ### what is walked -/
variable {R : List D → (Mp → Prop) → Mp → Prop}
theorem IS.of {t : TI} (h : PI X tg iter t) (q : ∀ σv H, Slots X.K H σv σ → RelM X.K M H → t σv H fun J H1 => Imm H H1 ∧ ∃ its G M1, RelM X.K M1 H1 ∧ WalkD X.K H1 J its G ∧ R its G M1) : IS X tg iter σ M R :=
  ⟨fun σv H S RM pins s I => h.run pins s σv H _ I (q σv H S RM)⟩
theorem wk_T {K : PySem.W.Frag} {H1 : Hp} {p : Addr} {xs : List V} {ds : List D} (hs : SqT K H1 p xs) (ha : Tps K H1 xs ds) : WalkD K H1 (Itt K p) ds (fun _ => True) where
  goes := fun i H M im R _ hi => by
    obtain ⟨v, ev, _⟩ := ha.get (List.getElem?_eq_getElem hi)
    exact ⟨xs, v, imm_sqT im hs, ev⟩
  stops := fun H M im R _ => ⟨xs, imm_sqT im hs, by rw [ha.length]; exact Nat.le_refl _⟩
  yields := fun i H M x H' d im R _ hd y => by
    obtain ⟨e, y⟩ := y
    subst e
    obtain ⟨v, ev, tv⟩ := ha.get hd
    have := y xs (imm_sqT im hs)
    rw [ev] at this
    cases this
    exact ⟨Imm.refl _, R, Tp.mono im _ _ tv⟩
theorem wk_R {K : PySem.W.Frag} {H1 : Hp} {p : Addr} {xs : List V} {ds : List D} (hs : SqF K H1 p xs) (ha : Tps K H1 xs ds) : WalkD K H1 (Itl K p) ds (fun _ => True) where
  goes := fun i H M im R _ hi => by
    obtain ⟨v, ev, _⟩ := ha.get (List.getElem?_eq_getElem hi)
    exact ⟨xs, v, (imm_sqF im hs).sq, ev⟩
  stops := fun H M im R _ => ⟨xs, (imm_sqF im hs).sq, by rw [ha.length]; exact Nat.le_refl _⟩
  yields := fun i H M x H' d im R _ hd y => by
    obtain ⟨e, y⟩ := y
    subst e
    obtain ⟨v, ev, tv⟩ := ha.get hd
    have := y xs (imm_sqF im hs).sq
    rw [ev] at this
    cases this
    exact ⟨Imm.refl _, R, Tp.mono im _ _ tv⟩
theorem wk_L {K : PySem.W.Frag} {H1 : Hp} {p : Addr} {ds : List D} : WalkD K H1 (Itl K p) ds (fun M => M p = some (.lst ds)) where
  goes := fun i H M im R g hi => by
    obtain ⟨_, ea, us, rfl, ha⟩ := R p _ g
    obtain ⟨v, ev, _⟩ := ha.get (List.getElem?_eq_getElem hi)
    exact ⟨us, v, SqL.of ea, ev⟩
  stops := fun H M im R g => by
    obtain ⟨_, ea, us, rfl, ha⟩ := R p _ g
    exact ⟨us, SqL.of ea, by rw [ha.length]; exact Nat.le_refl _⟩
  yields := fun i H M x H' d im R g hd y => by
    obtain ⟨e, y⟩ := y
    subst e
    obtain ⟨_, ea, us, rfl, ha⟩ := R p _ g
    obtain ⟨v, ev, tv⟩ := ha.get hd
    have := y us (SqL.of ea)
    rw [ev] at this
    cases this
    exact ⟨Imm.refl _, R, tv⟩
theorem wk_N {K : PySem.W.Frag} {H1 : Hp} {lo : Int} {n : Nat} : WalkD K H1 (Itr lo n) ((List.range n).map fun i => D.int (lo + (i : Nat))) (fun _ => True) where
  goes := fun i H M im R _ hi => by
    rw [List.length_map, List.length_range] at hi
    exact hi
  stops := fun H M im R _ => by
    rw [List.length_map, List.length_range]
    exact Nat.le_refl _
  yields := fun i H M x H' d im R _ hd y => by
    obtain ⟨e, y⟩ := y
    subst e y
    rw [List.getElem?_map] at hd
    by_cases hi : i < n
    · rw [List.getElem?_range hi] at hd
      cases hd
      exact ⟨Imm.refl _, R, .int _⟩
    · rw [List.getElem?_eq_none (by rw [List.length_range]; omega)] at hd
      cases hd
/-- a list (for x in xs) -/
theorem i_list (h : ES X iter σ M fun d M1 => match d with
    | .rol ds => R ds (fun _ => True) M1
    | .ref a => ∃ ds, M1 a = some (.lst ds) ∧ R ds (fun M => M a = some (.lst ds)) M1
    | _ => False) : IS X tg iter σ M R :=
  IS.of (pi_list pe_sem) fun σv H S RM => h.go (H0 := H) S RM fun v H1 d M1 i1 R1 t1 q1 => by
    cases t1 <;> first | exact False.elim q1 | skip
    case ref a =>
      obtain ⟨ds, e, q⟩ := q1
      obtain ⟨_, ea, us, rfl, ha⟩ := R1 a _ e
      exact ⟨a, rfl, ⟨us, SqL.of ea⟩, i1, ds, _, M1, R1, wk_L, q⟩
    case rol a xs ds hs ha => exact ⟨a, rfl, ⟨xs, hs.sq⟩, i1, ds, _, M1, R1, wk_R hs ha, q1⟩
theorem i_tup (h : ES X iter σ M fun d M1 => match d with
    | .tup ds => R ds (fun _ => True) M1
    | _ => False) : IS X tg iter σ M R :=
  IS.of (pi_tup pe_sem) fun σv H S RM => h.go (H0 := H) S RM fun v H1 d M1 i1 R1 t1 q1 => by
    cases t1 <;> first | exact False.elim q1 | skip
    case tup a xs ds hs ha => exact ⟨a, rfl, ⟨xs, hs⟩, i1, ds, _, M1, R1, wk_T hs ha, q1⟩
def rgD (lo : Int) (n : Nat) : List D := (List.range n).map fun i => D.int (lo + (i : Nat))
theorem i_rng1 (hm : X.mg "range" = none) (h : ES X a σ M fun d M1 => match d with
    | .int j => -(2 ^ 62) ≤ j ∧ j < 2 ^ 62 ∧ R (rgD 0 j.toNat) (fun _ => True) M1
    | _ => False) (hg : Gl X "range" := by rfl) (hs : starEach [a] X.env = [(false, eval a X.env)] := by rfl) : IS X tg (.Call (.Name "range" p) [a] [] pos) σ M R :=
  IS.of (pi_range1 hg hm pa_sem hs) fun σv H S RM => (a_cons (QA := fun ds M1 => match ds with | [.int j] => -(2 ^ 62) ≤ j ∧ j < 2 ^ 62 ∧ R (rgD 0 j.toNat) (fun _ => True) M1 | _ => False) (h.imp fun d M1 q => by
      cases d <;> first | exact False.elim q | exact a_nil q) hs).go S RM fun vs H1 ds M1 i1 R1 t1 q1 => by
    match ds, t1, q1 with
    | [.int j], t1, q1 =>
      obtain ⟨v, rfl, r⟩ := t1.one
      cases r
      exact ⟨j, rfl, q1.1, q1.2.1, i1, _, _, M1, R1, wk_N, q1.2.2⟩
theorem i_rng2 (hm : X.mg "range" = none) (h : AS X [a, b] σ M fun ds M1 => match ds with
    | [.int i, .int j] => (-(2 ^ 62) ≤ i ∧ i < 2 ^ 62 ∧ -(2 ^ 62) ≤ j ∧ j < 2 ^ 62) ∧ R (rgD i (j - i).toNat) (fun _ => True) M1
    | _ => False) (hg : Gl X "range" := by rfl) (hs : starEach [a, b] X.env = [(false, eval a X.env), (false, eval b X.env)] := by rfl) (hs2 : starEach [b] X.env = [(false, eval b X.env)] := by rfl) : IS X tg (.Call (.Name "range" p) [a, b] [] pos) σ M R :=
  IS.of (pi_range2 hg hm pa_sem hs hs2) fun σv H S RM => h.go S RM fun vs H1 ds M1 i1 R1 t1 q1 => by
    match ds, t1, q1 with
    | [.int i, .int j], t1, q1 =>
      obtain ⟨v, u, rfl, r, r2⟩ := t1.two
      cases r
      cases r2
      exact ⟨i, j, rfl, q1.1, i1, _, _, M1, R1, wk_N, q1.2⟩
end
end DL
set_option maxHeartbeats 1000000
namespace DL
open PySem L2 PySem.Spec PyProof.Rows
/-! ### comprehensions -/
theorem Slots.wipe1 {K : PySem.W.Frag} {H : Hp} {σv : L2.St} {σ : Sd} (s : Slots K H σv σ) (i : Nat) : Slots K H (σv.set i none) (σ.set i none) := by
  refine ⟨by rw [List.length_set, List.length_set, s.len], fun j e h => ?_⟩
  by_cases hj : j = i
  · subst hj
    by_cases hl : j < σ.length
    · rw [List.getElem?_set_self hl] at h
      cases h
    · rw [List.getElem?_eq_none (by rw [List.length_set]; omega)] at h
      cases h
  · rw [List.getElem?_set_ne (Ne.symm hj)] at h
    obtain ⟨v', e', r'⟩ := s.at_ j e h
    exact ⟨v', by rw [List.getElem?_set_ne (Ne.symm hj)]; exact e', r'⟩
section
variable {X : Cx} {elt iter : Expr} {ifs : List Expr} {scope : Scope} {σ : Sd} {M : Mp} {Q : QD} {pos p : Pos} {x : Str}
/-- a block's readings, whatever the block -/
def tEB (X : Cx) (scope : Scope) (e : Expr) : TE := fun σ H Q => ∀ (s : Shared) (H0 : Hp) (C : Addr) (cl : List (Str × Addr)) (fp : List Addr), tE (X.blk s H0 scope (compEnvC scope cl C X.env) fp) e σ H Q
def tTB (X : Cx) (scope : Scope) (e : Expr) : TT := fun σ H Q => ∀ (s : Shared) (H0 : Hp) (C : Addr) (cl : List (Str × Addr)) (fp : List Addr), tT (X.blk s H0 scope (compEnvC scope cl C X.env) fp) e σ H Q
/-- [elt for x in iter]: x in slot j -/
theorem lc_read (j : Nat)
    (h : IS X (.Name x p) iter σ M fun its G M1 => ∀ q, M1 q = none → ∃ Pv : Nat → Mp → Prop, (∀ M', M' q = some (.lst []) → Mle M1 M' → Pv 0 M') ∧ (∀ i M', i ≤ its.length → Pv i M' → G M') ∧
      (∀ i d M', its[i]? = some d → Pv i M' → ∀ (s : Shared) (H0 : Hp) (C : Addr) (cl : List (Str × Addr)) (fp : List Addr),
        ES (X.blk s H0 scope (compEnvC scope cl C X.env) fp) elt (σ.set j (some d)) M' fun y M2 => ∃ acc, M2 q = some (.lst acc) ∧ acc.length < sizeLine ∧ SetM M2 q (.lst (acc ++ [y])) (Pv (i + 1))) ∧
      ∀ M', Pv its.length M' → Q (.ref q) M')
    : ∀ σv H, Slots X.K H σv σ → RelM X.K M H → ∀ Q', To X.K H Q Q' → tLc (tI X (.Name x p) iter) (gName j) tYes (tEB X scope elt) ([(x, j)].map (·.2)) σv H Q' := fun σv H S R Q' to => (h.run σv H S R).mono fun J H1 ⟨i1, its, G, M1, R1, wk, k⟩ q hq => by
    obtain ⟨Pv, p0, pG, ps, pe⟩ := k q (R1.fresh hq)
    have imq := Imm.new (o := .lst []) hq
    refine ⟨fun i m H' => m = its.length - i ∧ i ≤ its.length ∧ Imm H1 H' ∧ ∃ M', RelM X.K M' H' ∧ Pv i M', ⟨its.length, by simp, Nat.zero_le _, imq, _, R1.new (m := .lst []) hq ⟨_, rfl, .nil⟩, p0 _ updM_same (Mle.new (R1.fresh hq))⟩, ?_⟩
    rintro i m H2 ⟨rfl, hi, i2, M2, R2, p2⟩
    by_cases hlt : i < its.length
    · refine .inr ⟨wk.goes i H2 M2 i2 R2 (pG i M2 hi p2) hlt, fun H' => Imm H1 H' ∧ ∃ M', RelM X.K M' H' ∧ Pv (i + 1) M', fun H' ⟨a, b⟩ => ⟨its.length - (i + 1), by omega, rfl, hlt, a, b⟩, fun xv H3 y => ?_⟩
      have hd : its[i]? = some its[i] := List.getElem?_eq_getElem hlt
      obtain ⟨i3, R3, t3⟩ := wk.yields i H2 M2 xv H3 _ i2 R2 (pG i M2 hi p2) hd y
      show L2.wipe ((L2.wipe σv ([(x, j)].map (·.2))).set j (some xv)) ([(x, j)].map (·.2)) = L2.wipe σv ([(x, j)].map (·.2)) ∧ _
      refine ⟨by simp [L2.wipe, List.set_set], ?_⟩
      change tEB X scope elt _ _ _
      intro s0 H0 C cl fp
      have S3 : Slots X.K H3 ((L2.wipe σv ([(x, j)].map (·.2))).set j (some xv)) (σ.set j (some its[i])) := by
        have e : (L2.wipe σv ([(x, j)].map (·.2))).set j (some xv) = σv.set j (some xv) := by simp [L2.wipe, List.set_set]
        rw [e]
        exact (S.mono ((i1.trans i2).trans i3)).set t3 j
      refine (ps i _ M2 hd p2 s0 H0 C cl fp).go (H0 := H3) S3 R3 fun yv H4 yd M4 i4 R4 t4 ⟨acc, ea, hz, p4⟩ => ?_
      obtain ⟨_, eh, us, rfl, ha⟩ := R4 q _ ea
      have im4 : Imm H4 (upd H4 q (.lst (us ++ [yv]))) := Imm.set eh (fun z => z)
      refine ⟨us, eh, by rw [ha.length]; exact hz, ((i2.trans i3).trans i4).trans im4, _, R4.set (m := .lst (acc ++ [yd])) eh (fun z => z) ⟨_, rfl, (Tps.mono im4 _ _ ha).append (.cons (Tp.mono im4 _ _ t4) .nil)⟩, SetM.at p4⟩
    · have e : i = its.length := by omega
      subst e
      exact .inl ⟨wk.stops H2 M2 i2 R2 (pG _ M2 hi p2), to _ _ _ _ (i1.trans i2) R2 (.ref q) (pe M2 p2)⟩
theorem e_lc (j : Nat) (hN : X.N.Nodup) (ok : BlkOk X.N X.env.scope scope [(x, j)])
    (h : IS X (.Name x p) iter σ M fun its G M1 => ∀ q, M1 q = none → ∃ Pv : Nat → Mp → Prop, (∀ M', M' q = some (.lst []) → Mle M1 M' → Pv 0 M') ∧ (∀ i M', i ≤ its.length → Pv i M' → G M') ∧
      (∀ i d M', its[i]? = some d → Pv i M' → ∀ (s : Shared) (H0 : Hp) (C : Addr) (cl : List (Str × Addr)) (fp : List Addr),
        ES (X.blk s H0 scope (compEnvC scope cl C X.env) fp) elt (σ.set j (some d)) M' fun y M2 => ∃ acc, M2 q = some (.lst acc) ∧ acc.length < sizeLine ∧ SetM M2 q (.lst (acc ++ [y])) (Pv (i + 1))) ∧
      ∀ M', Pv its.length M' → Q (.ref q) M')
    (hj : X.N[j]? = some x := by rfl) (hc : X.calm = true := by rfl) (hl : ∀ cl C, Loc (compEnvC scope cl C X.env).scope x := by exact fun _ _ => Or.inl rfl)
    (hf : ∀ (s : Shared) (H0 : Hp) (C : Addr) (cl : List (Str × Addr)) (fp : List Addr), (X.blk s H0 scope (compEnvC scope cl C X.env) fp).fn x = true ∨ (compEnvC scope cl C X.env).scope.names.lookup x = some .local := by exact fun _ _ _ _ _ => Or.inr rfl)
    (hs : ∀ x, foldedSetIterable iter X.env x = pure x := by intro _; rfl) : ES X (.ListComp elt [⟨.Name x p, iter, [], 0⟩] scope pos) σ M Q :=
  ES.of (pe_lc (own := [(x, j)]) (g := gName j) (tt := tYes) (te := tEB X scope elt) hc hN pi_sem ok (fun s H0 C cl fp => pg_name (i := j) hN hj (hl cl C) (hf s H0 C cl fp)) (fun _ _ _ _ _ => pts_nil)
      (fun s H0 C cl fp => ⟨fun pins s1 σ H Q I hw => hw s H0 C cl fp pins s1 I⟩) hs) fun σv H S R => lc_read j h σv H S R _ To.dq
/-- name = [elt for x in iter] on one line, a plain local -/
theorem s_lc (i j : Nat) {y : Str} {py spos : Pos} {E : DE} (hN : X.N.Nodup) (ok : BlkOk X.N X.env.scope scope [(x, j)])
    (h : IS X (.Name x p) iter σ M fun its G M1 => ∀ q, M1 q = none → ∃ Pv : Nat → Mp → Prop, (∀ M', M' q = some (.lst []) → Mle M1 M' → Pv 0 M') ∧ (∀ i M', i ≤ its.length → Pv i M' → G M') ∧
      (∀ i d M', its[i]? = some d → Pv i M' → ∀ (s : Shared) (H0 : Hp) (C : Addr) (cl : List (Str × Addr)) (fp : List Addr),
        ES (X.blk s H0 scope (compEnvC scope cl C X.env) fp) elt (σ.set j (some d)) M' fun y M2 => ∃ acc, M2 q = some (.lst acc) ∧ acc.length < sizeLine ∧ SetM M2 q (.lst (acc ++ [y])) (Pv (i + 1))) ∧
      ∀ M', Pv its.length M' → E.nx (σ.set i (some (.ref q))) M')
    (hy : X.N[i]? = some y := by rfl) (hyl : X.env.scope.names.lookup y = some .local := by rfl) (hsw : swapsWith (.ListComp elt [⟨.Name x p, iter, [], 0⟩] scope pos) (some (.Name y py)) spos.line X.env = pure true := by exact sw_true rfl rfl rfl (by decide +kernel))
    (hj : X.N[j]? = some x := by rfl) (hc : X.calm = true := by rfl) (hl : ∀ cl C, Loc (compEnvC scope cl C X.env).scope x := by exact fun _ _ => Or.inl rfl)
    (hf : ∀ (s : Shared) (H0 : Hp) (C : Addr) (cl : List (Str × Addr)) (fp : List Addr), (X.blk s H0 scope (compEnvC scope cl C X.env) fp).fn x = true ∨ (compEnvC scope cl C X.env).scope.names.lookup x = some .local := by exact fun _ _ _ _ _ => Or.inr rfl)
    (hs : ∀ x, foldedSetIterable iter X.env x = pure x := by intro _; rfl) : SS X (.Assign [.Name y py] (.ListComp elt [⟨.Name x p, iter, [], 0⟩] scope pos) spos) σ M E :=
  SS.of (ps_setLc (own := [(x, j)]) (g := gName j) (tt := tYes) (te := tEB X scope elt) hc hN hy hyl hsw pi_sem ok (fun s H0 C cl fp => pg_name (i := j) hN hj (hl cl C) (hf s H0 C cl fp)) (fun _ _ _ _ _ => pts_nil)
      (fun s H0 C cl fp => ⟨fun pins s1 σ H Q I hw => hw s H0 C cl fp pins s1 I⟩) hs) fun σv H S R =>
    lc_read (Q := fun d M' => E.nx (σ.set i (some d)) M') j h σv H S R _ fun v H' d M' i' R' t' q' => ⟨i', _, M', (S.mono i').set t' i, R', q'⟩
/-- [elt for x in iter if c] -/
theorem lcIf_read {c : Expr} (j : Nat)
    (h : IS X (.Name x p) iter σ M fun its G M1 => ∀ q, M1 q = none → ∃ Pv : Nat → Mp → Prop, (∀ M', M' q = some (.lst []) → Mle M1 M' → Pv 0 M') ∧ (∀ i M', i ≤ its.length → Pv i M' → G M') ∧
      (∀ i d M', its[i]? = some d → Pv i M' → ∀ (s : Shared) (H0 : Hp) (C : Addr) (cl : List (Str × Addr)) (fp : List Addr),
        TT3 (X.blk s H0 scope (compEnvC scope cl C X.env) fp) c (σ.set j (some d)) M' fun k M1 => BQ k
          (∀ (s : Shared) (H0 : Hp) (C : Addr) (cl : List (Str × Addr)) (fp : List Addr), ES (X.blk s H0 scope (compEnvC scope cl C X.env) fp) elt (σ.set j (some d)) M1 fun y M2 => ∃ acc, M2 q = some (.lst acc) ∧ acc.length < sizeLine ∧ SetM M2 q (.lst (acc ++ [y])) (Pv (i + 1)))
          (Pv (i + 1) M1)) ∧
      ∀ M', Pv its.length M' → Q (.ref q) M')
    : ∀ σv H, Slots X.K H σv σ → RelM X.K M H → ∀ Q', To X.K H Q Q' → tLc (tI X (.Name x p) iter) (gName j) (tTB X scope c) (tEB X scope elt) ([(x, j)].map (·.2)) σv H Q' := fun σv H S R Q' to => (h.run σv H S R).mono fun J H1 ⟨i1, its, G, M1, R1, wk, k⟩ q hq => by
    obtain ⟨Pv, p0, pG, ps, pe⟩ := k q (R1.fresh hq)
    have imq := Imm.new (o := .lst []) hq
    refine ⟨fun i m H' => m = its.length - i ∧ i ≤ its.length ∧ Imm H1 H' ∧ ∃ M', RelM X.K M' H' ∧ Pv i M', ⟨its.length, by simp, Nat.zero_le _, imq, _, R1.new (m := .lst []) hq ⟨_, rfl, .nil⟩, p0 _ updM_same (Mle.new (R1.fresh hq))⟩, ?_⟩
    rintro i m H2 ⟨rfl, hi, i2, M2, R2, p2⟩
    by_cases hlt : i < its.length
    · refine .inr ⟨wk.goes i H2 M2 i2 R2 (pG i M2 hi p2) hlt, fun H' => Imm H1 H' ∧ ∃ M', RelM X.K M' H' ∧ Pv (i + 1) M', fun H' ⟨a, b⟩ => ⟨its.length - (i + 1), by omega, rfl, hlt, a, b⟩, fun xv H3 y => ?_⟩
      have hd : its[i]? = some its[i] := List.getElem?_eq_getElem hlt
      obtain ⟨i3, R3, t3⟩ := wk.yields i H2 M2 xv H3 _ i2 R2 (pG i M2 hi p2) hd y
      show L2.wipe ((L2.wipe σv ([(x, j)].map (·.2))).set j (some xv)) ([(x, j)].map (·.2)) = L2.wipe σv ([(x, j)].map (·.2)) ∧ _
      refine ⟨by simp [L2.wipe, List.set_set], ?_⟩
      intro s0 H0 C cl fp
      have S3 : Slots X.K H3 ((L2.wipe σv ([(x, j)].map (·.2))).set j (some xv)) (σ.set j (some its[i])) := by
        have e : (L2.wipe σv ([(x, j)].map (·.2))).set j (some xv) = σv.set j (some xv) := by simp [L2.wipe, List.set_set]
        rw [e]
        exact (S.mono ((i1.trans i2).trans i3)).set t3 j
      refine (ps i _ M2 hd p2 s0 H0 C cl fp).go S3 R3 fun b H5 M5 i5 R5 q5 => ?_
      cases b with
      | true =>
        rw [if_pos rfl]
        intro s0 H0 C cl fp
        refine (q5.1 rfl s0 H0 C cl fp).go (H0 := H5) (S3.mono i5) R5 fun yv H4 yd M4 i4 R4 t4 ⟨acc, ea, hz, p4⟩ => ?_
        obtain ⟨_, eh, us, rfl, ha⟩ := R4 q _ ea
        have im4 : Imm H4 (upd H4 q (.lst (us ++ [yv]))) := Imm.set eh (fun z => z)
        refine ⟨us, eh, by rw [ha.length]; exact hz, (((i2.trans i3).trans i5).trans i4).trans im4, _, R4.set (m := .lst (acc ++ [yd])) eh (fun z => z) ⟨_, rfl, (Tps.mono im4 _ _ ha).append (.cons (Tp.mono im4 _ _ t4) .nil)⟩, SetM.at p4⟩
      | false =>
        rw [if_neg Bool.false_ne_true]
        exact ⟨(i2.trans i3).trans i5, M5, R5, q5.2 rfl⟩
    · have e : i = its.length := by omega
      subst e
      exact .inl ⟨wk.stops H2 M2 i2 R2 (pG _ M2 hi p2), to _ _ _ _ (i1.trans i2) R2 (.ref q) (pe M2 p2)⟩
theorem e_lcIf {c : Expr} (j : Nat) (hN : X.N.Nodup) (ok : BlkOk X.N X.env.scope scope [(x, j)])
    (h : IS X (.Name x p) iter σ M fun its G M1 => ∀ q, M1 q = none → ∃ Pv : Nat → Mp → Prop, (∀ M', M' q = some (.lst []) → Mle M1 M' → Pv 0 M') ∧ (∀ i M', i ≤ its.length → Pv i M' → G M') ∧
      (∀ i d M', its[i]? = some d → Pv i M' → ∀ (s : Shared) (H0 : Hp) (C : Addr) (cl : List (Str × Addr)) (fp : List Addr),
        TT3 (X.blk s H0 scope (compEnvC scope cl C X.env) fp) c (σ.set j (some d)) M' fun k M1 => BQ k
          (∀ (s : Shared) (H0 : Hp) (C : Addr) (cl : List (Str × Addr)) (fp : List Addr), ES (X.blk s H0 scope (compEnvC scope cl C X.env) fp) elt (σ.set j (some d)) M1 fun y M2 => ∃ acc, M2 q = some (.lst acc) ∧ acc.length < sizeLine ∧ SetM M2 q (.lst (acc ++ [y])) (Pv (i + 1)))
          (Pv (i + 1) M1)) ∧
      ∀ M', Pv its.length M' → Q (.ref q) M')
    (hj : X.N[j]? = some x := by rfl) (hc : X.calm = true := by rfl) (hl : ∀ cl C, Loc (compEnvC scope cl C X.env).scope x := by exact fun _ _ => Or.inl rfl)
    (hf : ∀ (s : Shared) (H0 : Hp) (C : Addr) (cl : List (Str × Addr)) (fp : List Addr), (X.blk s H0 scope (compEnvC scope cl C X.env) fp).fn x = true ∨ (compEnvC scope cl C X.env).scope.names.lookup x = some .local := by exact fun _ _ _ _ _ => Or.inr rfl)
    (hs : ∀ x, foldedSetIterable iter X.env x = pure x := by intro _; rfl) : ES X (.ListComp elt [⟨.Name x p, iter, [c], 0⟩] scope pos) σ M Q :=
  ES.of (pe_lc (own := [(x, j)]) (g := gName j) (tt := tTB X scope c) (te := tEB X scope elt) hc hN pi_sem ok (fun s H0 C cl fp => pg_name (i := j) hN hj (hl cl C) (hf s H0 C cl fp))
      (fun s H0 C cl fp => pts_one ⟨fun pins s1 σ H Q I hw => hw s H0 C cl fp pins s1 I⟩)
      (fun s H0 C cl fp => ⟨fun pins s1 σ H Q I hw => hw s H0 C cl fp pins s1 I⟩) hs) fun σv H S R => lcIf_read j h σv H S R _ To.dq
theorem s_lcIf {c : Expr} (i j : Nat) {y : Str} {py spos : Pos} {E : DE} (hN : X.N.Nodup) (ok : BlkOk X.N X.env.scope scope [(x, j)])
    (h : IS X (.Name x p) iter σ M fun its G M1 => ∀ q, M1 q = none → ∃ Pv : Nat → Mp → Prop, (∀ M', M' q = some (.lst []) → Mle M1 M' → Pv 0 M') ∧ (∀ i M', i ≤ its.length → Pv i M' → G M') ∧
      (∀ i d M', its[i]? = some d → Pv i M' → ∀ (s : Shared) (H0 : Hp) (C : Addr) (cl : List (Str × Addr)) (fp : List Addr),
        TT3 (X.blk s H0 scope (compEnvC scope cl C X.env) fp) c (σ.set j (some d)) M' fun k M1 => BQ k
          (∀ (s : Shared) (H0 : Hp) (C : Addr) (cl : List (Str × Addr)) (fp : List Addr), ES (X.blk s H0 scope (compEnvC scope cl C X.env) fp) elt (σ.set j (some d)) M1 fun y M2 => ∃ acc, M2 q = some (.lst acc) ∧ acc.length < sizeLine ∧ SetM M2 q (.lst (acc ++ [y])) (Pv (i + 1)))
          (Pv (i + 1) M1)) ∧
      ∀ M', Pv its.length M' → E.nx (σ.set i (some (.ref q))) M')
    (hy : X.N[i]? = some y := by rfl) (hyl : X.env.scope.names.lookup y = some .local := by rfl) (hsw : swapsWith (.ListComp elt [⟨.Name x p, iter, [c], 0⟩] scope pos) (some (.Name y py)) spos.line X.env = pure true := by exact sw_true rfl rfl rfl (by decide +kernel))
    (hj : X.N[j]? = some x := by rfl) (hc : X.calm = true := by rfl) (hl : ∀ cl C, Loc (compEnvC scope cl C X.env).scope x := by exact fun _ _ => Or.inl rfl)
    (hf : ∀ (s : Shared) (H0 : Hp) (C : Addr) (cl : List (Str × Addr)) (fp : List Addr), (X.blk s H0 scope (compEnvC scope cl C X.env) fp).fn x = true ∨ (compEnvC scope cl C X.env).scope.names.lookup x = some .local := by exact fun _ _ _ _ _ => Or.inr rfl)
    (hs : ∀ x, foldedSetIterable iter X.env x = pure x := by intro _; rfl) : SS X (.Assign [.Name y py] (.ListComp elt [⟨.Name x p, iter, [c], 0⟩] scope pos) spos) σ M E :=
  SS.of (ps_setLc (own := [(x, j)]) (g := gName j) (tt := tTB X scope c) (te := tEB X scope elt) hc hN hy hyl hsw pi_sem ok (fun s H0 C cl fp => pg_name (i := j) hN hj (hl cl C) (hf s H0 C cl fp))
      (fun s H0 C cl fp => pts_one ⟨fun pins s1 σ H Q I hw => hw s H0 C cl fp pins s1 I⟩)
      (fun s H0 C cl fp => ⟨fun pins s1 σ H Q I hw => hw s H0 C cl fp pins s1 I⟩) hs) fun σv H S R =>
    lcIf_read (Q := fun d M' => E.nx (σ.set i (some d)) M') j h σv H S R _ fun v H' d M' i' R' t' q' => ⟨i', _, M', (S.mono i').set t' i, R', q'⟩
end
/-! ### a def's body -/
/-- less may be told at the end -/
def Wk (Q : QD) : QD := fun d M' => ∃ M, Mle M M' ∧ Q d M
theorem Wk.here {Q : QD} {d : D} {M : Mp} (q : Q d M) : Wk Q d M := ⟨M, Mle.refl M, q⟩
theorem fn3 {P : Program} {w : World} {K : PySem.W.Frag} {mg : Str → Option Value} {base : Heap} {N ps : List Str} {x qual : Str} {st : Stmt} {f : Addr} {fd : FuncData} {k : Nat} {sp3 : Sp3}
    (F : Fun K x qual st f fd) (S : FnScope N ps (defScope st)) (len : ∀ ds M Q, sp3 ds M Q → ds.length = ps.length)
    (body : ∀ (cdv : Value) (A : Around) (outer : List Env) (s : Shared) (H : Hp) (E : XK), Room k (A.deeper (envOfC qual (defScope st) s.heap.objs.size f cdv)) → ∀ ds M Q, sp3 ds M Q →
      SSs (cxOf CX0 P w K mg base N qual (defScope st) f cdv A outer s H E).nox (defBody st) (startD N ds) M { nx := fun _ M' => Wk Q .non M', rt := Wk Q }) : FnOk P w K mg base CX0 (k + 1) f fd ps (spD K sp3) := by
  refine F.ok S (fun vs H Q E ⟨ds, M, Q3, t, r, q, to⟩ => ?_) (fun cdv A outer s H vs Q E hr ⟨ds, M, Q3, t, r, q, to⟩ => ?_)
  · rw [t.length]
    exact len ds M Q3 q
  · refine ⟨_, pss_sem, tSs.mono ((body cdv A outer s H E hr ds M Q3 q).run (start N vs) H (Slots.start t) r) ⟨fun σ' H' h => ?_, fun v H' h => ?_, fun _ _ h => ?_, fun _ _ h => ?_⟩⟩
    · obtain ⟨i, σ'', M', S', R', M1, l, q'⟩ := h
      exact to _ _ _ _ i (R'.le l) .non q'
    · obtain ⟨i, d, M', R', t', M1, l, q'⟩ := h
      exact to _ _ _ _ i (R'.le l) t' q'
    · obtain ⟨i, σ'', M', S', R', z⟩ := h
      exact z
    · obtain ⟨i, σ'', M', S', R', z⟩ := h
      exact z
theorem callee {P : Program} {w : World} {K : PySem.W.Frag} {mg : Str → Option Value} {base : Heap} {N ps : List Str} {x qual : Str} {st : Stmt} {f : Addr} {fd : FuncData} {k : Nat} {sp3 : Sp3}
    (F : Fun K x qual st f fd) (S : FnScope N ps (defScope st)) (hm : mg x = some (.ref f)) (hb : Binds K fd ps []) (len : ∀ ds M Q, sp3 ds M Q → ds.length = ps.length)
    (body : ∀ (cdv : Value) (A : Around) (outer : List Env) (s : Shared) (H : Hp) (E : XK), Room k (A.deeper (envOfC qual (defScope st) s.heap.objs.size f cdv)) → ∀ ds M Q, sp3 ds M Q →
      SSs (cxOf CX0 P w K mg base N qual (defScope st) f cdv A outer s H E).nox (defBody st) (startD N ds) M { nx := fun _ M' => Wk Q .non M', rt := Wk Q }) : Callee P w K mg base x (k + 1) ps sp3 := ⟨f, fd, fn3 F S len body, hm, F.kp, hb⟩
/-- the joining of ways behind a statement -/
theorem ss_cut {X : Cx} {st : Stmt} {sts : List Stmt} {σ : Sd} {M : Mp} {E : DE} (P : Sd → Mp → Prop) (h : SS X st σ M { E with nx := P }) (k : ∀ σ1 M1, P σ1 M1 → SSs X sts σ1 M1 E) : SSs X (st :: sts) σ M E :=
  SSs.of (pss_cons ps_sem pss_sem) fun σv H S R => (h.run σv H S R).mono
    ⟨fun σ1 H1 ⟨i1, σ', M1, S1, R1, q1⟩ => ((k σ' M1 q1).run σ1 H1 S1 R1).mono (DE.from i1), fun _ _ q => q, fun _ _ q => q, fun _ _ q => q⟩
/-- if t: .. (no else), then the rest -/
theorem ss_if {X : Cx} {c : Expr} {body sts : List Stmt} {pos : Pos} {σ : Sd} {M : Mp} {E : DE} (h : TT3 X c σ M fun k M1 => BQ k (SSs X body σ M1 { E with nx := fun σ1 M2 => SSs X sts σ1 M2 E }) (SSs X sts σ M1 E)) : SSs X (.If c body [] pos :: sts) σ M E :=
  ss_cons (s_if (⟨fun σv H S R => (h.run σv H S R).mono fun k H1 ⟨i, M1, R1, q1, q2⟩ => ⟨i, M1, R1, q1, fun e => ss_nil (q2 e)⟩⟩))
/-- a test that does not hold: the rest -/
theorem ss_no {X : Cx} {c : Expr} {body sts : List Stmt} {pos : Pos} {σ : Sd} {M : Mp} {E : DE} (h : TT3 X c σ M fun k M1 => k = false ∧ M1 = M) (r : SSs X sts σ M E) : SSs X (.If c body [] pos :: sts) σ M E :=
  ss_if ⟨fun σv H S R => (h.run σv H S R).mono fun k H1 ⟨i, M1, R1, q1, q2⟩ => ⟨i, M1, R1, by subst q1; subst q2; exact BQ.f r⟩⟩
theorem ES.det {X : Cx} {e : Expr} {σ : Sd} {M : Mp} {Q : QD} {d : D} (h : ES X e σ M fun d' M' => d' = d ∧ M' = M) (q : Q d M) : ES X e σ M Q := h.imp fun d' M' ⟨e1, e2⟩ => by rw [e1, e2]; exact q
/-- two plain answers -/
theorem v_orP {X : Cx} {a b : Expr} {rest : List Expr} {σ : Sd} {M : Mp} {Q : QD} {pos : Pos} {x y : Bool} (h : ES X a σ M fun d M1 => d = .bl x ∧ M1 = M) (h2 : ES X (.BoolOp .Or (b :: rest) pos) σ M fun d M1 => d = .bl y ∧ M1 = M) (q : Q (.bl (x || y)) M) : ES X (.BoolOp .Or (a :: b :: rest) pos) σ M Q :=
  v_or (h.imp fun d M1 ⟨e1, e2⟩ => by
    subst e1; subst e2
    refine ⟨fun hx => ?_, fun hx => ?_⟩
    · subst hx; exact q
    · subst hx; exact h2.det q)
theorem v_andP {X : Cx} {a b : Expr} {rest : List Expr} {σ : Sd} {M : Mp} {Q : QD} {pos : Pos} {x y : Bool} (h : ES X a σ M fun d M1 => d = .bl x ∧ M1 = M) (h2 : x = true → ES X (.BoolOp .And (b :: rest) pos) σ M fun d M1 => d = .bl y ∧ M1 = M) (q : Q (.bl (x && y)) M) : ES X (.BoolOp .And (a :: b :: rest) pos) σ M Q :=
  v_and (h.imp fun d M1 ⟨e1, e2⟩ => by
    subst e1; subst e2
    refine ⟨fun hx => ?_, fun hx => ?_⟩
    · subst hx; exact (h2 rfl).det q
    · subst hx; exact q)
/-! ### methods of lists -/
abbrev RM3 := D → List D → Mp → QD → Prop
def RDM (K : PySem.W.Frag) (r : V → List V → Hp → VK → Prop) (R : RM3) : Prop := ∀ H0 H M vx vs x ds Q Q', Imm H0 H → RelM K M H → Tp K H vx x → Tps K H vs ds → To K H0 Q Q' → R x ds M Q → r vx vs H Q'
def isLst (x : D) (M : Mp) : Prop := match x with
  | .ref a => ∃ xs, M a = some (.lst xs)
  | _ => False
def RApp : RM3 := fun x ds M Q => match x, ds with
  | .ref a, [d] => ∃ xs, M a = some (.lst xs) ∧ xs.length < sizeLine ∧ SetM M a (.lst (xs ++ [d])) (Q .non)
  | _, _ => False
def RPop : RM3 := fun x ds M Q => match x, ds with
  | .ref a, [] => ∃ xs d, M a = some (.lst xs) ∧ xs[xs.length - 1]? = some d ∧ SetM M a (.lst xs.dropLast) (Q d)
  | _, _ => False
def RExt : RM3 := fun x ds M Q => match x, ds with
  | .ref a, [.ref b] => ∃ xs ys, M a = some (.lst xs) ∧ M b = some (.lst ys) ∧ xs.length + ys.length ≤ sizeLine ∧ SetM M a (.lst (xs ++ ys)) (Q .non)
  | _, _ => False
section
variable {K : PySem.W.Frag}
theorem rd_app : RDM K rAppend RApp := by
  intro H0 H M vx vs x ds Q Q' i R tx t k q
  match x, ds, tx, t, q with
  | .ref a, [d], tx, t, q =>
    obtain ⟨xs, e, hz, q⟩ := q
    obtain ⟨_, ea, us, rfl, ha⟩ := R a _ e
    obtain ⟨v, rfl, r⟩ := t.one
    cases tx
    have im : Imm H (upd H a (.lst (us ++ [v]))) := Imm.set ea (fun z => z)
    exact ⟨a, us, v, rfl, rfl, ea, by rw [ha.length]; exact hz, k _ _ _ _ (i.trans im) (R.set (m := .lst (xs ++ [d])) ea (fun z => z) ⟨_, rfl, (Tps.mono im _ _ ha).append (.cons (Tp.mono im _ _ r) .nil)⟩) .non (SetM.at q)⟩
theorem rd_pop : RDM K rPop RPop := by
  intro H0 H M vx vs x ds Q Q' i R tx t k q
  match x, ds, tx, t, q with
  | .ref a, [], tx, t, q =>
    obtain ⟨xs, d, e, hd, q⟩ := q
    obtain ⟨_, ea, us, rfl, ha⟩ := R a _ e
    cases t
    cases tx
    obtain ⟨v, ev, tv⟩ := ha.get hd
    have im : Imm H (upd H a (.lst us.dropLast)) := Imm.set ea (fun z => z)
    exact ⟨a, us, v, rfl, rfl, ea, by rw [ha.length]; exact ev, k _ _ _ _ (i.trans im) (R.set (m := .lst xs.dropLast) ea (fun z => z) ⟨_, rfl, Tps.mono im _ _ ha.dropLast⟩) (Tp.mono im _ _ tv) (SetM.at q)⟩
theorem rd_ext : RDM K rExtend RExt := by
  intro H0 H M vx vs x ds Q Q' i R tx t k q
  match x, ds, tx, t, q with
  | .ref a, [.ref b], tx, t, q =>
    obtain ⟨xs, ys, e, e2, hz, q⟩ := q
    obtain ⟨_, ea, us, rfl, ha⟩ := R a _ e
    obtain ⟨_, eb, ws, rfl, hb⟩ := R b _ e2
    obtain ⟨v, rfl, r⟩ := t.one
    cases r
    cases tx
    have im : Imm H (upd H a (.lst (us ++ ws))) := Imm.set ea (fun z => z)
    exact ⟨a, b, us, ws, rfl, rfl, ea, eb, by rw [ha.length, hb.length]; exact hz, k _ _ _ _ (i.trans im) (R.set (m := .lst (xs ++ ys)) ea (fun z => z) ⟨_, rfl, (Tps.mono im _ _ ha).append (Tps.mono im _ _ hb)⟩) .non (SetM.at q)⟩
end
section
variable {X : Cx} {o e : Expr} {es : List Expr} {σ : Sd} {M : Mp} {Q : QD} {apos cpos : Pos} {id : String} {r : V → List V → Hp → VK → Prop} {R : RM3} {name : Str}
theorem ty_lst {K : PySem.W.Frag} {H : Hp} {v : V} {x : D} {M : Mp} (RM : RelM K M H) (t : Tp K H v x) (h : isLst x M) : tyV K "list" v H := by
  cases t <;> first | exact False.elim h | skip
  case ref a =>
    obtain ⟨xs, e⟩ := h
    obtain ⟨_, ea, us, rfl, ha⟩ := RM a _ e
    exact .inl ⟨rfl, us, SqL.of ea⟩
theorem e_lm (slot : Slot "list" name id) (hty : typeOf (.builtin id) = pure (.type "method_descriptor")) (hm : MtR X id r) (hR : RDM X.K r R) (h : ES X o σ M fun x M1 => isLst x M1 ∧ AS X (e :: es) σ M1 fun ds M2 => R x ds M2 Q)
    (hbase : attributeBase o name X.env (eval o X.env) = eval o X.env := by rfl)
    (hfew : ((backTo cpos (starEach (e :: es) X.env)).all (fun x => !x.1) && (backToKw cpos (keywordEach [] X.env)).all (fun x => x.1.isSome)
      && decide ((e :: es).length + ([] : List Keyword).length + (if ([] : List Keyword).isEmpty then 0 else 1) < 30)) = true := by rfl)
    (hline : (apos.endLine == cpos.line) = true := by rfl) (hs : starEach (e :: es) X.env = (false, eval e X.env) :: starEach es X.env := by rfl) (hplain : (backTo cpos (starEach es X.env)).any (·.1) = false := by rfl) :
    ES X (.Call (.Attribute o name apos) (e :: es) [] cpos) σ M Q :=
  ES.of (pe_bm PySem.F.plainAttrs_list slot hty hm pe_sem pa_sem hbase hfew hline hs hplain) fun σv H S RM => h.go (H0 := H) S RM fun v H1 x M1 i1 R1 t1 ⟨hx, q1⟩ =>
    ⟨ty_lst R1 t1 hx, q1.go (S.mono i1) R1 fun vs H2 ds M2 i2 R2 t2 q2 => hR H H2 M2 v vs x ds Q _ (i1.trans i2) R2 (Tp.mono i2 _ _ t1) t2 To.dq q2⟩
theorem e_lm0 (slot : Slot "list" name id) (hty : typeOf (.builtin id) = pure (.type "method_descriptor")) (hm : MtR X id r) (hR : RDM X.K r R) (h : ES X o σ M fun x M1 => isLst x M1 ∧ R x [] M1 Q)
    (hbase : attributeBase o name X.env (eval o X.env) = eval o X.env := by rfl) (hline : (apos.endLine == cpos.line) = true := by rfl) : ES X (.Call (.Attribute o name apos) [] [] cpos) σ M Q :=
  ES.of (pe_bm0 PySem.F.plainAttrs_list slot hty hm pe_sem hbase hline) fun σv H S RM => h.go (H0 := H) S RM fun v H1 x M1 i1 R1 t1 ⟨hx, q1⟩ =>
    ⟨ty_lst R1 t1 hx, hR H H1 M1 v [] x [] Q _ i1 R1 t1 .nil To.dq q1⟩
end
end DL
set_option maxHeartbeats 1000000
namespace DL
open PySem L2
/-! ### equality, reckoned -/
theorem eqv_int (i j : Int) : D.eqv (.int i) (.int j) = decide (i = j) := by simp [D.eqv, D.py, PyData.eqv, Bool.beq_eq_decide_eq]
theorem eqv_str (i j : Str) : D.eqv (.str i) (.str j) = decide (i = j) := by simp [D.eqv, D.py, PyData.eqv, Bool.beq_eq_decide_eq]
theorem eqv_bl (i j : Bool) : D.eqv (.bl i) (.bl j) = decide (i = j) := by simp [D.eqv, D.py, PyData.eqv, Bool.beq_eq_decide_eq]
theorem eqv_is (i : Int) (x : Str) : D.eqv (.int i) (.str x) = false := by simp [D.eqv, D.py, PyData.eqv]
theorem eqv_si (i : Int) (x : Str) : D.eqv (.str x) (.int i) = false := by simp [D.eqv, D.py, PyData.eqv]
theorem eqv_nn : D.eqv .non .non = true := by simp [D.eqv, D.py, PyData.eqv]
theorem eqv_tup (a b : List D) : D.eqv (.tup a) (.tup b) = PyData.eqvAll (D.pys a) (D.pys b) := by simp [D.eqv, D.py, PyData.eqv]
theorem eqv_t0 : D.eqv (.tup []) (.tup []) = true := by simp [eqv_tup, D.pys, PyData.eqvAll]
theorem eqv_tc (a : D) (as : List D) (b : D) (bs : List D) : D.eqv (.tup (a :: as)) (.tup (b :: bs)) = (D.eqv a b && D.eqv (.tup as) (.tup bs)) := by
  rw [eqv_tup, eqv_tup]
  simp [D.pys, PyData.eqvAll, D.eqv]
theorem eqv_tc0 (a : D) (as : List D) : D.eqv (.tup (a :: as)) (.tup []) = false := by simp [eqv_tup, D.pys, PyData.eqvAll]
theorem eqv_t0c (a : D) (as : List D) : D.eqv (.tup []) (.tup (a :: as)) = false := by simp [eqv_tup, D.pys, PyData.eqvAll]
theorem eqv_ts (a : List D) (x : Str) : D.eqv (.tup a) (.str x) = false := by simp [D.eqv, D.py, PyData.eqv]
theorem eqv_st (a : List D) (x : Str) : D.eqv (.str x) (.tup a) = false := by simp [D.eqv, D.py, PyData.eqv]
theorem eqv_nt (a : List D) : D.eqv .non (.tup a) = false := by simp [D.eqv, D.py, PyData.eqv]
theorem eqv_tn (a : List D) : D.eqv (.tup a) .non = false := by simp [D.eqv, D.py, PyData.eqv]
/-- two rows of things of one sort -/
theorem eqv_map {α : Type} [DecidableEq α] {f : α → D} (h : ∀ a b, D.eqv (f a) (f b) = decide (a = b)) : ∀ as bs : List α, D.eqv (.tup (as.map f)) (.tup (bs.map f)) = decide (as = bs)
  | [], [] => by rw [List.map_nil, eqv_t0]; simp
  | a :: as, [] => by rw [List.map_cons, List.map_nil, eqv_tc0]; simp
  | [], b :: bs => by rw [List.map_cons, List.map_nil, eqv_t0c]; simp
  | a :: as, b :: bs => by
    rw [List.map_cons, List.map_cons, eqv_tc, h, eqv_map h as bs, Bool.eq_iff_iff]
    simp
/-! ### comparable by content -/
def D.shn (n : Nat) (d : D) : Bool := d.pure && d.py.canLay0 && decide (d.py.depth ≤ n)
theorem D.shp_of {d : D} {n : Nat} (h : d.shn n = true) (hn : n ≤ 64) : d.shp = true := by
  unfold D.shn at h
  unfold D.shp SeqAt.shaped
  simp only [Bool.and_eq_true, decide_eq_true_eq] at h ⊢
  exact ⟨h.1.1, h.1.2, by omega⟩
theorem D.shn_mono {d : D} {n m : Nat} (h : d.shn n = true) (hn : n ≤ m) : d.shn m = true := by
  unfold D.shn at h ⊢
  simp only [Bool.and_eq_true, decide_eq_true_eq] at h ⊢
  exact ⟨h.1, by omega⟩
theorem shn_int (n : Nat) (i : Int) : (D.int i).shn n = true := by simp [D.shn, D.pure, D.py, PyData.canLay0, PyData.depth]
theorem shn_bl (n : Nat) (i : Bool) : (D.bl i).shn n = true := by simp [D.shn, D.pure, D.py, PyData.canLay0, PyData.depth]
theorem shn_non (n : Nat) : D.non.shn n = true := by simp [D.shn, D.pure, D.py, PyData.canLay0, PyData.depth]
theorem shn_str {n : Nat} {x : Str} (h : PyData.strOk x = true) : (D.str x).shn n = true := by simp [D.shn, D.pure, D.py, PyData.canLay0, PyData.depth, h]
theorem shn_tup {n : Nat} : ∀ {l : List D}, (∀ d ∈ l, d.shn n = true) → (D.tup l).shn (n + 1) = true := by
  have key : ∀ l : List D, (∀ d ∈ l, d.shn n = true) → D.pures l = true ∧ PyData.canLayAll0 (D.pys l) = true ∧ PyData.depthAll (D.pys l) ≤ n := by
    intro l
    induction l with
    | nil => intro _; simp [D.pures, D.pys, PyData.canLayAll0, PyData.depthAll]
    | cons d r ih =>
      intro h
      obtain ⟨h1, h2, h3⟩ := ih fun e he => h e (List.mem_cons_of_mem _ he)
      have hd := h d List.mem_cons_self
      unfold D.shn at hd
      simp only [Bool.and_eq_true, decide_eq_true_eq] at hd
      simp only [D.pures, D.pys, PyData.canLayAll0, PyData.depthAll, Bool.and_eq_true]
      exact ⟨⟨hd.1.1, h1⟩, ⟨hd.1.2, h2⟩, by omega⟩
  intro l h
  obtain ⟨h1, h2, h3⟩ := key l h
  simp only [D.shn, D.pure, D.py, PyData.canLay0, PyData.depth, Bool.and_eq_true, decide_eq_true_eq]
  exact ⟨⟨h1, h2⟩, by omega⟩
theorem shp_tup {l : List D} {n : Nat} (h : ∀ d ∈ l, d.shn n = true) (hn : n ≤ 63) : (D.tup l).shp = true := D.shp_of (shn_tup h) (by omega)
/-! ### texts -/
/-- a text of at most n signs, each a sign -/
def Sok (n : Nat) (x : Str) : Prop := x.length ≤ n ∧ PyData.strOk x = true
theorem Sok.mono {n m : Nat} {x : Str} (h : Sok n x) (l : n ≤ m) : Sok m x := ⟨Nat.le_trans h.1 l, h.2⟩
theorem str_len_app (x y : Str) : (x ++ y).length = x.length + y.length := by
  show (x.cps ++ y.cps).size = x.cps.size + y.cps.size
  rw [Array.size_append]
theorem strOk_app {x y : Str} (hx : PyData.strOk x = true) (hy : PyData.strOk y = true) : PyData.strOk (x ++ y) = true := by
  unfold PyData.strOk at hx hy ⊢
  show (x.cps ++ y.cps).all _ = true
  rw [Array.all_append, hx, hy]
  rfl
theorem Sok.app {n m : Nat} {x y : Str} (hx : Sok n x) (hy : Sok m y) : Sok (n + m) (x ++ y) := ⟨by rw [str_len_app]; exact Nat.add_le_add hx.1 hy.1, strOk_app hx.2 hy.2⟩
theorem strOk_sign {z : Str} {i : Int} {c : Nat} (hz : PyData.strOk z = true) (h : atI z.cps.toList i = some c) : Sok 1 ⟨#[c]⟩ := by
  refine ⟨Nat.le_refl 1, ?_⟩
  have hm : c ∈ z.cps.toList := by
    unfold atI at h
    cases e : ixN z.cps.toList.length i with
    | none => rw [e] at h; cases h
    | some j =>
      rw [e] at h
      exact List.mem_of_getElem? h
  unfold PyData.strOk at hz ⊢
  rw [Array.all_eq_true'] at hz
  have := hz c (by simpa using hm)
  simpa using this
/-! ### places in a row -/
theorem atI_lt {α : Type} {xs : List α} {i : Int} (h0 : 0 ≤ i) (h : i < xs.length) : ∃ v, atI xs i = some v ∧ v ∈ xs := by
  obtain ⟨j, rfl⟩ : ∃ j : Nat, i = (j : Int) := ⟨i.toNat, by omega⟩
  have hj : j < xs.length := by omega
  exact ⟨xs[j], atI_nat (List.getElem?_eq_getElem hj), List.getElem_mem hj⟩
theorem atI_hd {α : Type} {x : α} {xs : List α} : atI (x :: xs) 0 = some x := atI_nat (j := 0) rfl
theorem atI_hd1 {α : Type} {x y : α} {xs : List α} : atI (x :: y :: xs) 1 = some y := atI_nat (j := 1) rfl
/-- a test: what is known behind it, then the ways -/
theorem t_post {X : Cx} {e : Expr} {σ : Sd} {M : Mp} {Q : Bool → Mp → Prop} (P : Bool → Mp → Prop) (h : TT3 X e σ M P) (k : ∀ b M1, P b M1 → Q b M1) : TT3 X e σ M Q :=
  ⟨fun σv H S R => (h.run σv H S R).mono fun b H1 ⟨i, M1, R1, q⟩ => ⟨i, M1, R1, k b M1 q⟩⟩
theorem atI_mem {α : Type} {xs : List α} {i : Int} {v : α} (h : atI xs i = some v) : v ∈ xs := by
  unfold atI at h
  cases e : ixN xs.length i with
  | none => rw [e] at h; cases h
  | some j =>
    rw [e] at h
    exact List.mem_of_getElem? h
theorem one_ofM {xs : List Str} {n : Int} (h0 : 0 ≤ n) (h1 : n < (xs.length : Int)) : ∃ x, atI (xs.map D.str) n = some (.str x) ∧ x ∈ xs := by
  obtain ⟨j, rfl⟩ : ∃ j : Nat, n = (j : Int) := ⟨n.toNat, by omega⟩
  have hj : j < xs.length := by omega
  exact ⟨xs[j], atI_nat (by rw [List.getElem?_map, List.getElem?_eq_getElem hj]; rfl), List.getElem_mem hj⟩
theorem atI_mapP {α β : Type} {f : α → β} {xs : List α} {i : Int} {v : β} (h : atI (xs.map f) i = some v) : ∃ a, atI xs i = some a ∧ v = f a := by
  unfold atI at h ⊢
  rw [List.length_map] at h
  cases e : ixN xs.length i with
  | none => rw [e] at h; cases h
  | some j =>
    rw [e] at h
    have h' : (xs.map f)[j]? = some v := h
    rw [List.getElem?_map] at h'
    cases q : xs[j]? with
    | none => rw [q] at h'; cases h'
    | some a =>
      rw [q] at h'
      cases h'
      exact ⟨a, q, rfl⟩
theorem atI_map_nat {α β : Type} {f : α → β} {xs : List α} {j : Nat} {a : α} (h : xs[j]? = some a) : atI (xs.map f) (j : Int) = some (f a) := atI_nat (by rw [List.getElem?_map, h]; rfl)
theorem cutD_take {α : Type} {f : α → D} (xs : List α) (k : Nat) : cutD (xs.map f) none (some (k : Int)) = (xs.take k).map f := by
  unfold cutD
  rw [HT.sIx_none, HT.sIx_nat, List.drop_zero, Nat.sub_zero, List.map_take, List.length_map]
  by_cases h : k ≤ xs.length
  · rw [Nat.min_eq_left h]
  · rw [Nat.min_eq_right (by omega), List.take_of_length_le (by rw [List.length_map]; omega), List.take_of_length_le (by rw [List.length_map]; omega)]
theorem cutD_drop {α : Type} {f : α → D} (xs : List α) (k : Nat) : cutD (xs.map f) (some (k : Int)) none = (xs.drop k).map f := by
  unfold cutD
  rw [HT.sIx_none, HT.sIx_nat, List.length_map]
  by_cases h : k ≤ xs.length
  · rw [Nat.min_eq_left h, List.take_of_length_le (by rw [List.length_drop, List.length_map]; omega), List.map_drop]
  · rw [Nat.min_eq_right (by omega), List.drop_eq_nil_of_le (by rw [List.length_map]; omega), List.drop_eq_nil_of_le (by omega), List.take_nil]
    rfl
theorem rgD_length (lo : Int) (n : Nat) : (rgD lo n).length = n := by unfold rgD; rw [List.length_map, List.length_range]
theorem rgD_get {lo : Int} {n i : Nat} {d : D} (h : (rgD lo n)[i]? = some d) : i < n ∧ d = .int (lo + (i : Nat)) := by
  unfold rgD at h
  rw [List.getElem?_map] at h
  by_cases hi : i < n
  · rw [List.getElem?_range hi] at h
    cases h
    exact ⟨hi, rfl⟩
  · rw [List.getElem?_eq_none (by rw [List.length_range]; omega)] at h
    cases h
theorem sz {n : Nat} (h : n ≤ 100000) : n ≤ sizeLine := Nat.le_trans h (by decide)
theorem szlt {n : Nat} (h : n < 100000) : n < sizeLine := Nat.lt_of_lt_of_le h (by decide)
theorem len_of (xs : List D) : (xs.length : Int) = ((xs.length : Nat) : Int) := rfl
theorem law_sp {K : PySem.W.Frag} {H : Hp} {a : Addr} {ns : List Int} {sp3 : Sp3} {n : Nat} (hl : ns.length ≤ n) (hO : Only H) (hS : SqL K H a (ns.map V.int))
    (h : ∀ (M : Mp) (Q : QD), (∀ M', Q (.bl true) M') → sp3 [.rol (ns.map D.int)] M Q) : spD K sp3 [.ref a] H (fun v _ => v = .bl true) fun _ _ _ => False := by
  refine ⟨[.rol (ns.map D.int)], fun _ => none, fun d _ => d = .bl true, .cons (.rol ?_ (Tps.ints ns)) .nil, (fun a m e => by cases e), h (fun _ => none) (fun d _ => d = .bl true) (fun _ => rfl), fun v H' d M' _ _ t q => ?_⟩
  · rcases hS with (h | ⟨o, h⟩) | h
    · rcases hO a with z | ⟨o, xs, z⟩
      · rw [z] at h; cases h
      · rw [z] at h; cases h
    · exact .inl ⟨o, h⟩
    · exact .inr h
  · subst q
    cases t
    rfl
end DL
set_option maxHeartbeats 1000000
namespace DL
open PySem L2 PySem.Spec PyProof.Rows
section
variable {K : PySem.W.Frag}
def RMax : RA3 := fun ds M Q => match ds with
  | [.ref a] => ∃ ns : List Int, M a = some (.lst (ns.map D.int)) ∧ 0 < ns.length ∧ ∀ m, m ∈ ns → (∀ y, y ∈ ns → y ≤ m) → Q (.int m) M
  | _ => False
theorem rd_max : RDA K (rMax K) RMax := by
  intro H0 H M vs ds Q Q' i R t k q
  match ds, t, q with
  | [.ref a], t, q =>
    obtain ⟨v, rfl, r⟩ := t.one
    obtain ⟨ns, e, hl, q⟩ := q
    obtain ⟨_, ea, us, rfl, ha⟩ := R a _ e
    cases r
    obtain rfl := tps_ints ha
    exact ⟨a, ns, rfl, SqL.of ea, hl, fun m hm hy => k _ _ _ _ i R (.int _) (q m hm hy)⟩
end
section
variable {X : Cx} {e a b c : Expr} {es rest : List Expr} {σ : Sd} {M : Mp} {Q : QD} {pos p p2 : Pos}
theorem e_max (hm : X.mg "max" = none) (h : AS X [e] σ M fun ds M1 => RMax ds M1 Q) (hc : X.calm = true := by rfl) (hg : Gl X "max" := by rfl) (he : starEach [e] X.env = (false, eval e X.env) :: starEach [] X.env := by rfl) : ES X (.Call (.Name "max" p) [e] [] pos) σ M Q := e_cb (cr_max hc) rd_max hm (by decide +kernel) h hg (by decide) (by decide) he rfl
end
/-! a module's tuple of texts -/
def ConT (K : PySem.W.Frag) (mg : Str → Option Value) (x : Str) (d : D) : Prop := ∃ a : Addr, mg x = some (.ref a) ∧ ∀ H, Tp K H (.ref a) d
theorem e_con {X : Cx} {σ : Sd} {M : Mp} {Q : QD} {pos : Pos} {x : Str} {d : D} (C : ConT X.K X.mg x d) (q : Q d M) (hg : Gl X x := by rfl) (hdb : (x == ("__debug__" : Str)) = false := by decide) : ES X (.Name x pos) σ M Q := by
  obtain ⟨a, hm, ht⟩ := C
  exact e_glob (v := .ref a) hm rfl ht q hg hdb
theorem conT2 {K : PySem.W.Frag} {mg : Str → Option Value} {x : Str} {a : Addr} {dd : Option Addr} {y1 y2 : Str} {u1 u2 : Nat} {n : Nat} {sl : Array (Option Value)} (hm : mg x = some (.ref a)) (hk : K.lookup a = some ⟨.type "tuple", dd, .seq #[.str y1 u1, .str y2 u2] n, sl⟩) :
    ConT K mg x (.tup [.str y1, .str y2]) :=
  ⟨a, hm, fun H => .tup (.inr ⟨_, _, _, hk, rfl, rfl, by show 2 ≤ sizeLine; decide, .cons (show RelV (.str y1) _ from ⟨_, rfl⟩) (.cons (show RelV (.str y2) _ from ⟨_, rfl⟩) .nil)⟩) (.cons (.str _) (.cons (.str _) .nil))⟩
end DL
set_option maxHeartbeats 1000000
namespace PySem
set_option maxHeartbeats 1000000 in
theorem meets_enumerate_new1B {v : Value} {o : Obj} {H : Heap → Prop} (B : Begins v o H) :
    Meets (Builtin.«enumerate.__new__» ⟨[.type "enumerate", v], []⟩) (fun _ R s => H s.heap ∧
      R (.ok (.ret (.ref (s.heap.push o).objs.size))) { s with heap := (s.heap.push o).push { cls := .type "enumerate", data := .fields #[.none, .bool false, .ref s.heap.objs.size, rawInt 0, .none, .none] } }) :=
  .of_wp fun prog w A R s h => by
    obtain ⟨hp, g, d, tk, os⟩ := s; obtain ⟨h1, h⟩ := h
    have hsub := sub_enumerate
    have q1 : ∀ {A' : Around} {E : Value → Shared → Prop} {Q : Value → Shared → Prop}, Q (.ref hp.objs.size) ⟨hp.push o, g, d, tk, os⟩ → wpAny (model prog w) A' (pyIter v) Q E ⟨hp, g, d, tk, os⟩ :=
      fun q => B.iter prog w _ _ ⟨hp, g, d, tk, os⟩ _ h1 q
    wp_walk using q1
    refine wpAny_stack_any fun st => wpAny_pure ?_
    split
    · rename_i c _ _ _ _ _
      cases (c == Value.type "enumerate")
      · wp_walk using q1
        exact ⟨_, rfl, h⟩
      · wp_walk using q1
        exact ⟨_, rfl, h⟩
    · wp_walk using q1
      exact ⟨_, rfl, h⟩
theorem enum_begins1 {prog : Program} {w : World} {A : Around} {E : Value → Shared → Prop} {s : Shared} {v : Value} {o : Obj} {H : Heap → Prop} {Q : Value → Shared → Prop} (B : Begins v o H) (h1 : H s.heap)
    (h : ∀ h', IsEnum h' (s.heap.objs.size + 1) s.heap.objs.size 0 .none → h'.get? s.heap.objs.size = some o → h'.objs.size = s.heap.objs.size + 2 →
      (∀ b o, s.heap.get? b = some o → h'.get? b = some o) → Q (.ref (s.heap.objs.size + 1)) { s with heap := h' }) :
    wpAny (model prog w) A (call (.type "enumerate") [v]) Q E s := by
  refine callType_new F.called_enumerate (by decide) (F.typeCall_enumerate_1 _) (F.newCall_enumerate_1 _) (fun obj => F.args_object_init_2 obj _) F.entry_enumerate_new
    (meets_enumerate_new1B B) ⟨h1, ?_⟩
  have hz : (s.heap.push o).objs.size = s.heap.objs.size + 1 := Heap.size_push ..
  show _ ∧ _
  rw [hz]
  have he : IsEnum ((s.heap.push o).push { cls := .type "enumerate", data := .fields #[.none, .bool false, .ref s.heap.objs.size, rawInt 0, .none, .none] }) (s.heap.objs.size + 1) s.heap.objs.size 0 .none := by
    have := Heap.get?_push_size (s.heap.push o) (o := { cls := .type "enumerate", data := .fields #[.none, .bool false, .ref s.heap.objs.size, rawInt 0, .none, .none] }) rfl
    rw [hz] at this; exact this
  refine ⟨⟨_, he, rfl⟩, h _ he (Heap.get?_push_of_some _ (Heap.get?_push_size _ B.free)) (by rw [Heap.size_push, hz]) fun b o x => Heap.get?_push_of_some _ (Heap.get?_push_of_some _ x)⟩
end PySem
namespace L2
open PySem PySem.Spec PyProof.Rows
/-- the tuple at a, each item in a new pair -/
def IteT (K : PySem.W.Frag) (a : Addr) : It :=
  ⟨fun i H => ∃ (xs : List V) (x : V), SqT K H a xs ∧ xs[i]? = some x, fun i H v H' => ∃ T x, v = .ref T ∧ H T = none ∧ H' = upd H T (.tup [.int (i : Nat), x]) ∧ ∀ xs, SqT K H a xs → xs[i]? = some x, fun i H => ∃ xs : List V, SqT K H a xs ∧ i = xs.length⟩
theorem turn_enumT {P : Program} {w : World} {K : PySem.W.Frag} {elts : List Expr} {kk : Nat} {tpos : Pos} (a e it : Addr) :
    Turn P w K (.Tuple elts kk tpos) (IteT K a) [e, it] e (fun i h => (∃ old, IsEnum h e it ((i : Nat) : Int) old) ∧ h.IsTupleIter it a i ∧ e ≠ it ∧ a ≠ it ∧ a ≠ e) where
  mem := by simp
  obj := fun i h st b hb => by
    obtain ⟨⟨old, he⟩, ⟨o, ho, hc, hd⟩, _⟩ := st
    have e' : b = e ∨ b = it := by simpa using hb
    rcases e' with z | z
    · rw [z]; exact ⟨_, he, fun v q => nomatch q⟩
    · rw [z]; exact ⟨o, ho, fun v q => by rw [hd] at q; cases q⟩
  keep := fun i h h' st k => let ⟨⟨old, he⟩, hi, hne⟩ := st; ⟨⟨old, k e (by simp) _ he⟩, hi.at fun o q => k it (by simp) o q, hne⟩
  item := by
    intro X hP hw hK hc i pins s σ H E I hf st hg
    subst hP hw hK
    obtain ⟨⟨old, he⟩, hit, hne, hna, hnae⟩ := st
    obtain ⟨xs, x, hq, hx⟩ := hg
    obtain ⟨its, rv, p, hz⟩ := I.tuple hq
    obtain ⟨u, hu, ru⟩ := rv.get hx
    have hel : e < s.heap.objs.size := Heap.lt_size he
    have hil : it < s.heap.objs.size := by obtain ⟨_, q, _⟩ := hit; exact Heap.lt_size q
    have pt : s.heap.IsTuple a its.toArray := p
    have hlt : i < its.toArray.size := by
      have := rv.length
      have h2 := (List.getElem?_eq_some_iff.mp hx).1
      simp
      omega
    refine wpAny_pyNext_enum_itemD (Draws.tuple (prog := X.prog) (w := X.w) (A := X.A.in1) (I.ok.hd hc) it a hna its.toArray) he ⟨hit, pt⟩ hlt hne (by simp [hne, Ne.symm hnae]) fun y h' tk hy ho st' hT hsz hk => ?_
    obtain rfl : y = u := by
      have : its.toArray[i]? = some u := by simpa using hu
      rw [this] at hy
      cases hy
      rfl
    refine ⟨_, rfl, wpAny_letOwnedTupleGo_enum (s := { s with heap := h', toks := tk + 1 }) ho fun h'' he' sb => ?_⟩
    have hT2 : h''.get? s.heap.objs.size = some { cls := .type "tuple", data := .seq #[.int i tk, y] } := (sb.2 _ (Nat.ne_of_gt hel)).trans hT
    have new : ObjOk X.prog X.w (upd H s.heap.objs.size (.tup [.int (i : Nat), x])) h'' s.heap.objs.size (.tup [.int (i : Nat), x]) :=
      ⟨by show 2 ≤ sizeLine; decide, [.int i tk, y], .cons ⟨_, rfl⟩ (.cons ru .nil), ⟨_, hT2, rfl, _, rfl⟩⟩
    have I1 : Inv X pins σ (upd H s.heap.objs.size (.tup [.int (i : Nat), x])) { s with heap := h'', toks := tk + 1 } :=
      I.turnedNew (ch := [e, it]) (fun b ob hb q => (sb.2 b (fun z => hb (by simp [z]))).trans (hk b ob (fun z => hb (by simp [z])) (fun z => hb (by simp [z])) q)) hf (Nat.le_refl _) new
    refine ⟨.ref s.heap.objs.size, _, I1, rfl, ⟨_, x, rfl, I.hok.fresh (Nat.le_refl _), rfl, fun ys hy => by rw [I.tuple_inj hy hq]; exact hx⟩, ⟨⟨y, ?_⟩, st'.1.at fun o q => (sb.2 it (Ne.symm hne)).trans q, hne, hna, hnae⟩, fun b hb => ?_⟩
    · have e1 : ((i + 1 : Nat) : Int) = (i : Int) + 1 := by omega
      rw [e1]; exact he'
    · have hb' : b < s.heap.objs.size := by
        have e' : b = e ∨ b = it := by simpa using hb
        rcases e' with z | z
        · rw [z]; exact hel
        · rw [z]; exact hil
      rw [upd_ne (Nat.ne_of_lt hb')]
      exact (hf b hb).1
  done := by
    intro X hP hw hK hc i pins s σ H E I hf st hg
    subst hP hw hK
    obtain ⟨⟨old, he⟩, hit, hne, hna, hnae⟩ := st
    obtain ⟨xs, hq, hx⟩ := hg
    obtain ⟨its, rv, p, hz⟩ := I.tuple hq
    obtain ⟨f0, f1, f2, f3, f4, f5⟩ := hf it (by simp)
    have hl := rv.length
    have pt : s.heap.IsTuple a its.toArray := p
    subst hx
    exact wpAny_pyNext_enum_endD (Draws.tuple (prog := X.prog) (w := X.w) (A := X.A.in1) (I.ok.hd hc) it a hna its.toArray) he ⟨by rw [show its.toArray.size = xs.length by simp [hl]]; exact hit, pt⟩ fun h' eb => ⟨rfl, I.turned (t' := s.toks) (fun b o hb q => eb b o hb q) f0 f1 f3 f4 f5⟩
  self := fun A i s Q E st h => let ⟨⟨_, he⟩, _⟩ := st; wpAny_pyIter_enum he h
def iEnumT (K : PySem.W.Frag) (ta : TA) : TI := fun σ H R => ta σ H fun vs H1 => ∃ a xs, vs = [.ref a] ∧ SqT K H1 a xs ∧ R (IteT K a) H1
theorem pi_enumT {X : Cx} {e : Expr} {ta : TA} {p pos tpos : Pos} {elts : List Expr} {kk : Nat} (hg : Gl X "enumerate") (hm : X.mg "enumerate" = none) (ha : PA X [e] ta) (hs : starEach [e] X.env = [(false, eval e X.env)] := by rfl) :
    PI X (.Tuple elts kk tpos) (.Call (.Name "enumerate" p) [e] [] pos) (iEnumT X.K ta) := by
  refine ⟨fun pins s σ H R I h => ?_⟩
  refine Call_ (ld_blt I hg hm boot_enumerate (PyProof.Rows.callWith_type1 (thn (ha.run pos pins s σ H _ I h) fun us s1 ⟨vs, H1, I1, r1, q1⟩ => ?_) hs rfl))
  obtain ⟨a, xs, ex, hq, q⟩ := q1
  subst ex
  cases r1 with
  | cons r rr =>
    cases rr
    cases r
    obtain ⟨its, rv, p', hz⟩ := I1.tuple hq
    have pt : s1.heap.IsTuple a its.toArray := p'
    have hal : a < s1.heap.objs.size := by obtain ⟨_, q, _⟩ := pt; exact Heap.lt_size q
    refine enum_begins1 (begins_tuple a its.toArray) pt fun h' he hit hsz hk => wpAny_pyIter_enum he ?_
    have I2 : Inv X pins σ H1 { s1 with heap := h' } := I1.kept (t' := s1.toks) hk
    refine ⟨s1.heap.objs.size + 1, [s1.heap.objs.size + 1, s1.heap.objs.size], _, _, H1, rfl, I2, turn_enumT a (s1.heap.objs.size + 1) s1.heap.objs.size, ⟨⟨.none, he⟩, ⟨_, hit, rfl, rfl⟩, Nat.succ_ne_self _, Nat.ne_of_lt hal, Nat.ne_of_lt (Nat.lt_succ_of_lt hal)⟩, fun b hb => ?_, q⟩
    have e' : b = s1.heap.objs.size + 1 ∨ b = s1.heap.objs.size := by simpa using hb
    have hle : s1.heap.objs.size ≤ b := by
      rcases e' with z | z
      · rw [z]; exact Nat.le_add_right _ _
      · rw [z]; exact Nat.le_refl _
    exact I1.fpOk hle (I1.hok.fresh hle)
end L2
namespace DL
open PySem L2 PySem.Spec PyProof.Rows
def enD (n : Nat) : List D → List D
  | [] => []
  | d :: r => .tup [.int n, d] :: enD (n + 1) r
theorem enD_get : ∀ {ds : List D} {n i : Nat}, (enD n ds)[i]? = (ds[i]?).map fun d => D.tup [.int ((n + i : Nat) : Int), d]
  | [], n, i => by simp [enD]
  | d :: r, n, 0 => by simp [enD]
  | d :: r, n, i + 1 => by
    show (enD (n + 1) r)[i]? = _
    rw [enD_get (ds := r)]
    show _ = (r[i]?).map _
    rw [show n + 1 + i = n + (i + 1) by omega]
theorem enD_length : ∀ {ds : List D} {n : Nat}, (enD n ds).length = ds.length
  | [], _ => rfl
  | d :: r, n => by simp [enD, enD_length (ds := r)]
theorem wk_ET {K : PySem.W.Frag} {H1 : Hp} {p : Addr} {xs : List V} {ds : List D} (hs : SqT K H1 p xs) (ha : Tps K H1 xs ds) : WalkD K H1 (IteT K p) (enD 0 ds) (fun _ => True) where
  goes := fun i H M im R _ hi => by
    rw [enD_length] at hi
    obtain ⟨v, ev, _⟩ := ha.get (List.getElem?_eq_getElem hi)
    exact ⟨xs, v, imm_sqT im hs, ev⟩
  stops := fun H M im R _ => ⟨xs, imm_sqT im hs, by rw [enD_length, ha.length]⟩
  yields := fun i H M x H' d im R _ hd y => by
    obtain ⟨T, x', ex, hT, hH, y⟩ := y
    subst ex hH
    rw [enD_get] at hd
    cases hx : ds[i]? with
    | none => rw [hx] at hd; cases hd
    | some d0 =>
      rw [hx] at hd
      cases hd
      obtain ⟨v, ev, tv⟩ := ha.get hx
      have := y xs (imm_sqT im hs)
      rw [ev] at this
      cases this
      have i2 := Imm.new (o := .tup [.int (i : Nat), x']) hT
      refine ⟨i2, R.skip hT, .tup (SqT.of upd_same) (.cons ?_ (.cons (Tp.mono i2 _ _ (Tp.mono im _ _ tv)) .nil))⟩
      rw [Nat.zero_add]
      exact .int _
theorem wk_EL {K : PySem.W.Frag} {H1 : Hp} {p : Addr} {ds : List D} : WalkD K H1 (Ite K p) (enD 0 ds) (fun M => M p = some (.lst ds)) where
  goes := fun i H M im R g hi => by
    rw [enD_length] at hi
    obtain ⟨_, ea, us, rfl, ha⟩ := R p _ g
    obtain ⟨v, ev, _⟩ := ha.get (List.getElem?_eq_getElem hi)
    exact ⟨us, v, SqL.of ea, ev⟩
  stops := fun H M im R g => by
    obtain ⟨_, ea, us, rfl, ha⟩ := R p _ g
    exact ⟨us, SqL.of ea, by rw [enD_length, ha.length]; exact Nat.le_refl _⟩
  yields := fun i H M x H' d im R g hd y => by
    obtain ⟨T, x', ex, hT, hH, y⟩ := y
    subst ex hH
    rw [enD_get] at hd
    cases hx : ds[i]? with
    | none => rw [hx] at hd; cases hd
    | some d0 =>
      rw [hx] at hd
      cases hd
      obtain ⟨_, ea, us, rfl, ha⟩ := R p _ g
      obtain ⟨v, ev, tv⟩ := ha.get hx
      have := y us (SqL.of ea)
      rw [ev] at this
      cases this
      have i2 := Imm.new (o := .tup [.int (i : Nat), x']) hT
      refine ⟨i2, R.skip hT, .tup (SqT.of upd_same) (.cons ?_ (.cons (Tp.mono i2 _ _ tv) .nil))⟩
      rw [Nat.zero_add]
      exact .int _
section
variable {X : Cx} {a b c tg iter : Expr} {σ : Sd} {M : Mp} {pos p : Pos} {R : List D → (Mp → Prop) → Mp → Prop}
theorem i_enumT {elts : List Expr} {kk : Nat} {tpos : Pos} (hm : X.mg "enumerate" = none) (h : ES X a σ M fun d M1 => match d with
    | .tup ds => R (enD 0 ds) (fun _ => True) M1
    | _ => False) (hg : Gl X "enumerate" := by rfl) (hs : starEach [a] X.env = [(false, eval a X.env)] := by rfl) : IS X (.Tuple elts kk tpos) (.Call (.Name "enumerate" p) [a] [] pos) σ M R :=
  IS.of (pi_enumT hg hm pa_sem hs) fun σv H S RM => (a_cons (QA := fun ds M1 => match ds with | [.tup l] => R (enD 0 l) (fun _ => True) M1 | _ => False) (h.imp fun d M1 q => by
      cases d <;> first | exact False.elim q | exact a_nil q) hs).go S RM fun vs H1 ds M1 i1 R1 t1 q1 => by
    match ds, t1, q1 with
    | [.tup l], t1, q1 =>
      obtain ⟨v, rfl, r⟩ := t1.one
      cases r with
      | @tup a xs _ hs ha => exact ⟨a, xs, rfl, hs, i1, _, _, M1, R1, wk_ET hs ha, q1⟩
theorem i_enumL {elts : List Expr} {kk : Nat} {tpos : Pos} (hm : X.mg "enumerate" = none) (h : ES X a σ M fun d M1 => match d with
    | .ref l => ∃ ds, M1 l = some (.lst ds) ∧ R (enD 0 ds) (fun M => M l = some (.lst ds)) M1
    | _ => False) (hg : Gl X "enumerate" := by rfl) (hs : starEach [a] X.env = [(false, eval a X.env)] := by rfl) : IS X (.Tuple elts kk tpos) (.Call (.Name "enumerate" p) [a] [] pos) σ M R :=
  IS.of (pi_enum hg hm pa_sem hs) fun σv H S RM => (a_cons (QA := fun ds M1 => match ds with | [.ref l] => ∃ ds, M1 l = some (.lst ds) ∧ R (enD 0 ds) (fun M => M l = some (.lst ds)) M1 | _ => False) (h.imp fun d M1 q => by
      cases d <;> first | exact False.elim q | exact a_nil q) hs).go S RM fun vs H1 ds M1 i1 R1 t1 q1 => by
    match ds, t1, q1 with
    | [.ref l], t1, q1 =>
      obtain ⟨v, rfl, r⟩ := t1.one
      obtain ⟨ds, e, q⟩ := q1
      obtain ⟨_, ea, us, rfl, ha⟩ := R1 l _ e
      cases r
      exact ⟨l, us, rfl, SqL.of ea, i1, _, _, M1, R1, wk_EL, q⟩
end
end DL
set_option maxHeartbeats 1000000
namespace DL
open PySem L2 PySem.Spec PyProof.Rows
/-! ### exceptions -/
open Classical in
/-- M and all that never changes in H -/
noncomputable def plus (M : Mp) (H : Hp) : Mp := fun a => match M a with
  | some m => some m
  | none => match H a with
    | some o => if fixedO o then some (.fix o) else none
    | none => none
theorem plus_le {M : Mp} {H : Hp} : Mle M (plus M H) := fun a m e => by unfold plus; rw [e]
open Classical in
theorem plus_rel {K : PySem.W.Frag} {M : Mp} {H : Hp} (R : RelM K M H) : RelM K (plus M H) H := fun a m e => by
  unfold plus at e
  cases e1 : M a with
  | some m1 =>
    rw [e1] at e
    cases e
    exact R a _ e1
  | none =>
    rw [e1] at e
    cases e2 : H a with
    | none => rw [e2] at e; cases e
    | some o =>
      rw [e2] at e
      by_cases hf : fixedO o
      · have e' : (if fixedO o then some (MO.fix o) else none) = some m := e
        rw [if_pos hf] at e'
        cases e'
        exact ⟨o, rfl, rfl, hf⟩
      · have e' : (if fixedO o then some (MO.fix o) else none) = some m := e
        rw [if_neg hf] at e'
        cases e'
theorem plus_fix {K : PySem.W.Frag} {M : Mp} {H : Hp} (R : RelM K M H) {a : Addr} {o : HO} (h : H a = some o) (f : fixedO o) : plus M H a = some (.fix o) := by
  unfold plus
  cases e1 : M a with
  | some m1 =>
    obtain ⟨u, e2, r⟩ := R a _ e1
    rw [h] at e2
    cases e2
    cases m1 with
    | fix u => obtain ⟨rfl, _⟩ := r; rfl
    | lst _ => obtain ⟨_, rfl, _⟩ := r; exact f.elim
    | dK _ => obtain ⟨_, rfl, _⟩ := r; exact f.elim
    | ins _ _ _ => obtain ⟨_, rfl, _⟩ := r; exact f.elim
    | own _ => cases r; exact f.elim
    | xd _ => obtain ⟨_, rfl, _⟩ := r; exact f.elim
    | tab _ => obtain ⟨_, rfl, _⟩ := r; exact f.elim
    | dN _ _ _ => obtain ⟨_, rfl, _⟩ := r; exact (nfixed_NO f).elim
  | none =>
    rw [h]
    exact if_pos f
def FixLe (N M' : Mp) : Prop := ∀ a o, N a = some (.fix o) → M' a = some (.fix o)
theorem Mle.fix {N M' : Mp} (l : Mle N M') : FixLe N M' := fun a o e => l a _ e
theorem Keep.fix {N M' : Mp} {a : Addr} {m : MO} (k : Keep a N M') (e : N a = some m) (hn : ∀ o, m ≠ .fix o) : FixLe N M' := fun b o eb => k b _ (by rintro rfl; rw [e] at eb; cases eb; exact hn o rfl) eb
theorem FixLe.trans {A B C : Mp} (h : FixLe A B) (k : FixLe B C) : FixLe A C := fun a o e => k a o (h a o e)
theorem imm_of {K : PySem.W.Frag} {M M' : Mp} {H H' : Hp} (R : RelM K M H) (f : FixLe (plus M H) M') (R' : RelM K M' H') : Imm H H' := fun a o e hf => by
  obtain ⟨u, e2, rfl, _⟩ := R' a _ (f a o (plus_fix R e hf))
  exact e2
/-- what is wished of an exception -/
abbrev WD := Value → Option Addr → Sd → Mp → Prop
def TkD (X : Cx) (W : WD) : Prop := ∃ Wv : WX, Takes X Wv ∧ ∀ cls d σv H σ M, Slots X.K H σv σ → RelM X.K M H → W cls d σ M → Wv cls d σv H
theorem tkD0 {X : Cx} : TkD X fun _ _ _ _ => False := ⟨_, takes0, fun _ _ _ _ _ _ _ _ q => q⟩
theorem TkD.imp {X : Cx} {W W' : WD} (t : TkD X W) (h : ∀ c d σ M, W' c d σ M → W c d σ M) : TkD X W' := by
  obtain ⟨Wv, tk, hW⟩ := t
  exact ⟨Wv, tk, fun cls d σv H σ M S R q => hW cls d σv H σ M S R (h _ _ _ _ q)⟩
abbrev E3 := Value → Option Addr → Mp → Prop
abbrev Sp4 := List D → Mp → QD → E3 → Prop
def spX (K : PySem.W.Frag) (sp4 : Sp4) : Sp := fun vs H Q E => ∃ (ds : List D) (M : Mp) (Q3 : QD) (Ex : E3), Tps K H vs ds ∧ RelM K M H ∧ sp4 ds M Q3 Ex ∧ To K H Q3 Q ∧ ∀ cls d H' M', RelM K M' H' → Ex cls d M' → E cls d H'
/-- a def of the module that may raise -/
def CalleeX (P : Program) (w : World) (K : PySem.W.Frag) (mg : Str → Option Value) (base : Heap) (x : Str) (k : Nat) (ps : List Str) (sp4 : Sp4) : Prop :=
  ∃ f fd, FnOk P w K mg base (L2.CX P w) k f fd ps (spX K sp4) ∧ mg x = some (.ref f) ∧ PySem.W.keepIn K (.ref f) = true ∧ Binds K fd ps []
theorem fnX {P : Program} {w : World} {K : PySem.W.Frag} {mg : Str → Option Value} {base : Heap} {N ps : List Str} {x qual : Str} {st : Stmt} {f : Addr} {fd : FuncData} {k : Nat} {sp4 : Sp4}
    (F : Fun K x qual st f fd) (S : FnScope N ps (defScope st)) (len : ∀ ds M Q Ex, sp4 ds M Q Ex → ds.length = ps.length)
    (body : ∀ (cdv : Value) (A : Around) (outer : List Env) (s : Shared) (H : Hp) (E : XK), Room k (A.deeper (envOfC qual (defScope st) s.heap.objs.size f cdv)) → ∀ ds M Q (Ex : E3), sp4 ds M Q Ex →
      TkD (cxOf (L2.CX P w) P w K mg base N qual (defScope st) f cdv A outer s H E) (fun cls d _ M' => Ex cls d M') →
      SSs (cxOf (L2.CX P w) P w K mg base N qual (defScope st) f cdv A outer s H E) (defBody st) (startD N ds) M { nx := fun _ M' => Wk Q .non M', rt := Wk Q }) : FnOk P w K mg base (L2.CX P w) (k + 1) f fd ps (spX K sp4) := by
  refine F.okX S (fun vs H Q E ⟨ds, M, Q3, Ex, t, r, q, to, _⟩ => ?_) (fun cdv A outer s H vs Q E hr ⟨ds, M, Q3, Ex, t, r, q, to, tox⟩ => ?_)
  · rw [t.length]
    exact len ds M Q3 Ex q
  · refine ⟨_, pss_sem, tSs.mono ((body cdv A outer s H E hr ds M Q3 Ex q ⟨_, takes_of rfl rfl rfl rfl, fun cls d σv H' σ M' _ R' w => tox cls d H' M' R' w⟩).run (start N vs) H (Slots.start t) r) ⟨fun σ' H' h => ?_, fun v H' h => ?_, fun _ _ h => ?_, fun _ _ h => ?_⟩⟩
    · obtain ⟨i, σ'', M', S', R', M1, l, q'⟩ := h
      exact to _ _ _ _ i (R'.le l) .non q'
    · obtain ⟨i, d, M', R', t', M1, l, q'⟩ := h
      exact to _ _ _ _ i (R'.le l) t' q'
    · obtain ⟨i, σ'', M', S', R', z⟩ := h
      exact z
    · obtain ⟨i, σ'', M', S', R', z⟩ := h
      exact z
theorem calleeX {P : Program} {w : World} {K : PySem.W.Frag} {mg : Str → Option Value} {base : Heap} {N ps : List Str} {x qual : Str} {st : Stmt} {f : Addr} {fd : FuncData} {k : Nat} {sp4 : Sp4}
    (F : Fun K x qual st f fd) (S : FnScope N ps (defScope st)) (hm : mg x = some (.ref f)) (hb : Binds K fd ps []) (len : ∀ ds M Q Ex, sp4 ds M Q Ex → ds.length = ps.length)
    (body : ∀ (cdv : Value) (A : Around) (outer : List Env) (s : Shared) (H : Hp) (E : XK), Room k (A.deeper (envOfC qual (defScope st) s.heap.objs.size f cdv)) → ∀ ds M Q (Ex : E3), sp4 ds M Q Ex →
      TkD (cxOf (L2.CX P w) P w K mg base N qual (defScope st) f cdv A outer s H E) (fun cls d _ M' => Ex cls d M') →
      SSs (cxOf (L2.CX P w) P w K mg base N qual (defScope st) f cdv A outer s H E) (defBody st) (startD N ds) M { nx := fun _ M' => Wk Q .non M', rt := Wk Q }) : CalleeX P w K mg base x (k + 1) ps sp4 := ⟨f, fd, fnX F S len body, hm, F.kp, hb⟩
theorem CalleeX.none {P : Program} {w : World} {K : PySem.W.Frag} {mg : Str → Option Value} {base : Heap} {x : Str} {k : Nat} {ps : List Str} {sp4 : Sp4} {f : Addr} {fd : FuncData}
    (hm : mg x = some (.ref f)) (hk : PySem.W.keepIn K (.ref f) = true) (hb : Binds K fd ps []) (h : ∀ ds M Q Ex, ¬ sp4 ds M Q Ex) : CalleeX P w K mg base x k ps sp4 :=
  ⟨f, fd, ⟨fun vs H Q E ⟨ds, M, Q3, Ex, _, _, q, _⟩ => absurd q (h ds M Q3 Ex), fun A outer s H args us vs Q E _ _ _ _ ⟨ds, M, Q3, Ex, _, _, q, _⟩ => absurd q (h ds M Q3 Ex)⟩, hm, hk, hb⟩
section
variable {X : Cx} {e a b c : Expr} {es rest : List Expr} {σ : Sd} {M : Mp} {Q : QD} {E : DE} {W : WD} {pos pos2 pos' p p2 np : Pos} {x : Str} {k : Nat} {ps : List Str} {sp4 : Sp4}
theorem e_callX (tk : TkD X W) (C : CalleeX X.prog X.w X.K X.mg X.base x k ps sp4) (hr : Room k X.A) (h : AS X (e :: es) σ M fun ds M1 => ∀ N, Mle M1 N → sp4 ds N Q fun cls d M' => FixLe N M' ∧ W cls d σ M') (hg : Gl X x := by rfl) (hdb : (x == ("__debug__" : Str)) = false := by decide)
    (he : starEach (e :: es) X.env = (false, eval e X.env) :: starEach es X.env := by rfl) (hpl : (backTo pos (starEach es X.env)).any (·.1) = false := by rfl) : ES X (.Call (.Name x p) (e :: es) [] pos) σ M Q := by
  obtain ⟨f, fd, F, hm, hk, hb⟩ := C
  obtain ⟨Wv, tkv, hW⟩ := tk
  refine ES.of (pe_callS F hr hg hm hk hb (fun σ => passAt tkv σ) pa_sem hdb he hpl) fun σv H S R => h.go S R fun vs H1 ds M1 i1 R1 t1 q1 => ?_
  exact ⟨ds, plus M1 H1, Q, _, t1, plus_rel R1, q1 _ plus_le, fun v H2 d M2 i2 R2 t2 q2 => ⟨i1.trans i2, d, M2, R2, t2, q2⟩, fun cls d H' M' R' ⟨fx, w⟩ => hW cls d σv H' σ M' (S.mono (i1.trans (imm_of R1 fx R'))) R' w⟩
/-- an exception class of the program's own, without __init__ -/
structure XcP (K : PySem.W.Frag) (mg : Str → Option Value) (x : Str) (C : Addr) : Prop where
  make : ∀ {X : Cx} {m : Str} {j : Nat} {p p2 pos : Pos}, X.K = K → X.mg = mg → Gl X x → (x == ("__debug__" : Str)) = false → PMk X (.Call (.Name x p) [.Constant (.str m) j p2] [] pos) (fun _ H Q => Q (.ref C) none H)
theorem xcP_mk {K : PySem.W.Frag} {mg : Str → Option Value} {x : Str} {C : Addr} {B newId initId : String} {bmB : List Value} (F : PySem.ExcBaseFacts B newId initId bmB) (q : PySem.W.excIn K C bmB newId = true) (gC : mg x = some (.ref C)) (kC : PySem.W.keepIn K (.ref C) = true)
    (h1 : PySem.W.subIn K (.ref C) (.type "BaseException") = some true) (h2 : PySem.W.typeIn K (.ref C) = some (.type "type")) : XcP K mg x C :=
  ⟨fun {X m j p p2 pos} hK hM hg hdb => by subst hK hM; exact pmk_own F q gC kC (raises_own h1 h2) hg hdb⟩
theorem s_raise {m : Str} {j : Nat} {C : Addr} (tk : TkD X W) (xc : XcP X.K X.mg x C) (q : W (.ref C) none σ M) (hc : X.calm = true := by rfl) (hg : Gl X x := by rfl) (hdb : (x == ("__debug__" : Str)) = false := by decide) : SS X (.Raise (some (.Call (.Name x p) [.Constant (.str m) j p2] [] pos2)) none pos) σ M E := by
  obtain ⟨Wv, tkv, hW⟩ := tk
  exact SS.of (ps_raise hc tkv (xc.make rfl rfl hg hdb)) fun σv H S R => hW _ _ _ _ _ _ S R q
/-- what a clause wishes of the body's exceptions -/
def WIn (X : Cx) (c : Value) (suite : List Stmt) (E : DE) (W : WD) (N : Mp) : WD := fun cls d σ' M' => ∃ b, PySem.W.exmOne X.K cls c = some b ∧ FixLe N M' ∧ (b = true → ∀ a pn, SSs (X.suite a pn) suite σ' M' E) ∧ (b = false → W cls d σ' M')
theorem s_try {c : Value} {body suite : List Stmt} {b₀ : Stmt} (hc : Names X x c) (tk : TkD X W)
    (h : ∀ N, Mle M N → ∀ pn xe, TkD (X.tr pn xe) (WIn X c (b₀ :: suite) E W N) → SSs (X.tr pn xe) body σ N E) (hs : X.stack = X.env :: X.outer := by rfl) (hf : X.env.frame = some X.env.locals := by rfl) : SS X (.Try body [.ExceptHandler (some (.Name x np)) none (b₀ :: suite) pos'] [] [] pos) σ M E := by
  obtain ⟨Wv, tkv, hW⟩ := tk
  refine SS.of (ps_try_only (tb := fun W' D σ H => ∀ pn xe, Takes (X.tr pn xe) W' → tSs (X.tr pn xe) body D σ H) (ts := fun a cls d D σ H => ∀ pn, tSs (X.suite a pn) (b₀ :: suite) D σ H) hs hf hc tkv
    (fun W' pn xe t _ => ⟨fun pins s σ H D I hw => pss_sem.run pins s σ H D I (hw pn xe t)⟩) (fun a oe cls d pn _ _ => ⟨fun pins s σ H D I hw => pss_sem.run pins s σ H D I (hw _)⟩)) fun σv H S R pn xe t => ?_
  refine (h (plus M H) plus_le pn xe ⟨_, t, fun cls d σv' H' σ' M' S' R' ⟨b, hb, fx, q1, q2⟩ => ?_⟩).run σv H S (plus_rel R)
  exact ⟨b, hb, fun e a _ pn' => ((q1 e a pn').run σv' H' S' R').mono (DE.from (imm_of R fx R')), fun e => hW cls d σv' H' σ' M' S' R' (q2 e)⟩
end
end DL
set_option maxHeartbeats 1000000
namespace DL
open PySem L2 PySem.Spec PyProof.Rows
theorem Slots.unset {K : PySem.W.Frag} {H : Hp} {σv : L2.St} {σ : Sd} (s : Slots K H σv σ) (i : Nat) : Slots K H (σv.set i none) (σ.set i none) := by
  refine ⟨by rw [List.length_set, List.length_set, s.len], fun j e h => ?_⟩
  by_cases hj : j = i
  · subst hj
    by_cases hl : j < σ.length
    · rw [List.getElem?_set_self hl] at h
      cases h
    · rw [List.getElem?_eq_none (by rw [List.length_set]; omega)] at h
      cases h
  · rw [List.getElem?_set_ne (Ne.symm hj)] at h
    obtain ⟨v', e', r'⟩ := s.at_ j e h
    exact ⟨v', by rw [List.getElem?_set_ne (Ne.symm hj)]; exact e', r'⟩
/-- behind an except clause with a name: the name is gone -/
def DE.unset (E : DE) (i : Nat) : DE := { nx := fun σ M => E.nx (σ.set i none) M, rt := E.rt, bk := fun σ M => E.bk (σ.set i none) M, ct := fun σ M => E.ct (σ.set i none) M }
theorem DN.unset {K : PySem.W.Frag} {H0 H : Hp} {Q : Sd → Mp → Prop} {i : Nat} (im : Imm H0 H) {σv : L2.St} {H' : Hp} (h : DN K H (fun σ M => Q (σ.set i none) M) σv H') : DN K H0 Q (σv.set i none) H' := by
  obtain ⟨i1, σ', M', S', R', q⟩ := h
  exact ⟨im.trans i1, _, M', S'.unset i, R', q⟩
def WAs (X : Cx) (c : Value) (i : Nat) (suite : List Stmt) (E : DE) (W : WD) (N : Mp) : WD := fun cls d σ' M' => ∃ b, PySem.W.exmOne X.K cls c = some b ∧ FixLe N M' ∧
  (b = true → ∀ a oe pn, M' a = none → Zc cls d oe → (∃ vs, oe.data = .fields vs) → SSs (X.suite a ((a, oe) :: pn)) suite (σ'.set i (some (.ref a))) M' (E.unset i)) ∧ (b = false → W cls d σ' M')
section
variable {X : Cx} {e a b c : Expr} {es rest : List Expr} {σ : Sd} {M : Mp} {Q : QD} {E : DE} {W : WD} {pos pos2 pos' p p2 np : Pos} {x : Str} {k : Nat} {ps : List Str} {sp4 : Sp4}
theorem s_tryAs {c : Value} {body suite : List Stmt} {b₀ : Stmt} {n : Str} (i : Nat) (hN : X.N.Nodup) (hc : Names X x c) (tk : TkD X W)
    (h : ∀ N, Mle M N → ∀ pn xe, TkD (X.tr pn xe) (WAs X c i (b₀ :: suite) E W N) → SSs (X.tr pn xe) body σ N E) (hi : X.N[i]? = some n := by rfl) (hln : X.env.kindOf n = some .local := by rfl)
    (hs : X.stack = X.env :: X.outer := by rfl) (hf : X.env.frame = some X.env.locals := by rfl) : SS X (.Try body [.ExceptHandler (some (.Name x np)) (some n) (b₀ :: suite) pos'] [] [] pos) σ M E := by
  obtain ⟨Wv, tkv, hW⟩ := tk
  refine SS.of (ps_try_as (i := i) (tb := fun W' D σ H => ∀ pn xe, Takes (X.tr pn xe) W' → tSs (X.tr pn xe) body D σ H) (ts := fun a cls d D σ H => ∀ oe pn, Zc cls d oe → (∃ vs, oe.data = .fields vs) → tSs (X.suite a ((a, oe) :: pn)) (b₀ :: suite) D σ H) hs hf hN hi hln hc tkv
    (fun W' pn xe t _ => ⟨fun pins s σ H D I hw => pss_sem.run pins s σ H D I (hw pn xe t)⟩) (fun a oe cls d pn hz hff => ⟨fun pins s σ H D I hw => pss_sem.run pins s σ H D I (hw oe pn hz hff)⟩)) fun σv H S R pn xe t => ?_
  refine (h (plus M H) plus_le pn xe ⟨_, t, fun cls d σv' H' σ' M' S' R' ⟨b, hb, fx, q1, q2⟩ => ?_⟩).run σv H S (plus_rel R)
  have im := imm_of R fx R'
  refine ⟨b, hb, fun e a ha oe pn' hz hff => ?_, fun e => hW cls d σv' H' σ' M' S' R' (q2 e)⟩
  exact ((q1 e a oe pn' (R'.fresh ha) hz hff).run _ H' (S'.set (.ref a) i) R').mono ⟨fun _ _ q => DN.unset im q, fun _ _ q => DQ.from im q, fun _ _ q => DN.unset im q, fun _ _ q => DN.unset im q⟩
/-! isinstance of a caught error -/
def clsD : D → Value → Prop := fun d c => match d with
  | .ty n => c = .type n
  | .ref a => c = .ref a
  | _ => False
def RIsE (K : PySem.W.Frag) (D₀ a : Addr) : RA3 := fun ds M Q => match ds with
  | [.ref x, c] => x = a ∧ ∃ cv b, clsD c cv ∧ PySem.W.kitOne K (.ref D₀) cv = some b ∧ Q (.bl b) M
  | _ => False
theorem rd_isE {K : PySem.W.Frag} {D₀ a : Addr} : RDA K (rIsE K D₀ a) (RIsE K D₀ a) := by
  intro H0 H M vs ds Q Q' i R t k q
  match ds, t, q with
  | [.ref x, c], t, q =>
    obtain ⟨hx, cv, b, hc, hk, q1⟩ := q
    subst hx
    obtain ⟨v, u, rfl, r, r2⟩ := t.two
    cases r
    refine ⟨u, cv, b, rfl, fun w hw => ?_, hk, k _ _ _ _ i R (.bl _) q1⟩
    cases r2 <;> first | exact False.elim hc | (cases hc; exact hw)
theorem e_isE {a : Addr} {D₀ : Addr} {oe : Obj} {pn : List (Addr × Obj)} {e1 e2 : Expr} (C : ExcC X.K D₀) (hz : Zc (.ref D₀) none oe) (hf : ∃ vs, oe.data = .fields vs) (hm : X.mg "isinstance" = none)
    (h : AS (X.suite a ((a, oe) :: pn)) [e1, e2] σ M fun ds M1 => RIsE X.K D₀ a ds M1 Q) (hg : Gl X "isinstance" := by rfl) (he : starEach [e1, e2] X.env = (false, eval e1 X.env) :: starEach [e2] X.env := by rfl) (he2 : (backTo pos (starEach [e2] X.env)).any (·.1) = false := by rfl) :
    ES (X.suite a ((a, oe) :: pn)) (.Call (.Name "isinstance" p) [e1, e2] [] pos) σ M Q := e_cb (X := X.suite a ((a, oe) :: pn)) (call_isE C hz hf) rd_isE hm (by decide +kernel) h hg (by decide) (by decide) he he2
/-- a class of the program's own, as a value -/
theorem e_cls {x : Str} {C : Addr} (hm : X.mg x = some (.ref C)) (q : Q (.ref C) M) (hg : Gl X x := by rfl) (hdb : (x == ("__debug__" : Str)) = false := by decide) : ES X (.Name x pos) σ M Q := e_glob (v := .ref C) hm rfl (fun _ => .ref C) q hg hdb
def RSum : RA3 := fun ds M Q => match ds with
  | [.ref a] => ∃ ns : List Int, M a = some (.lst (ns.map D.int)) ∧ Q (.int ns.sum) M
  | _ => False
theorem rd_sum {K : PySem.W.Frag} : RDA K (rSum K) RSum := by
  intro H0 H M vs ds Q Q' i R t k q
  match ds, t, q with
  | [.ref a], t, q =>
    obtain ⟨v, rfl, r⟩ := t.one
    obtain ⟨ns, e, q⟩ := q
    obtain ⟨_, ea, us, rfl, ha⟩ := R a _ e
    cases r
    obtain rfl := tps_ints ha
    exact ⟨a, ns, rfl, SqL.of ea, k _ _ _ _ i R (.int _) q⟩
theorem e_sum (hm : X.mg "sum" = none) (h : AS X [e] σ M fun ds M1 => RSum ds M1 Q) (hc : X.calm = true := by rfl) (hg : Gl X "sum" := by rfl) (he : starEach [e] X.env = (false, eval e X.env) :: starEach [] X.env := by rfl) : ES X (.Call (.Name "sum" p) [e] [] pos) σ M Q := e_cb (cr_sum hc) rd_sum hm (by decide +kernel) h hg (by decide) (by decide) he rfl
end
end DL
set_option maxHeartbeats 1000000
namespace DL
open PySem L2 PySem.Spec PyProof.Rows
theorem wipe2 {σv : L2.St} {j1 j2 : Nat} {x y : V} : L2.wipe (((L2.wipe σv [j1, j2]).set j1 (some x)).set j2 (some y)) [j1, j2] = L2.wipe σv [j1, j2] := by
  simp only [L2.wipe]
  refine List.ext_getElem? fun k => ?_
  simp only [List.getElem?_set, List.length_set]
  by_cases h2 : j2 = k
  · simp [h2]
  · by_cases h1 : j1 = k
    · simp [h1, h2]
    · simp [h1, h2]
section
variable {X : Cx} {elt iter : Expr} {scope : Scope} {σ : Sd} {M : Mp} {Q : QD} {pos p1 p2 tpos : Pos} {x1 x2 : Str} {kk : Nat}
theorem lc2_read (j1 j2 : Nat)
    (h : IS X (.Tuple [.Name x1 p1, .Name x2 p2] kk tpos) iter σ M fun its G M1 => ∀ q, M1 q = none → ∃ Pv : Nat → Mp → Prop, (∀ M', M' q = some (.lst []) → Mle M1 M' → Pv 0 M') ∧ (∀ i M', i ≤ its.length → Pv i M' → G M') ∧
      (∀ i d M', its[i]? = some d → Pv i M' → ∃ d1 d2, d = .tup [d1, d2] ∧ ∀ (s : Shared) (H0 : Hp) (C : Addr) (cl : List (Str × Addr)) (fp : List Addr),
        ES (X.blk s H0 scope (compEnvC scope cl C X.env) fp) elt ((((σ.set j2 none).set j1 none).set j1 (some d1)).set j2 (some d2)) M' fun y M2 => ∃ acc, M2 q = some (.lst acc) ∧ acc.length < sizeLine ∧ SetM M2 q (.lst (acc ++ [y])) (Pv (i + 1))) ∧
      ∀ M', Pv its.length M' → Q (.ref q) M')
    : ∀ σv H, Slots X.K H σv σ → RelM X.K M H → ∀ Q', To X.K H Q Q' → tLc (tI X (.Tuple [.Name x1 p1, .Name x2 p2] kk tpos) iter) (gTup X.K 2 (gCons (gName j1) (gCons (gName j2) gNil))) tYes (tEB X scope elt) ([(x1, j1), (x2, j2)].map (·.2)) σv H Q' := fun σv H S R Q' to => (h.run σv H S R).mono fun J H1 ⟨i1, its, G, M1, R1, wk, k⟩ q hq => by
    obtain ⟨Pv, p0, pG, ps, pe⟩ := k q (R1.fresh hq)
    have imq := Imm.new (o := .lst []) hq
    refine ⟨fun i m H' => m = its.length - i ∧ i ≤ its.length ∧ Imm H1 H' ∧ ∃ M', RelM X.K M' H' ∧ Pv i M', ⟨its.length, by simp, Nat.zero_le _, imq, _, R1.new (m := .lst []) hq ⟨_, rfl, .nil⟩, p0 _ updM_same (Mle.new (R1.fresh hq))⟩, ?_⟩
    rintro i m H2 ⟨rfl, hi, i2, M2, R2, p2⟩
    by_cases hlt : i < its.length
    · refine .inr ⟨wk.goes i H2 M2 i2 R2 (pG i M2 hi p2) hlt, fun H' => Imm H1 H' ∧ ∃ M', RelM X.K M' H' ∧ Pv (i + 1) M', fun H' ⟨a, b⟩ => ⟨its.length - (i + 1), by omega, rfl, hlt, a, b⟩, fun xv H3 y => ?_⟩
      have hd : its[i]? = some its[i] := List.getElem?_eq_getElem hlt
      obtain ⟨i3, R3, t3⟩ := wk.yields i H2 M2 xv H3 _ i2 R2 (pG i M2 hi p2) hd y
      obtain ⟨d1, d2, ed, pe2⟩ := ps i _ M2 hd p2
      rw [ed] at t3
      cases t3 with
      | @tup a xs _ hs ha =>
        obtain ⟨v1, v2, rfl, t1, t2⟩ := ha.two
        refine ⟨a, _, rfl, hs, rfl, v1, [v2], rfl, ?_⟩
        show ∃ x r, [v2] = x :: r ∧ _
        refine ⟨v2, [], rfl, ?_⟩
        show [] = [] ∧ _
        refine ⟨rfl, ?_⟩
        refine ⟨wipe2, ?_⟩
        intro s0 H0 C cl fp
        have S3 : Slots X.K H3 (((L2.wipe σv [j1, j2]).set j1 (some v1)).set j2 (some v2)) ((((σ.set j2 none).set j1 none).set j1 (some d1)).set j2 (some d2)) := ((((S.mono ((i1.trans i2).trans i3)).wipe1 j2).wipe1 j1).set t1 j1).set t2 j2
        refine (pe2 s0 H0 C cl fp).go (H0 := H3) S3 R3 fun yv H4 yd M4 i4 R4 t4 ⟨acc, ea, hz, p4⟩ => ?_
        obtain ⟨_, eh, us, rfl, ha⟩ := R4 q _ ea
        have im4 : Imm H4 (upd H4 q (.lst (us ++ [yv]))) := Imm.set eh (fun z => z)
        exact ⟨us, eh, by rw [ha.length]; exact hz, ((i2.trans i3).trans i4).trans im4, _, R4.set (m := .lst (acc ++ [yd])) eh (fun z => z) ⟨_, rfl, (Tps.mono im4 _ _ ha).append (.cons (Tp.mono im4 _ _ t4) .nil)⟩, SetM.at p4⟩
    · have e : i = its.length := by omega
      subst e
      exact .inl ⟨wk.stops H2 M2 i2 R2 (pG _ M2 hi p2), to _ _ _ _ (i1.trans i2) R2 (.ref q) (pe M2 p2)⟩
theorem e_lc2 (j1 j2 : Nat) (hN : X.N.Nodup) (ok : BlkOk X.N X.env.scope scope [(x1, j1), (x2, j2)])
    (h : IS X (.Tuple [.Name x1 p1, .Name x2 p2] kk tpos) iter σ M fun its G M1 => ∀ q, M1 q = none → ∃ Pv : Nat → Mp → Prop, (∀ M', M' q = some (.lst []) → Mle M1 M' → Pv 0 M') ∧ (∀ i M', i ≤ its.length → Pv i M' → G M') ∧
      (∀ i d M', its[i]? = some d → Pv i M' → ∃ d1 d2, d = .tup [d1, d2] ∧ ∀ (s : Shared) (H0 : Hp) (C : Addr) (cl : List (Str × Addr)) (fp : List Addr),
        ES (X.blk s H0 scope (compEnvC scope cl C X.env) fp) elt ((((σ.set j2 none).set j1 none).set j1 (some d1)).set j2 (some d2)) M' fun y M2 => ∃ acc, M2 q = some (.lst acc) ∧ acc.length < sizeLine ∧ SetM M2 q (.lst (acc ++ [y])) (Pv (i + 1))) ∧
      ∀ M', Pv its.length M' → Q (.ref q) M')
    (h1 : X.N[j1]? = some x1 := by rfl) (h2 : X.N[j2]? = some x2 := by rfl) (hc : X.calm = true := by rfl)
    (hl1 : ∀ cl C, Loc (compEnvC scope cl C X.env).scope x1 := by exact fun _ _ => Or.inl rfl) (hl2 : ∀ cl C, Loc (compEnvC scope cl C X.env).scope x2 := by exact fun _ _ => Or.inl rfl)
    (hf1 : ∀ (s : Shared) (H0 : Hp) (C : Addr) (cl : List (Str × Addr)) (fp : List Addr), (X.blk s H0 scope (compEnvC scope cl C X.env) fp).fn x1 = true ∨ (compEnvC scope cl C X.env).scope.names.lookup x1 = some .local := by exact fun _ _ _ _ _ => Or.inr rfl)
    (hf2 : ∀ (s : Shared) (H0 : Hp) (C : Addr) (cl : List (Str × Addr)) (fp : List Addr), (X.blk s H0 scope (compEnvC scope cl C X.env) fp).fn x2 = true ∨ (compEnvC scope cl C X.env).scope.names.lookup x2 = some .local := by exact fun _ _ _ _ _ => Or.inr rfl)
    (hs : ∀ x, foldedSetIterable iter X.env x = pure x := by intro _; rfl) : ES X (.ListComp elt [⟨.Tuple [.Name x1 p1, .Name x2 p2] kk tpos, iter, [], 0⟩] scope pos) σ M Q :=
  ES.of (pe_lc (own := [(x1, j1), (x2, j2)]) (g := gTup X.K 2 (gCons (gName j1) (gCons (gName j2) gNil))) (tt := tYes) (te := tEB X scope elt) hc hN pi_sem ok
      (fun s H0 C cl fp => pg_tup (X := X.blk s H0 scope (compEnvC scope cl C X.env) fp) hc (pgs_cons (pg_name (X := X.blk s H0 scope (compEnvC scope cl C X.env) fp) (i := j1) hN h1 (hl1 cl C) (hf1 s H0 C cl fp)) (pgs_cons (pg_name (X := X.blk s H0 scope (compEnvC scope cl C X.env) fp) (i := j2) hN h2 (hl2 cl C) (hf2 s H0 C cl fp)) pgs_nil rfl) rfl) rfl rfl) (fun _ _ _ _ _ => pts_nil)
      (fun s H0 C cl fp => ⟨fun pins s1 σ H Q I hw => hw s H0 C cl fp pins s1 I⟩) hs) fun σv H S R => lc2_read j1 j2 h σv H S R _ To.dq
end
/-! two lists, by content -/
def REqL : R3 := fun x y M Q => match x, y with
  | .ref a, .ref b => ∃ xs ys : List D, M a = some (.lst xs) ∧ M b = some (.lst ys) ∧ (D.rol xs).shp = true ∧ (D.rol ys).shp = true ∧ Q (.bl (D.eqv (.rol xs) (.rol ys))) M
  | _, _ => False
theorem rd_eqL {K : PySem.W.Frag} : RD K (rEqD K) REqL := by
  intro H0 H M vx vy x y Q Q' i R tx ty k q
  cases tx <;> first | exact False.elim q | skip
  case ref a =>
    cases ty <;> first | exact False.elim q | skip
    case ref b =>
      obtain ⟨xs, ys, e1, e2, s1, s2, q⟩ := q
      obtain ⟨_, ea, us, rfl, ha⟩ := R a _ e1
      obtain ⟨_, eb, ws, rfl, hb⟩ := R b _ e2
      unfold D.shp at s1 s2
      rw [Bool.and_eq_true] at s1 s2
      exact ⟨_, _, .lst (SqL.of ea) (Tps.dp _ _ (by simpa only [D.pure] using s1.1) ha), .lst (SqL.of eb) (Tps.dp _ _ (by simpa only [D.pure] using s2.1) hb), s1.2, s2.2, k _ _ _ _ i R (.bl _) q⟩
theorem e_eqL {X : Cx} {a b : Expr} {σ : Sd} {M : Mp} {Q : QD} {pos : Pos} (hr : ∃ k, Room k X.A) (h : ES X a σ M fun x M1 => ES X b σ M1 fun y M2 => REqL x y M2 Q) : ES X (.Compare a [.Eq] [b] pos) σ M Q := e_cmp (op_eqD hr.choose_spec.units) rd_eqL (nomark _) h
end DL
set_option maxHeartbeats 1000000
namespace DL
open PySem L2 PySem.Spec PyProof.Rows
/-! str of an int -/
def RStrI : RA3 := fun ds M Q => match ds with
  | [.int i] => i.natAbs.log2 < 1920 ∧ Q (.str (toString i)) M
  | _ => False
theorem rd_strI {K : PySem.W.Frag} : RDA K (fun xs H Q => ∃ i, xs = [.int i] ∧ i.natAbs.log2 < 1920 ∧ Q (.str (toString i)) H) RStrI := by
  intro H0 H M vs ds Q Q' i R t k q
  match ds, t, q with
  | [.int n], t, q =>
    obtain ⟨v, rfl, r⟩ := t.one
    cases r
    exact ⟨_, rfl, q.1, k _ _ _ _ i R (.str _) q.2⟩
section
variable {X : Cx} {e : Expr} {σ : Sd} {M : Mp} {Q : QD} {pos p : Pos}
theorem e_strI (hm : X.mg "str" = none) (h : AS X [e] σ M fun ds M1 => RStrI ds M1 Q) (hg : Gl X "str" := by rfl) (he : starEach [e] X.env = (false, eval e X.env) :: starEach [] X.env := by rfl) : ES X (.Call (.Name "str" p) [e] [] pos) σ M Q := e_ct call_str_int rd_strI hm (by decide +kernel) h hg (by decide) (by decide) he rfl
end
theorem cps_app (x y : Str) : (x ++ y).cps.toList = x.cps.toList ++ y.cps.toList := by
  show (x.cps ++ y.cps).toList = _
  rw [Array.toList_append]
theorem cps_one (c : Nat) : (⟨#[c]⟩ : Str).cps.toList = [c] := rfl
end DL
set_option maxHeartbeats 1000000
namespace DL
open PySem L2 PySem.Spec PyProof.Rows
section
variable {X : Cx} {a b c : Expr} {σ : Sd} {M : Mp} {pos : Pos} {Q : Bool → Mp → Prop} {op op' : CmpOp} {r r' : R2} {R R' : R3}
/-- a op b op' c, as a test -/
theorem t_chain (ho : OpR X (compareOp op) r) (hR : RD X.K r R) (ho' : OpR X (compareOp op') r') (hR' : RD X.K r' R') (hm : lastMarks [op, op'] [b, c] = false)
    (h : ES X a σ M fun x M1 => ES X b σ M1 fun y M2 => R x y M2 fun d M3 => ∃ k, d = .bl k ∧ BQ k (ES X c σ M3 fun z M4 => R' y z M4 fun d M5 => ∃ k, d = .bl k ∧ Q k M5) (Q false M3)) : TT3 X (.Compare a [op, op'] [b, c] pos) σ M Q :=
  TT3.of (pt_chain ho ho' pe_sem pe_sem pe_sem hm) fun σv H S RM => h.go (H0 := H) S RM fun v H1 x M1 i1 R1 t1 q1 => q1.go (H0 := H) (S.mono i1) R1 fun u H2 y M2 i2 R2 t2 q2 => by
    refine hR H2 H2 M2 v u x y _ _ (Imm.refl _) R2 (Tp.mono i2 _ _ t1) t2 (fun w H3 d M3 i3 R3 t3 q3 => ?_) q2
    obtain ⟨k, rfl, q4⟩ := q3
    cases t3
    refine ⟨k, rfl, ?_⟩
    cases k with
    | true =>
      rw [if_pos rfl]
      refine (q4.1 rfl).go (H0 := H3) (S.mono ((i1.trans i2).trans i3)) R3 fun z H4 dz M4 i4 R4 t4 q5 => ?_
      refine hR' H H4 M4 u z y dz _ _ (((i1.trans i2).trans i3).trans i4) R4 (Tp.mono (i3.trans i4) _ _ t2) t4 (fun w H5 d M5 i5 R5 t5 q6 => ?_) q5
      obtain ⟨k', rfl, q6⟩ := q6
      cases t5
      exact ⟨k', rfl, i5, M5, R5, q6⟩
    | false =>
      rw [if_neg Bool.false_ne_true]
      exact ⟨false, rfl, (i1.trans i2).trans i3, M3, R3, q4.2 rfl⟩
/-- a <= b < c, ints -/
theorem t_leLt (h : ES X a σ M fun x M1 => ES X b σ M1 fun y M2 => RInt0 (fun i j => .bl (decide (i ≤ j))) x y M2 fun d M3 => ∃ k, d = .bl k ∧ BQ k (ES X c σ M3 fun z M4 => RInt0 (fun i j => .bl (decide (i < j))) y z M4 fun d M5 => ∃ k, d = .bl k ∧ Q k M5) (Q false M3)) (hm : lastMarks [.LtE, .Lt] [b, c] = false := by with_unfolding_all rfl) : TT3 X (.Compare a [.LtE, .Lt] [b, c] pos) σ M Q :=
  t_chain op_le rd_cmp0 op_lt rd_cmp0 hm h
end
end DL
set_option maxHeartbeats 1000000
namespace DL
open PySem L2 PySem.Spec PyProof.Rows
/-! isinstance of a caught error, a tuple of classes -/
def rIsET (K : PySem.W.Frag) (D₀ a : Addr) : List V → Hp → VK → Prop := fun xs H Q => ∃ (tp : Addr) (cs : List V) (us : List Value) (b : Bool), xs = [.ref a, .ref tp] ∧ SqT K H tp cs ∧ (∀ ws, Vals cs ws → ws = us) ∧ PySem.W.kitAny K (.ref D₀) us = some b ∧ Q (.bl b) H
theorem call_isET {X : Cx} {a D₀ : Addr} {oe : Obj} {pn : List (Addr × Obj)} (C : ExcC X.K D₀) (hz : Zc (.ref D₀) none oe) (hf : ∃ vs, oe.data = .fields vs) : CallR (X.suite a ((a, oe) :: pn)) (.builtin "isinstance") (rIsET X.K D₀ a) := by
  intro pins s σ H xs us Q I r h
  obtain ⟨tp, cs, ws, b, rfl, hT, hcv, e, q⟩ := h
  cases r with
  | cons rx rr =>
    cases rr with
    | cons rt rr =>
      cases rr
      cases rx
      cases rt
      obtain ⟨hget, _⟩ := I.pin (a, oe) (List.mem_append.mpr (.inl List.mem_cons_self))
      obtain ⟨vs, hv⟩ := hf
      have J : PySem.W.InstAt s.heap a oe D₀ none := by
        obtain ⟨oc, od, oda, osl⟩ := oe
        obtain ⟨h1, h2⟩ := hz
        dsimp only at h1 h2 hv
        subst h1 h2 hv
        exact ⟨hget, rfl, rfl, trivial⟩
      obtain ⟨its, rv, p, _⟩ := I.tuple hT
      have pt : s.heap.IsTuple tp its.toArray := p
      obtain ⟨o, h1, h2, n, h3⟩ := pt
      have e3 := hcv its rv
      subst e3
      obtain ⟨oc, od, dt, sl⟩ := o
      simp only at h2 h3
      subst h2 h3
      exact PySem.W.kia_tup (PySem.W.handS_kitx_exc C.hg C.hk C.hs C.hd C.ha C.hn C.ht C.hm) I.kIn J h1 e (fun z => nomatch z) fun tk => ⟨.bl b, H, I.kept (t' := tk) fun _ _ z => z, rfl, q⟩
def clsDs : List D → List Value → Prop
  | [], [] => True
  | c :: cs, u :: us => clsD c u ∧ clsDs cs us
  | _, _ => False
theorem clsDs_ok {K : PySem.W.Frag} {H : Hp} : ∀ {cs : List D} {us : List Value} {vs : List V} {ws : List Value}, clsDs cs us → Tps K H vs cs → Vals vs ws → ws = us
  | [], [], _, _, _, .nil, .nil => rfl
  | c :: cs, u :: us, _, _, h, .cons t ts, .cons r rs => by
    rw [clsDs_ok h.2 ts rs]
    have h1 := h.1
    cases t <;> first | exact False.elim h1 | skip
    case ref a => cases h1; cases r; rfl
    case ty n => cases h1; cases r; rfl
  | [], _ :: _, _, _, h, _, _ => h.elim
  | _ :: _, [], _, _, h, _, _ => h.elim
def RIsET (K : PySem.W.Frag) (D₀ a : Addr) : RA3 := fun ds M Q => match ds with
  | [.ref x, .tup cs] => x = a ∧ ∃ us b, clsDs cs us ∧ PySem.W.kitAny K (.ref D₀) us = some b ∧ Q (.bl b) M
  | _ => False
theorem rd_isET {K : PySem.W.Frag} {D₀ a : Addr} : RDA K (rIsET K D₀ a) (RIsET K D₀ a) := by
  intro H0 H M vs ds Q Q' i R t k q
  match ds, t, q with
  | [.ref x, .tup cs], t, q =>
    obtain ⟨hx, us, b, hc, hk, q1⟩ := q
    subst hx
    obtain ⟨v, u, rfl, r, r2⟩ := t.two
    cases r
    cases r2 with
    | tup hs ha => exact ⟨_, _, us, b, rfl, hs, fun ws hw => clsDs_ok hc ha hw, hk, k _ _ _ _ i R (.bl _) q1⟩
theorem e_isET {X : Cx} {σ : Sd} {M : Mp} {Q : QD} {pos p : Pos} {a : Addr} {D₀ : Addr} {oe : Obj} {pn : List (Addr × Obj)} {e1 e2 : Expr} (C : ExcC X.K D₀) (hz : Zc (.ref D₀) none oe) (hf : ∃ vs, oe.data = .fields vs) (hm : X.mg "isinstance" = none)
    (h : AS (X.suite a ((a, oe) :: pn)) [e1, e2] σ M fun ds M1 => RIsET X.K D₀ a ds M1 Q) (hg : Gl X "isinstance" := by rfl) (he : starEach [e1, e2] X.env = (false, eval e1 X.env) :: starEach [e2] X.env := by rfl) (he2 : (backTo pos (starEach [e2] X.env)).any (·.1) = false := by rfl) :
    ES (X.suite a ((a, oe) :: pn)) (.Call (.Name "isinstance" p) [e1, e2] [] pos) σ M Q := e_cb (X := X.suite a ((a, oe) :: pn)) (call_isET C hz hf) rd_isET hm (by decide +kernel) h hg (by decide) (by decide) he he2
end DL
set_option maxHeartbeats 1000000
namespace DL
open PySem L2 PySem.Spec PyProof.Rows
/-! dicts whose keys are ints and texts -/
section
variable {κ : Type} [DecidableEq κ]
def valD (kvs : List (κ × D)) (k : κ) : Option D := (kvs.find? fun kv => decide (kv.1 = k)).map (·.2)
def putD (kvs : List (κ × D)) (k : κ) (v : D) : List (κ × D) :=
  if (kvs.any fun kv => decide (kv.1 = k)) = true then kvs.map (fun kv => if kv.1 = k then (kv.1, v) else kv) else kvs ++ [(k, v)]
def dropD (kvs : List (κ × D)) (k : κ) : List (κ × D) := kvs.filter fun kv => decide (kv.1 ≠ k)
theorem valD_nil {k : κ} : valD ([] : List (κ × D)) k = none := rfl
theorem valD_pos {p : κ × D} {r : List (κ × D)} {k : κ} (e : p.1 = k) : valD (p :: r) k = some p.2 := by simp [valD, List.find?_cons, e]
theorem valD_neg {p : κ × D} {r : List (κ × D)} {k : κ} (e : ¬ p.1 = k) : valD (p :: r) k = valD r k := by simp [valD, List.find?_cons, e]
theorem valD_any (k : κ) : ∀ kvs : List (κ × D), (kvs.any fun kv => decide (kv.1 = k)) = (valD kvs k).isSome
  | [] => rfl
  | p :: r => by
    rw [List.any_cons]
    by_cases e : p.1 = k
    · simp only [valD_pos e, decide_eq_true e, Bool.true_or, Option.isSome_some]
    · rw [valD_neg e, decide_eq_false e, Bool.false_or]; exact valD_any k r
theorem putD_new {kvs : List (κ × D)} {k : κ} (v : D) (h : valD kvs k = none) : putD kvs k v = kvs ++ [(k, v)] := by
  unfold putD
  rw [valD_any, h]
  rfl
theorem putD_old {kvs : List (κ × D)} {k : κ} (v : D) (h : (valD kvs k).isSome = true) : putD kvs k v = kvs.map (fun kv => if kv.1 = k then (kv.1, v) else kv) := by
  unfold putD
  rw [valD_any, h]
  rfl
theorem length_putD (kvs : List (κ × D)) (k : κ) (v : D) : (putD kvs k v).length ≤ kvs.length + 1 := by
  unfold putD
  split
  · rw [List.length_map]; omega
  · rw [List.length_append]; simp
theorem valD_map (k j : κ) (y : D) : ∀ kvs : List (κ × D), valD (kvs.map fun kv => if kv.1 = k then (kv.1, y) else kv) j = (valD kvs j).map fun x => if j = k then y else x
  | [] => rfl
  | p :: r => by
    have ih := valD_map k j y r
    rw [List.map_cons]
    by_cases h : p.1 = k
    · rw [if_pos h]
      by_cases e : p.1 = j
      · rw [valD_pos (p := (p.1, y)) e, valD_pos e, Option.map_some, if_pos (e.symm.trans h)]
      · rw [valD_neg (p := (p.1, y)) e, valD_neg e, ih]
    · rw [if_neg h]
      by_cases e : p.1 = j
      · rw [valD_pos (p := p) e, valD_pos e, Option.map_some, if_neg (fun z => h (e.trans z))]
      · rw [valD_neg (p := p) e, valD_neg e, ih]
theorem valD_app (j : κ) (ls : List (κ × D)) : ∀ kvs : List (κ × D), valD (kvs ++ ls) j = (valD kvs j).or (valD ls j)
  | [] => by rw [List.nil_append, valD_nil]; rfl
  | p :: r => by
    rw [List.cons_append]
    by_cases e : p.1 = j
    · rw [valD_pos e, valD_pos e]; rfl
    · rw [valD_neg e, valD_neg e, valD_app j ls r]
theorem valD_put (kvs : List (κ × D)) (k j : κ) (y : D) : valD (putD kvs k y) j = if j = k then some y else valD kvs j := by
  cases h : valD kvs k with
  | none =>
    rw [putD_new y h, valD_app]
    by_cases e : j = k
    · subst e
      rw [h, if_pos rfl, valD_pos rfl]; rfl
    · rw [if_neg e, valD_neg (fun z => e z.symm), valD_nil]
      cases valD kvs j <;> rfl
  | some v =>
    rw [putD_old y (by rw [h]; rfl), valD_map]
    by_cases e : j = k
    · subst e
      rw [h, if_pos rfl]; simp
    · rw [if_neg e]
      simp only [if_neg e]
      cases valD kvs j <;> rfl
theorem valD_drop (k j : κ) : ∀ kvs : List (κ × D), valD (dropD kvs k) j = if j = k then none else valD kvs j
  | [] => by simp [dropD, valD]
  | p :: r => by
    have ih := valD_drop k j r
    unfold dropD at ih ⊢
    rw [List.filter_cons]
    by_cases h : p.1 = k
    · rw [if_neg (by simp [h]), ih]
      by_cases e : j = k
      · rw [if_pos e, if_pos e]
      · rw [if_neg e, if_neg e, valD_neg (fun z => e (z.symm.trans h))]
    · rw [if_pos (by simp [h])]
      by_cases e : p.1 = j
      · rw [valD_pos e, valD_pos e, if_neg (fun z => h (e.trans z))]
      · rw [valD_neg e, valD_neg e, ih]
theorem keys_put (kvs : List (κ × D)) (k : κ) (y : D) : (putD kvs k y).map (·.1) = if (valD kvs k).isSome = true then kvs.map (·.1) else kvs.map (·.1) ++ [k] := by
  cases h : valD kvs k with
  | none => rw [putD_new y h, List.map_append]; rfl
  | some v =>
    rw [putD_old y (by rw [h]; rfl), List.map_map]
    simp only [Option.isSome_some, if_true]
    refine List.map_congr_left fun p _ => ?_
    simp only [Function.comp]
    split <;> rfl
theorem valD_mem {kvs : List (κ × D)} {k : κ} {d : D} (h : valD kvs k = some d) : (k, d) ∈ kvs := by
  induction kvs with
  | nil => cases h
  | cons p r ih =>
    by_cases e : p.1 = k
    · rw [valD_pos e] at h
      cases h
      subst e
      exact List.mem_cons_self
    · rw [valD_neg e] at h
      exact List.mem_cons_of_mem _ (ih h)
theorem valD_some {kvs : List (κ × D)} {k : κ} (h : k ∈ kvs.map (·.1)) : ∃ d, valD kvs k = some d := by
  induction kvs with
  | nil => simp at h
  | cons p r ih =>
    by_cases e : p.1 = k
    · exact ⟨_, valD_pos e⟩
    · rw [valD_neg e]
      rw [List.map_cons, List.mem_cons] at h
      rcases h with h | h
      · exact absurd h.symm e
      · exact ih h
theorem valD_none {kvs : List (κ × D)} {k : κ} (h : k ∉ kvs.map (·.1)) : valD kvs k = none := by
  cases e : valD kvs k with
  | none => rfl
  | some d => exact absurd (List.mem_map.mpr ⟨_, valD_mem e, rfl⟩) h
variable {K : PySem.W.Frag} {H : Hp}
theorem KVs.val {k : κ} : ∀ {vs : List (κ × V)} {ds : List (κ × D)}, KVs K H vs ds → (∀ d, valD ds k = some d → ∃ v, valV vs k = some v ∧ Tp K H v d) ∧ (valD ds k = none → valV vs k = none)
  | _, _, .nil => ⟨(fun _ h => by cases h), fun _ => rfl⟩
  | _, _, .cons (k := k') (v := v) (vs := vs) (ds := ds) r t => by
    obtain ⟨h1, h2⟩ := KVs.val (k := k) t
    by_cases e : k' = k
    · refine ⟨fun d h => ?_, fun h => ?_⟩
      · rw [valD_pos (p := (k', _)) e] at h
        cases h
        exact ⟨_, valV_pos (p := (k', v)) e, r⟩
      · rw [valD_pos (p := (k', _)) e] at h
        cases h
    · rw [valD_neg (p := (k', _)) e, valV_neg (p := (k', _)) e]
      exact ⟨h1, h2⟩
theorem KVs.isSome {k : κ} {vs : List (κ × V)} {ds : List (κ × D)} (h : KVs K H vs ds) : (valV vs k).isSome = (valD ds k).isSome := by
  obtain ⟨h1, h2⟩ := KVs.val (k := k) h
  cases e : valD ds k with
  | none => rw [h2 e]; rfl
  | some d => obtain ⟨v, ev, _⟩ := h1 d e; rw [ev]; rfl
theorem KVs.app : ∀ {vs us : List (κ × V)} {ds es : List (κ × D)}, KVs K H vs ds → KVs K H us es → KVs K H (vs ++ us) (ds ++ es)
  | _, _, _, _, .nil, s => s
  | _, _, _, _, .cons r t, s => .cons r (KVs.app t s)
theorem KVs.repl {k : κ} {y : V} {d : D} (ry : Tp K H y d) : ∀ {vs : List (κ × V)} {ds : List (κ × D)}, KVs K H vs ds → KVs K H (vs.map fun kv => if kv.1 = k then (kv.1, y) else kv) (ds.map fun kv => if kv.1 = k then (kv.1, d) else kv)
  | _, _, .nil => .nil
  | _, _, .cons (k := k') r t => by
    rw [List.map_cons, List.map_cons]
    by_cases e : k' = k
    · simp only [if_pos e]
      exact .cons ry (KVs.repl ry t)
    · simp only [if_neg e]
      exact .cons r (KVs.repl ry t)
theorem KVs.any {k : κ} {vs : List (κ × V)} {ds : List (κ × D)} (h : KVs K H vs ds) : (vs.any fun kv => decide (kv.1 = k)) = (ds.any fun kv => decide (kv.1 = k)) := by
  rw [valV_any, valD_any, h.isSome]
theorem KVs.put {k : κ} {y : V} {d : D} {vs : List (κ × V)} {ds : List (κ × D)} (h : KVs K H vs ds) (ry : Tp K H y d) : KVs K H (putK vs k y) (putD ds k d) := by
  unfold putK putD
  rw [h.any]
  split
  · exact KVs.repl ry h
  · exact h.app (.cons ry .nil)
theorem KVs.drop {k : κ} : ∀ {vs : List (κ × V)} {ds : List (κ × D)}, KVs K H vs ds → KVs K H (dropK vs k) (dropD ds k)
  | _, _, .nil => .nil
  | _, _, .cons (k := k') r t => by
    unfold dropK dropD
    rw [List.filter_cons, List.filter_cons]
    by_cases e : k' = k
    · rw [if_neg (by simp [e]), if_neg (by simp [e])]
      exact KVs.drop t
    · rw [if_pos (by simp [e]), if_pos (by simp [e])]
      exact .cons r (KVs.drop t)
theorem KVs.keys : ∀ {vs : List (κ × V)} {ds : List (κ × D)}, KVs K H vs ds → vs.map (·.1) = ds.map (·.1)
  | _, _, .nil => rfl
  | _, _, .cons _ t => by rw [List.map_cons, List.map_cons, KVs.keys t]
end
/-- a key as data -/
def kD : Key → D
  | .inl i => .int i
  | .inr x => .str x
theorem tp_kD {K : PySem.W.Frag} {H : Hp} {v : V} {k : Key} (t : Tp K H v (kD k)) : v = kV k := by
  cases k <;> cases t <;> rfl
theorem tp_kV {K : PySem.W.Frag} {H : Hp} (k : Key) : Tp K H (kV k) (kD k) := by
  cases k
  · exact .int _
  · exact .str _
theorem tps_keys {K : PySem.W.Frag} {H : Hp} : ∀ {vs : List (Key × V)} {ds : List (Key × D)}, KVs K H vs ds → Tps K H (vs.map fun kv => kV kv.1) (ds.map fun kv => kD kv.1)
  | _, _, .nil => .nil
  | _, _, .cons (k := k) _ t => .cons (tp_kV k) (tps_keys t)
section
variable {X : Cx} {e o i value a b : Expr} {es : List Expr} {σ : Sd} {M : Mp} {Q : QD} {QB : Bool → Mp → Prop} {E : DE} {pos pos' p p2 tpos apos cpos mpos : Pos}
/-- d[k] -/
def RDGet : R3 := fun x y M Q => match x with
  | .ref a => ∃ kvs k d, M a = some (.dK kvs) ∧ y = kD k ∧ valD kvs k = some d ∧ Q d M
  | _ => False
theorem e_dget (hr : ∃ k, Room k X.A) (h : ES X o σ M fun x M1 => ES X i σ M1 fun y M2 => RDGet x y M2 Q) (hs : NoSl i := by exact fun _ _ => rfl) : ES X (.Subscript o i pos) σ M Q :=
  ES.of (pe_dget (by have := hr.choose_spec.units; omega) pe_sem pe_sem hs) fun σv H S R => h.go (H0 := H) S R fun v H1 x M1 i1 R1 t1 q1 => q1.go (H0 := H1) (S.mono i1) R1 fun u H2 y M2 i2 R2 t2 q2 => by
    have t1' := Tp.mono i2 _ _ t1
    cases t1' <;> first | exact False.elim q2 | skip
    case ref a =>
      obtain ⟨kvs, k, d, ea, rfl, ev, q⟩ := q2
      obtain ⟨_, eh, us, rfl, hk⟩ := R2 a _ ea
      obtain ⟨v, evv, tv⟩ := (hk.val (k := k)).1 d ev
      obtain rfl := tp_kD t2
      exact ⟨a, v, rfl, by rw [← evv]; exact DGet.k eh, i1.trans i2, d, M2, R2, tv, q⟩
def RDIn (neg : Bool) : R3 := fun y x M Q => match x with
  | .ref a => ∃ kvs k, M a = some (.dK kvs) ∧ y = kD k ∧ Q (.bl (if neg then !(valD kvs k).isSome else (valD kvs k).isSome)) M
  | _ => False
theorem din_go {H : Hp} {σv : L2.St} (h : ES X i σ M fun y M1 => ES X o σ M1 fun x M2 => RDIn false y x M2 (QBl QB)) (S : Slots X.K H σv σ) (R : RelM X.K M H) : tDIn (tE X i) (tE X o) σv H fun v H' => ∃ c, v = .bl c ∧ DB X.K H QB c H' :=
  h.go (H0 := H) S R fun v H1 y M1 i1 R1 t1 q1 => q1.go (H0 := H1) (S.mono i1) R1 fun u H2 x M2 i2 R2 t2 q2 => by
    have t1' := Tp.mono i2 _ _ t1
    cases t2 <;> first | exact False.elim q2 | skip
    case ref a =>
      obtain ⟨kvs, k, ea, rfl, q⟩ := q2
      obtain ⟨_, eh, us, rfl, hk⟩ := R2 a _ ea
      obtain rfl := tp_kD t1'
      exact ⟨a, _, rfl, DGet.k eh, _, rfl, i1.trans i2, M2, R2, by rw [hk.isSome]; exact q⟩
theorem dnin_go {H : Hp} {σv : L2.St} (h : ES X i σ M fun y M1 => ES X o σ M1 fun x M2 => RDIn true y x M2 (QBl QB)) (S : Slots X.K H σv σ) (R : RelM X.K M H) : tDNotIn (tE X i) (tE X o) σv H fun v H' => ∃ c, v = .bl c ∧ DB X.K H QB c H' :=
  h.go (H0 := H) S R fun v H1 y M1 i1 R1 t1 q1 => q1.go (H0 := H1) (S.mono i1) R1 fun u H2 x M2 i2 R2 t2 q2 => by
    have t1' := Tp.mono i2 _ _ t1
    cases t2 <;> first | exact False.elim q2 | skip
    case ref a =>
      obtain ⟨kvs, k, ea, rfl, q⟩ := q2
      obtain ⟨_, eh, us, rfl, hk⟩ := R2 a _ ea
      obtain rfl := tp_kD t1'
      exact ⟨a, _, rfl, DGet.k eh, _, rfl, i1.trans i2, M2, R2, by rw [hk.isSome]; exact q⟩
theorem t_din (hr : ∃ k, Room k X.A) (h : ES X i σ M fun y M1 => ES X o σ M1 fun x M2 => RDIn false y x M2 (QBl QB)) (hm : behindInMarks .In o = false := by rfl) : TT3 X (.Compare i [.In] [o] pos) σ M QB :=
  TT3.of (pt_cmp (pc_din (by have := hr.choose_spec.units; omega) pe_sem pe_sem) hm) fun σv H S R => din_go h S R
theorem t_dnin (hr : ∃ k, Room k X.A) (h : ES X i σ M fun y M1 => ES X o σ M1 fun x M2 => RDIn true y x M2 (QBl QB)) (hm : behindInMarks .NotIn o = false := by rfl) : TT3 X (.Compare i [.NotIn] [o] pos) σ M QB :=
  TT3.of (pt_cmp (pc_dnotin (by have := hr.choose_spec.units; omega) pe_sem pe_sem) hm) fun σv H S R => dnin_go h S R
/-- d[k] = v: v first, then d, k -/
def RDPut (x y v : D) (M : Mp) (Q : Mp → Prop) : Prop := match x with
  | .ref a => ∃ kvs k, M a = some (.dK kvs) ∧ y = kD k ∧ kvs.length < sizeLine ∧ SetM M a (.dK (putD kvs k v)) Q
  | _ => False
theorem s_dput (hr : ∃ k, Room k X.A) (h : ES X value σ M fun v M1 => ES X o σ M1 fun x M2 => ES X i σ M2 fun y M3 => RDPut x y v M3 fun M4 => E.nx σ M4) (hs : swapsWith value (some (.Subscript o i pos')) pos.line X.env = pure false := by rfl) : SS X (.Assign [.Subscript o i pos'] value pos) σ M E :=
  SS.of (ps_dput (by have := hr.choose_spec.units; omega) pe_sem pe_sem pe_sem hs) fun σv H S R => h.go (H0 := H) S R fun v H1 d M1 i1 R1 t1 q1 => q1.go (H0 := H1) (S.mono i1) R1 fun u H2 x M2 i2 R2 t2 q2 => q2.go (H0 := H2) ((S.mono i1).mono i2) R2 fun ky H3 y M3 i3 R3 t3 q3 => by
    have t2' := Tp.mono i3 _ _ t2
    cases t2' <;> first | exact False.elim q3 | skip
    case ref a =>
      obtain ⟨kvs, k, ea, rfl, hl, q⟩ := q3
      obtain ⟨_, eh, us, rfl, hk⟩ := R3 a _ ea
      obtain rfl := tp_kD t3
      have im : Imm H3 (upd H3 a (.dK (putK us k v))) := Imm.set eh (fun z => z)
      have ii := (i1.trans i2).trans i3
      exact ⟨a, _, rfl, DPut.k eh (by rw [hk.length]; exact hl), ii.trans im, σ, _, S.mono (ii.trans im), R3.set (m := .dK (putD kvs k d)) eh (fun z => z) ⟨_, rfl, (hk.mono im).put (Tp.mono ((i2.trans i3).trans im) _ _ t1)⟩, SetM.at q⟩
/-- del d[k] -/
def RDDel (x y : D) (M : Mp) (Q : Mp → Prop) : Prop := match x with
  | .ref a => ∃ kvs k, M a = some (.dK kvs) ∧ y = kD k ∧ (valD kvs k).isSome = true ∧ SetM M a (.dK (dropD kvs k)) Q
  | _ => False
theorem s_ddel (h : ES X o σ M fun x M1 => ES X i σ M1 fun y M2 => RDDel x y M2 fun M3 => E.nx σ M3) : SS X (.Delete [.Subscript o i tpos] pos) σ M E :=
  SS.of (ps_ddel pe_sem pe_sem) fun σv H S R => h.go (H0 := H) S R fun v H1 x M1 i1 R1 t1 q1 => q1.go (H0 := H1) (S.mono i1) R1 fun u H2 y M2 i2 R2 t2 q2 => by
    have t1' := Tp.mono i2 _ _ t1
    cases t1' <;> first | exact False.elim q2 | skip
    case ref a =>
      obtain ⟨kvs, k, ea, rfl, hk', q⟩ := q2
      obtain ⟨_, eh, us, rfl, hk⟩ := R2 a _ ea
      obtain rfl := tp_kD t2
      have im : Imm H2 (upd H2 a (.dK (dropK us k))) := Imm.set eh (fun z => z)
      have ii := (i1.trans i2).trans im
      exact ⟨a, us, k, rfl, eh, rfl, by rw [hk.isSome]; exact hk', ii, σ, _, S.mono ii, R2.set (m := .dK (dropD kvs k)) eh (fun z => z) ⟨_, rfl, (hk.mono im).drop⟩, SetM.at q⟩
/-- list(d) -/
def RListD : RA3 := fun ds M Q => match ds with
  | [.ref a] => ∃ kvs : List (Key × D), M a = some (.dK kvs) ∧ NewM M (.lst (kvs.map fun kv => kD kv.1)) fun p M' => Q (.ref p) M'
  | _ => False
theorem rd_listD {K : PySem.W.Frag} : RDA K rListD RListD := by
  intro H0 H M vs ds Q Q' i R t k q
  match ds, t, q with
  | [.ref a], t, q =>
    obtain ⟨v, rfl, r⟩ := t.one
    obtain ⟨kvs, e, q⟩ := q
    obtain ⟨_, ea, us, rfl, ha⟩ := R a _ e
    cases r
    exact ⟨a, us, rfl, ea, fun p hp => new_lst i R (tps_keys ha) k q p hp⟩
theorem e_listD (hm : X.mg "list" = none) (h : AS X [e] σ M fun ds M1 => RListD ds M1 Q) (hc : X.calm = true := by rfl) (hg : Gl X "list" := by rfl) (he : starEach [e] X.env = (false, eval e X.env) :: starEach [] X.env := by rfl) : ES X (.Call (.Name "list" p) [e] [] pos) σ M Q := e_ct (call_list_dK hc) rd_listD hm (by decide +kernel) h hg (by decide) (by decide) he rfl
/-- len(d) -/
def RLenD : RA3 := fun ds M Q => match ds with
  | [.ref a] => ∃ kvs : List (Key × D), M a = some (.dK kvs) ∧ Q (.int kvs.length) M
  | _ => False
theorem rd_lenD {K : PySem.W.Frag} : RDA K (fun xs H Q => ∃ a kvs, xs = [V.ref a] ∧ H a = some (.dK kvs) ∧ Q (.int kvs.length) H) RLenD := by
  intro H0 H M vs ds Q Q' i R t k q
  match ds, t, q with
  | [.ref a], t, q =>
    obtain ⟨v, rfl, r⟩ := t.one
    obtain ⟨kvs, e, q⟩ := q
    obtain ⟨_, ea, us, rfl, ha⟩ := R a _ e
    cases r
    exact ⟨a, us, rfl, ea, k _ _ _ _ i R (.int _) (by rw [ha.length]; exact q)⟩
theorem e_lenD (hm : X.mg "len" = none) (h : AS X [e] σ M fun ds M1 => RLenD ds M1 Q) (hg : Gl X "len" := by rfl) (he : starEach [e] X.env = (false, eval e X.env) :: starEach [] X.env := by rfl) : ES X (.Call (.Name "len" p) [e] [] pos) σ M Q := e_cb call_lenD rd_lenD hm PySem.boot_len h hg (by decide) (by decide) he rfl
/-- list(d.items()) -/
def RItemsL : D → Mp → QD → Prop := fun x M Q => match x with
  | .ref a => ∃ kvs : List (Key × D), M a = some (.dK kvs) ∧ NewM M (.lst (kvs.map fun kv => .tup [kD kv.1, kv.2])) fun p M' => Q (.ref p) M'
  | _ => False
theorem tps_items {K : PySem.W.Frag} {H : Hp} : ∀ {ts : List Addr} {vs : List (Key × V)} {ds : List (Key × D)}, Paired (fun (t : Addr) (q : Key × V) => H t = some (.tup [kV q.1, q.2])) ts vs → KVs K H vs ds → Tps K H (ts.map V.ref) (ds.map fun kv => .tup [kD kv.1, kv.2])
  | [], [], [], .nil, .nil => .nil
  | _ :: _, (k, _) :: _, (_, _) :: _, .cons h t, .cons r s => .cons (.tup (SqT.of h) (.cons (tp_kV k) (.cons r .nil))) (tps_items t s)
theorem e_listItems (hm : X.mg "list" = none) (h : ES X e σ M fun x M1 => RItemsL x M1 Q) (hc : X.calm = true := by rfl) (hg : Gl X "list" := by rfl) (hbase : attributeBase e "items" X.env (eval e X.env) = eval e X.env := by rfl) (hline : (apos.endLine == cpos.line) = true := by rfl)
    (hs : starEach [.Call (.Attribute e "items" apos) [] [] cpos] X.env = (false, eval (.Call (.Attribute e "items" apos) [] [] cpos) X.env) :: starEach [] X.env := by rfl) : ES X (.Call (.Name "list" p) [.Call (.Attribute e "items" apos) [] [] cpos] [] pos) σ M Q :=
  ES.of (LiI.pe_listItems hc pe_sem hg hm (by decide +kernel) hbase hline hs) fun σv H S R => h.go (H0 := H) S R fun v H1 x M1 i1 R1 t1 q1 => by
    cases t1 <;> first | exact False.elim q1 | skip
    case ref a =>
      obtain ⟨kvs, e, q⟩ := q1
      obtain ⟨_, ea, us, rfl, ha⟩ := R1 a _ e
      refine ⟨a, us, rfl, ea, fun H' p ts hK hp ht hpt hl hpr => ?_⟩
      have im : Imm H1 H' := fun b o eb _ => hK b o eb
      have R' : RelM X.K (updM M1 p (.lst (kvs.map fun kv => .tup [kD kv.1, kv.2]))) H' := fun b m eb => by
        by_cases hb : b = p
        · subst hb
          rw [updM_same] at eb
          cases eb
          exact ⟨_, hl, _, rfl, tps_items hpr (ha.mono im)⟩
        · rw [updM_ne hb] at eb
          obtain ⟨o, eo, ro⟩ := R1 b m eb
          exact ⟨o, hK b o eo, ro.mono im⟩
      exact ⟨i1.trans im, _, _, R', .ref p, NewM.at q (R1.fresh hp)⟩
end
end DL
set_option maxHeartbeats 1000000
namespace DL
open PySem L2 PySem.Spec PyProof.Rows
/-! calls with keywords, defs that may raise -/
def tK (X : Cx) (kws : List Keyword) : TA := fun σ H Q => ∀ pos pins s, Inv X pins σ H s → wpAny (model X.prog X.w) X.A (evalAll ((backToKw pos (keywordEach kws X.env)).map (·.2))) (AP X pins σ Q) X.xe s
structure KS (X : Cx) (kws : List Keyword) (σ : Sd) (M : Mp) (Q : List D → Mp → Prop) : Prop where
  run : ∀ σv H, Slots X.K H σv σ → RelM X.K M H → tK X kws σv H (DA X.K H Q)
section
variable {X : Cx} {e : Expr} {es : List Expr} {kws : List Keyword} {σ : Sd} {M : Mp} {Q : QD} {QA : List D → Mp → Prop} {W : WD} {pos p kpos : Pos} {nm : Option Str} {x : Str} {k : Nat} {ps ks : List Str}
theorem pk_sem : PK X kws (tK X kws) := ⟨fun pos pins s σ H Q I h => h pos pins s I⟩
theorem KS.of {t : TA} (h : PK X kws t) (q : ∀ σv H, Slots X.K H σv σ → RelM X.K M H → t σv H (DA X.K H QA)) : KS X kws σ M QA := ⟨fun σv H S R pos pins s I => h.run pos pins s σv H _ I (q σv H S R)⟩
theorem KS.go {H : Hp} {σv : L2.St} {Q' : List V → Hp → Prop} (h : KS X kws σ M QA) (S : Slots X.K H σv σ) (R : RelM X.K M H)
    (k : ∀ v H1 d M1, Imm H H1 → RelM X.K M1 H1 → Tps X.K H1 v d → QA d M1 → Q' v H1) : tK X kws σv H Q' := fun pos pins s I =>
  thn (h.run σv H S R pos pins s I) fun us s' ⟨vs, H', I', r, i, d, M1, R1, t, q⟩ => ⟨vs, H', I', r, k vs H' d M1 i R1 t q⟩
theorem k_nil (q : QA [] M) : KS X [] σ M QA := KS.of pk_nil fun σv H S R => ⟨Imm.refl H, [], M, R, .nil, q⟩
theorem k_cons (h : ES X e σ M fun d M1 => KS X kws σ M1 fun ds M2 => QA (d :: ds) M2) : KS X (⟨nm, e, kpos⟩ :: kws) σ M QA :=
  KS.of (pk_cons pe_sem pk_sem) fun σv H S R => h.go (H0 := H) S R fun v H1 d M1 i1 R1 t1 q1 => q1.go (S.mono i1) R1 fun vs H2 ds M2 i2 R2 t2 q2 => ⟨i1.trans i2, d :: ds, M2, R2, .cons (Tp.mono i2 _ _ t1) t2, q2⟩
/-- n positional values, then the keywords' in their order -/
def gN {α : Type} (n : Nat) (us ws : List α) : List α := if us.length = n then us ++ ws else []
theorem gN_eq {α : Type} {n : Nat} {us ws : List α} (h : us.length = n) : gN n us ws = us ++ ws := if_pos h
def KB (K : PySem.W.Frag) (fd : FuncData) (ps ks : List Str) (n : Nat) : Prop := KBinds K fd ps ks (gN n) (gN n)
theorem kb_of {K : PySem.W.Frag} {fd : FuncData} {ps ks : List Str} {n : Nat} (h0 : 0 < ps.length) (h : ∀ (s : Shared) (us ws : List Value), us.length = n → (us ++ ws).length = ps.length → BindsTo s fd ⟨us, ks.zip ws⟩ (ps.zip (us ++ ws))) : KB K fd ps ks n :=
  ⟨fun s us ws _ hl => by
    by_cases e : us.length = n
    · rw [gN_eq e] at hl ⊢
      exact h s us ws e hl
    · unfold gN at hl
      rw [if_neg e] at hl
      exact absurd hl (by rw [List.length_nil]; omega), fun {vs us zs ws} r1 r2 => by
    unfold gN
    rw [r1.length]
    split
    · exact r1.append r2
    · exact .nil⟩
theorem kb_fun {K : PySem.W.Frag} {x qual : Str} {st : Stmt} {f : Addr} {fd : FuncData} {ps ks : List Str} {n : Nat} (F : Fun K x qual st f fd) (h0 : 0 < ps.length)
    (h : ∀ (kV doc pm : Value) (an : Option Addr) (cdv ct : Value) (us ws : List Value), us.length = n → (us ++ ws).length = ps.length → bindArgs (PySem.W.fnOf x qual (defArgs st) (defBody st) (defScope st) .none kV doc pm an cdv ct) ⟨us, ks.zip ws⟩ = pure (ps.zip (us ++ ws))) : KB K fd ps ks n := by
  obtain ⟨oc, od, kV, doc, pm, an, cdv, ct, osl, rfl, lk, hcd⟩ := F.ex
  exact kb_of h0 fun s us ws h1 h2 => .of_eq (h kV doc pm an cdv ct us ws h1 h2)
/-- a def of the module that may raise, called with keywords ks -/
def CalleeKX (P : Program) (w : World) (K : PySem.W.Frag) (mg : Str → Option Value) (base : Heap) (x : Str) (k : Nat) (ps ks : List Str) (n : Nat) (sp4 : Sp4) : Prop :=
  ∃ f fd, FnOk P w K mg base (L2.CX P w) k f fd ps (spX K sp4) ∧ mg x = some (.ref f) ∧ PySem.W.keepIn K (.ref f) = true ∧ KB K fd ps ks n
def CalleeK (P : Program) (w : World) (K : PySem.W.Frag) (mg : Str → Option Value) (base : Heap) (x : Str) (k : Nat) (ps ks : List Str) (n : Nat) (sp3 : Sp3) : Prop :=
  ∃ f fd, FnOk P w K mg base CX0 k f fd ps (spD K sp3) ∧ mg x = some (.ref f) ∧ PySem.W.keepIn K (.ref f) = true ∧ KB K fd ps ks n
def tCallKS (n : Nat) (sp : Sp) (E : L2.St → XK) (t tk : TA) : TE := fun σ H Q => t σ H fun vs H1 => tk σ H1 fun zs H2 => sp (gN n vs zs) H2 Q (E σ)
theorem run_fnKS {n : Nat} {CX : CXT} {f : Addr} {fd : FuncData} {sp : Sp} {E : L2.St → XK} {σ : L2.St} {pins : List (Addr × Obj)} {H : Hp} {s : Shared} {Q : VK} {us ws : List Value} {vs zs : List V} (F : FnOk X.prog X.w X.K X.mg X.base CX k f fd ps sp) (hr : Room k X.A) (hb : KB X.K fd ps ks n) (hx : PassesAt CX X σ (E σ))
    (I : Inv X pins σ H s) (r : Vals vs us) (rz : Vals zs ws) (h : sp (gN n vs zs) H Q (E σ)) : wpAny (model X.prog X.w) X.A (call (.ref f) us (ks.zip ws)) (EP X pins σ Q) X.xe s := by
  have r2 := hb.rel r rz
  have hl : (gN n us ws).length = ps.length := by rw [← r2.length]; exact F.len _ _ _ _ h
  refine wpAny_call (codeAny_mono (F.run X.A X.stack s H ⟨us, ks.zip ws⟩ (gN n us ws) (gN n vs zs) Q (E σ) hr I.env0 (hb.to s us ws I.kIn hl) r2 h) fun r s' hq => ?_)
  cases r with
  | error e => exact hx pins H s e s' I hq
  | ok fl =>
    cases fl with
    | ret u => exact I.after hq
    | next => exact False.elim hq
    | brk => exact False.elim hq
    | cont => exact False.elim hq
theorem pe_callKS {n : Nat} {CX : CXT} {f : Addr} {fd : FuncData} {sp : Sp} {E : L2.St → XK} {t tk : TA} (F : FnOk X.prog X.w X.K X.mg X.base CX k f fd ps sp) (hr : Room k X.A) (hg : Gl X x) (hm : X.mg x = some (.ref f)) (hk : PySem.W.keepIn X.K (.ref f) = true) (hb : KB X.K fd ps ks n) (hx : ∀ σ, PassesAt CX X σ (E σ))
    (ha : PA X (e :: es) t) (hkw : PK X kws tk) (hall : (backToKw pos (keywordEach kws X.env)).all (·.1.isSome) = true) (hks : (backToKw pos (keywordEach kws X.env)).filterMap (·.1) = ks)
    (hdb : (x == ("__debug__" : Str)) = false) (he : starEach (e :: es) X.env = (false, eval e X.env) :: starEach es X.env)
    (hpl : ((backTo pos (starEach (e :: es) X.env)).any (·.1) || (backToKw pos (keywordEach kws X.env)).any (·.1.isNone)) = false) :
    PE X (.Call (.Name x p) (e :: es) kws pos) (tCallKS n sp E t tk) := by
  refine ⟨fun pins s σ H Q I h => ?_⟩
  refine wpAny_Call_Name_kw (ld_glob I hg hm ?_ hdb)
  refine PySem.W.callWith_KW (h₀ := X.base) I.ok.mod.kin hk hall (thn (ha.run pos pins s σ H _ I h) fun us s1 ⟨vs, H1, I1, r, q⟩ => ?_) hpl he
  refine thn (hkw.run pos pins s1 σ H1 _ I1 q) fun ws s2 ⟨zs, H2, I2, rz, q2⟩ => ⟨I2.kIn, ?_⟩
  rw [hks]
  exact run_fnKS F hr hb (hx σ) I2 r rz q2
theorem Tps.appD {K : PySem.W.Frag} {H : Hp} {vs us : List V} {ds es : List D} (h : Tps K H vs ds) (h2 : Tps K H us es) : Tps K H (vs ++ us) (ds ++ es) := h.append h2
theorem e_callKX {n : Nat} {sp4 : Sp4} (tk : TkD X W) (C : CalleeKX X.prog X.w X.K X.mg X.base x k ps ks n sp4) (hr : Room k X.A) (h : AS X (e :: es) σ M fun ds M1 => KS X kws σ M1 fun zs M2 => ∀ N, Mle M2 N → ds.length = n ∧ sp4 (ds ++ zs) N Q fun cls d M' => FixLe N M' ∧ W cls d σ M') (hg : Gl X x := by rfl) (hdb : (x == ("__debug__" : Str)) = false := by decide)
    (hall : (backToKw pos (keywordEach kws X.env)).all (·.1.isSome) = true := by rfl) (hks : (backToKw pos (keywordEach kws X.env)).filterMap (·.1) = ks := by rfl)
    (he : starEach (e :: es) X.env = (false, eval e X.env) :: starEach es X.env := by rfl) (hpl : ((backTo pos (starEach (e :: es) X.env)).any (·.1) || (backToKw pos (keywordEach kws X.env)).any (·.1.isNone)) = false := by rfl) : ES X (.Call (.Name x p) (e :: es) kws pos) σ M Q := by
  obtain ⟨f, fd, F, hm, hk, hb⟩ := C
  obtain ⟨Wv, tkv, hW⟩ := tk
  refine ES.of (pe_callKS F hr hg hm hk hb (fun σ => passAt tkv σ) pa_sem pk_sem hall hks hdb he hpl) fun σv H S R => h.go S R fun vs H1 ds M1 i1 R1 t1 q1 => q1.go (S.mono i1) R1 fun zs H2 dz M2 i2 R2 t2 q2 => ?_
  rw [gN_eq (by rw [t1.length]; exact (q2 M2 (Mle.refl M2)).1)]
  exact ⟨ds ++ dz, plus M2 H2, Q, _, (Tps.mono i2 _ _ t1).append t2, plus_rel R2, (q2 _ plus_le).2, fun v H3 d M3 i3 R3 t3 q3 => ⟨(i1.trans i2).trans i3, d, M3, R3, t3, q3⟩, fun cls d H' M' R' ⟨fx, w⟩ => hW cls d σv H' σ M' (S.mono ((i1.trans i2).trans (imm_of R2 fx R'))) R' w⟩
theorem e_callK {n : Nat} {sp3 : Sp3} (C : CalleeK X.prog X.w X.K X.mg X.base x k ps ks n sp3) (hr : Room k X.A) (h : AS X (e :: es) σ M fun ds M1 => KS X kws σ M1 fun zs M2 => ds.length = n ∧ sp3 (ds ++ zs) M2 Q) (hg : Gl X x := by rfl) (hdb : (x == ("__debug__" : Str)) = false := by decide)
    (hall : (backToKw pos (keywordEach kws X.env)).all (·.1.isSome) = true := by rfl) (hks : (backToKw pos (keywordEach kws X.env)).filterMap (·.1) = ks := by rfl)
    (he : starEach (e :: es) X.env = (false, eval e X.env) :: starEach es X.env := by rfl) (hpl : ((backTo pos (starEach (e :: es) X.env)).any (·.1) || (backToKw pos (keywordEach kws X.env)).any (·.1.isNone)) = false := by rfl) : ES X (.Call (.Name x p) (e :: es) kws pos) σ M Q := by
  obtain ⟨f, fd, F, hm, hk, hb⟩ := C
  refine ES.of (pe_callK F hr hg hm hk hb pass0 pa_sem pk_sem hall hks hdb he hpl) fun σv H S R => h.go S R fun vs H1 ds M1 i1 R1 t1 q1 => q1.go (S.mono i1) R1 fun zs H2 dz M2 i2 R2 t2 q2 => ?_
  rw [gN_eq (by rw [t1.length]; exact q2.1)]
  exact ⟨ds ++ dz, M2, Q, (Tps.mono i2 _ _ t1).append t2, R2, q2.2, fun v H3 d M3 i3 R3 t3 q3 => ⟨(i1.trans i2).trans i3, d, M3, R3, t3, q3⟩⟩
theorem calleeKX {P : Program} {w : World} {K : PySem.W.Frag} {mg : Str → Option Value} {base : Heap} {N ps ks : List Str} {x qual : Str} {st : Stmt} {f : Addr} {fd : FuncData} {k n : Nat} {sp4 : Sp4}
    (F : Fun K x qual st f fd) (S : FnScope N ps (defScope st)) (hm : mg x = some (.ref f)) (hb : KB K fd ps ks n) (len : ∀ ds M Q Ex, sp4 ds M Q Ex → ds.length = ps.length)
    (body : ∀ (cdv : Value) (A : Around) (outer : List Env) (s : Shared) (H : Hp) (E : XK), Room k (A.deeper (envOfC qual (defScope st) s.heap.objs.size f cdv)) → ∀ ds M Q (Ex : E3), sp4 ds M Q Ex →
      TkD (cxOf (L2.CX P w) P w K mg base N qual (defScope st) f cdv A outer s H E) (fun cls d _ M' => Ex cls d M') →
      SSs (cxOf (L2.CX P w) P w K mg base N qual (defScope st) f cdv A outer s H E) (defBody st) (startD N ds) M { nx := fun _ M' => Wk Q .non M', rt := Wk Q }) : CalleeKX P w K mg base x (k + 1) ps ks n sp4 := ⟨f, fd, fnX F S len body, hm, F.kp, hb⟩
theorem calleeK {P : Program} {w : World} {K : PySem.W.Frag} {mg : Str → Option Value} {base : Heap} {N ps ks : List Str} {x qual : Str} {st : Stmt} {f : Addr} {fd : FuncData} {k n : Nat} {sp3 : Sp3}
    (F : Fun K x qual st f fd) (S : FnScope N ps (defScope st)) (hm : mg x = some (.ref f)) (hb : KB K fd ps ks n) (len : ∀ ds M Q, sp3 ds M Q → ds.length = ps.length)
    (body : ∀ (cdv : Value) (A : Around) (outer : List Env) (s : Shared) (H : Hp) (E : XK), Room k (A.deeper (envOfC qual (defScope st) s.heap.objs.size f cdv)) → ∀ ds M Q, sp3 ds M Q →
      SSs (cxOf CX0 P w K mg base N qual (defScope st) f cdv A outer s H E).nox (defBody st) (startD N ds) M { nx := fun _ M' => Wk Q .non M', rt := Wk Q }) : CalleeK P w K mg base x (k + 1) ps ks n sp3 := ⟨f, fd, fn3 F S len body, hm, F.kp, hb⟩
end
end DL
set_option maxHeartbeats 1000000
namespace DL
open PySem L2 PySem.Spec PyProof.Rows
/-! try: several except clauses, with or without a name -/
abbrev ClT := Value × Option Nat × (Addr → Value → Option Addr → TS)
def setN (i : Option Nat) (a : Addr) (σ : L2.St) : L2.St := match i with
  | none => σ
  | some i => σ.set i (some (.ref a))
def goneN (i : Option Nat) (σ : L2.St) : L2.St := match i with
  | none => σ
  | some i => σ.set i none
def endsN (i : Option Nat) (D : Ends) : Ends := { nx := fun σ H => D.nx (goneN i σ) H, rt := D.rt, bk := fun σ H => D.bk (goneN i σ) H, ct := fun σ H => D.ct (goneN i σ) H }
/-- what the clauses, one after the other, wish of an exception of the body -/
def wCl (K : PySem.W.Frag) (Wout : WX) (D : Ends) : List ClT → WX
  | [] => Wout
  | c :: r => fun cls d σ H => ∃ b, PySem.W.exmOne K cls c.1 = some b ∧ (b = true → ∀ a, H a = none → c.2.2 a cls d (endsN c.2.1 D) (setN c.2.1 a σ) H) ∧ (b = false → wCl K Wout D r cls d σ H)
/-- the exception a, landed in the frame that catches it -/
structure Landed (X : Cx) (pins : List (Addr × Obj)) (σ : L2.St) (H : Hp) (a : Addr) (cls : Value) (d : Option Addr) (B : Heap) (sI s : Shared) : Prop where
  before : Inv X pins σ H sI
  now : Inv X pins σ H s
  old : ∀ b o, sI.heap.get? b = some o → b ∉ frs X.stack → B.get? b = some o
  up : sI.heap.UpToSlots s.heap
  fly : HandSPX.FlyingZ B (X.env :: X.outer) a (Zc cls d) s.heap
  out : H a = none
  os : s.os = sI.os
  bare : AllBare s.gens
section
variable {X : Cx} {pins : List (Addr × Obj)} {σ : L2.St} {H : Hp} {a : Addr} {cls : Value} {d : Option Addr} {B : Heap} {sI s : Shared}
theorem Landed.there (l : Landed X pins σ H a cls d B sI s) (hf : X.env.frame = some X.env.locals) : ∃ oe vs, s.heap.get? a = some oe ∧ Zc cls d oe ∧ oe.data = .fields vs ∧ a ≠ X.env.locals ∧ a ∉ X.fs := by
  obtain ⟨oe, vs, he, hz, hd⟩ := l.fly.there
  have off : a ∉ frs (X.env :: X.outer) := fun hm => by
    obtain ⟨_, o', e', hno⟩ := l.fly.2.2.1.mem hm
    rw [he] at e'
    cases e'
    exact hno _ hd
  refine ⟨oe, vs, he, hz, hd, fun z => off (List.mem_filterMap.mpr ⟨X.env, List.mem_cons_self, by rw [hf, z]⟩), fun hm => ?_⟩
  obtain ⟨e, h1, h2⟩ := List.mem_filterMap.mp hm
  exact off (List.mem_filterMap.mpr ⟨e, List.mem_cons_of_mem _ h1, h2⟩)
theorem Landed.suite (l : Landed X pins σ H a cls d B sI s) (hf : X.env.frame = some X.env.locals) : ∃ oe, Zc cls d oe ∧ (∃ vs, oe.data = .fields vs) ∧ s.heap.get? a = some oe ∧ Inv (X.suite a ((a, oe) :: (X.pn ++ pins))) [] σ H s := by
  obtain ⟨oe, vs, he, hz, hd, n1, n2⟩ := l.there hf
  exact ⟨oe, hz, ⟨vs, hd⟩, he, l.now.suite he hd l.out n1 n2⟩
/-- the clause's test -/
theorem Landed.test {x : Str} {c : Value} {b : Bool} {np : Pos} {Q : Bool → Shared → Prop} {E : Value → Shared → Prop} (l : Landed X pins σ H a cls d B sI s) (hf : X.env.frame = some X.env.locals) (hc : Names X x c) (hb : PySem.W.exmOne X.K cls c = some b) (q : Q b s) :
    wpAny (model X.prog X.w) (X.A.mark (some (.ref a))) (eval (.Name x np) X.env) (fun cv s1 => wpAny (model X.prog X.w) (X.A.mark (some (.ref a))) (excMatches (.ref a) cv) Q E s1) E s := by
  obtain ⟨oe, hz, _, he, I⟩ := l.suite hf
  have ty : PySem.W.Looks (model X.prog X.w) s.heap (typeOf (.ref a)) cls := fun A Q E s2 k q2 => wpAny_typeOf_ref (k _ _ he) (by rw [hz.1]; exact q2)
  have go : wpAny (model X.prog X.w) (X.A.mark (some (.ref a))) (excMatches (.ref a) c) Q E s := (PySem.W.exm_one (M := model X.prog X.w) l.now.kIn ty hb).here q
  obtain ⟨hg, hdb, hm | ⟨hm, hv, hn⟩⟩ := hc
  · exact ld_glob (X := X.suite a ((a, oe) :: (X.pn ++ pins))) I hg hm go hdb
  · exact ld_blt (X := X.suite a ((a, oe) :: (X.pn ++ pins))) I hg hm hv go hn hdb
/-- no clause fits -/
theorem Landed.on {Wout : WX} {D : Ends} (l : Landed X pins σ H a cls d B sI s) (hs : X.stack = X.env :: X.outer) (hf : X.env.frame = some X.env.locals) (tk : Takes X Wout) (w : Wout cls d σ H) :
    wpAny (model X.prog X.w) X.A (handleBy (.ref a) X.env []) (SP X pins D) X.xe s := by
  refine wpAny_handleBy_nil ?_
  obtain ⟨_, _, _, oe, vs, T, _, _, he, _, hd, h1, _⟩ := id l.fly
  unfold PySem.passOn
  refine wpAny_bind (wpAny_field he hd h1 ?_)
  rw [if_neg (by simp : ¬ (Value.ref T == Value.none) = true)]
  have last : wpAny (model X.prog X.w) X.A (setFlight (.ref a) X.env.frame) (fun _ s2 => wpAny (model X.prog X.w) X.A (throw (.ref a) : Sem Flow) (SP X pins D) X.xe s2) X.xe s := by
    rw [hf]
    exact HandSPX.setFlight_upZ l.fly fun h4 fl4 up4 => wpAny_throw (tk _ _ ⟨a, B, sI, pins, σ, H, cls, d, rfl, l.before, l.old, l.up.trans up4, .inr (.inr (by rw [hs]; exact fl4)), l.out, l.os, l.bare, w⟩)
  first
    | exact wpAny_bind (wpAny_pure (wpAny_bind last))
    | exact wpAny_bind last
theorem Landed.again {h4 : Heap} (l : Landed X pins σ H a cls d B sI s) (f : HandSPX.FlyingZ B (X.env :: X.outer) a (Zc cls d) h4) (u : s.heap.UpToSlots h4) : Landed X pins σ H a cls d B sI { s with heap := h4 } :=
  ⟨l.before, l.before.landed (s' := { s with heap := h4 }) l.old f.1 (l.up.trans u) l.os l.bare, l.old, l.up.trans u, f, l.out, l.os, l.bare⟩
end
inductive HdCl (X : Cx) : List ExceptHandler → List ClT → Prop
  | nil : HdCl X [] []
  | bare {x : Str} {c : Value} {ts : Addr → Value → Option Addr → TS} {b₀ : Stmt} {suite : List Stmt} {np pos' : Pos} {hds : List ExceptHandler} {l : List ClT} (hc : Names X x c)
      (hsu : ∀ (a : Addr) (oe : Obj) (cls : Value) (d : Option Addr) (pn : List (Addr × Obj)), Zc cls d oe → (∃ vs, oe.data = .fields vs) → PSs (X.suite a ((a, oe) :: pn)) (b₀ :: suite) (ts a cls d)) (r : HdCl X hds l) :
      HdCl X (.ExceptHandler (some (.Name x np)) none (b₀ :: suite) pos' :: hds) ((c, none, ts) :: l)
  | named {x n : Str} {c : Value} {i : Nat} {ts : Addr → Value → Option Addr → TS} {b₀ : Stmt} {suite : List Stmt} {np pos' : Pos} {hds : List ExceptHandler} {l : List ClT} (hN : X.N.Nodup) (hi : X.N[i]? = some n) (hln : X.env.kindOf n = some .local) (hc : Names X x c)
      (hsu : ∀ (a : Addr) (oe : Obj) (cls : Value) (d : Option Addr) (pn : List (Addr × Obj)), Zc cls d oe → (∃ vs, oe.data = .fields vs) → PSs (X.suite a ((a, oe) :: pn)) (b₀ :: suite) (ts a cls d)) (r : HdCl X hds l) :
      HdCl X (.ExceptHandler (some (.Name x np)) (some n) (b₀ :: suite) pos' :: hds) ((c, some i, ts) :: l)
theorem clauses {X : Cx} {pins : List (Addr × Obj)} {σ : L2.St} {H : Hp} {a : Addr} {cls : Value} {d : Option Addr} {B : Heap} {sI s : Shared} {Wout : WX} {D : Ends} (hs : X.stack = X.env :: X.outer) (hf : X.env.frame = some X.env.locals) (tk : Takes X Wout) (l : Landed X pins σ H a cls d B sI s) :
    ∀ {hds : List ExceptHandler} {cl : List ClT}, HdCl X hds cl → wCl X.K Wout D cl cls d σ H → wpAny (model X.prog X.w) X.A (handleBy (.ref a) X.env hds) (SP X pins D) X.xe s := by
  intro hds cl hk
  induction hk with
  | nil => exact fun w => l.on hs hf tk w
  | @bare x c ts b₀ suite np pos' hds cl hc hsu _ ih =>
    rintro ⟨b, hb, yes, no⟩
    refine wpAny_handleBy_cons (codeAny_handlers_test (l.test hf hc hb ?_)) (fun q => nomatch q)
    cases b with
    | false => exact ih (no rfl)
    | true =>
      refine codeAny_handlers_suite (HandSPX.lands_againZ l.fly fun h4 f4 u4 => ?_)
      obtain ⟨oe, hz, hd, _, I4⟩ := (l.again f4 u4).suite hf
      refine wpAny_mono ((hsu a oe cls d (X.pn ++ pins) hz hd).run [] _ σ H (endsN none D) I4 (yes rfl a l.out)) (fun f s6 sp => ?_) (fun _ _ z => z.elim)
      cases f with
      | next => exact let ⟨_, _, J, q⟩ := sp; ⟨_, _, J.unsuite l.now.ok, q⟩
      | brk => exact let ⟨_, _, J, q⟩ := sp; ⟨_, _, J.unsuite l.now.ok, q⟩
      | cont => exact let ⟨_, _, J, q⟩ := sp; ⟨_, _, J.unsuite l.now.ok, q⟩
      | ret u => exact let ⟨_, _, _, J, r, q⟩ := sp; ⟨_, _, _, J.unsuite l.now.ok, r, q⟩
  | @named x n c i ts b₀ suite np pos' hds cl hN hi hln hc hsu _ ih =>
    rintro ⟨b, hb, yes, no⟩
    refine wpAny_handleBy_cons (codeAny_handlers_test (l.test hf hc hb ?_)) (fun q => nomatch q)
    cases b with
    | false => exact ih (no rfl)
    | true =>
      refine codeAny_handlers_suite_as (HandSPX.lands_againZ l.fly fun h4 f4 u4 => ?_)
      obtain ⟨oe, hz, hd, _, I4⟩ := (l.again f4 u4).suite hf
      refine store_ok (X := X.suite a ((a, oe) :: (X.pn ++ pins))) (v := .ref a) I4 hN hi (.inl hln) rfl (fun s5 I5 => ?_) (.inr hln)
      refine wpAny_mono ((hsu a oe cls d (X.pn ++ pins) hz hd).run [] s5 _ H (endsN (some i) D) I5 (yes rfl a l.out)) (fun f s6 sp => ?_) (fun _ _ z => z.elim)
      have bye : ∀ {σ6 : L2.St} {H6 : Hp} {Q : Shared → Prop}, Inv (X.suite a ((a, oe) :: (X.pn ++ pins))) [] σ6 H6 s6 → (∀ s7, Inv X pins (σ6.set i none) H6 s7 → Q s7) →
          wpAny (model X.prog X.w) X.A (do bindName X.env n .none; unbindBehindTheSuite X.env n pos') (fun _ s7 => Q s7) X.xe s6 := fun J hq => gone_ok (J.unsuite l.now.ok) hN hi hln hq
      cases f with
      | next => exact let ⟨_, _, J, q⟩ := sp; bye J fun s7 J7 => ⟨_, _, J7, q⟩
      | brk => exact let ⟨_, _, J, q⟩ := sp; bye J fun s7 J7 => ⟨_, _, J7, q⟩
      | cont => exact let ⟨_, _, J, q⟩ := sp; bye J fun s7 J7 => ⟨_, _, J7, q⟩
      | ret u => exact let ⟨_, _, _, J, r, q⟩ := sp; bye J fun s7 J7 => ⟨_, _, _, J7, r, q⟩
theorem ps_tryCl {X : Cx} {body : List Stmt} {h₀ : ExceptHandler} {hds : List ExceptHandler} {cl : List ClT} {pos : Pos} {tb : WX → TS} {Wout : WX} (hs : X.stack = X.env :: X.outer) (hf : X.env.frame = some X.env.locals) (tk : Takes X Wout)
    (hb : ∀ (W : WX) (pn : List (Addr × Obj)) (xe : Value → Shared → Prop), Takes (X.tr pn xe) W → PSs (X.tr pn xe) body (tb W)) (hh : HdCl X (h₀ :: hds) cl) :
    PS X (.Try body (h₀ :: hds) [] [] pos) (fun D σ H => tb (wCl X.K Wout D cl) D σ H) := by
  refine ⟨fun pins s σ H D I h => wpAny_Try_except ?_⟩
  have ok := I.ok
  have fr : X.A.frames = some (X.env :: X.outer) := by rw [ok.frames, hs]
  refine wpAny_mono ((hb (wCl X.K Wout D cl) (X.pn ++ pins) (fun e s₁ => wpAny (model X.prog X.w) X.A (noteFrame e X.env) (fun _ s₂ => wpAny (model X.prog X.w) X.A (setFlight e none) (fun _ s₃ =>
    wpAny (model X.prog X.w) X.A (handleBy e X.env (h₀ :: hds)) (SP X pins D) X.xe s₃) X.xe s₂) X.xe s₁) ?_).run [] s σ H D (I.toTry _) h) (fun f s1 sp => ?_) (fun _ _ z => z)
  · rintro u s' ⟨a, B, sI, pins', σ', H', cls, d, rfl, J', old, up, sky, out, os, bare, w⟩
    have J : Inv X pins σ' H' sI := J'.ofTry ok
    refine Sky.land Zc.steady fr hf (by rw [← hs]; exact sky) fun h3 fl3 up3 => ?_
    exact clauses hs hf tk ⟨J, J.landed (s' := { s' with heap := h3 }) old fl3.1 (up.trans up3) os bare, old, up.trans up3, fl3, out, os, bare⟩ hh w
  · cases f with
    | next => exact let ⟨_, _, J, q⟩ := sp; wpAny_execs_nil ⟨_, _, J.ofTry ok, q⟩
    | brk => exact let ⟨_, _, J, q⟩ := sp; ⟨_, _, J.ofTry ok, q⟩
    | cont => exact let ⟨_, _, J, q⟩ := sp; ⟨_, _, J.ofTry ok, q⟩
    | ret u => exact let ⟨_, _, _, J, r, q⟩ := sp; ⟨_, _, _, J.ofTry ok, r, q⟩
end DL
set_option maxHeartbeats 1000000
namespace DL
open PySem L2 PySem.Spec PyProof.Rows
abbrev ClD := Value × Option Nat × List Stmt
def setS (i : Option Nat) (a : Addr) (σ : Sd) : Sd := match i with
  | none => σ
  | some i => σ.set i (some (.ref a))
def DE.unsetN (E : DE) (i : Option Nat) : DE := match i with
  | none => E
  | some i => E.unset i
def WClD (X : Cx) (E : DE) (W : WD) (N : Mp) : List ClD → WD
  | [] => fun cls d σ' M' => FixLe N M' ∧ W cls d σ' M'
  | c :: r => fun cls d σ' M' => ∃ b, PySem.W.exmOne X.K cls c.1 = some b ∧ FixLe N M' ∧
    (b = true → ∀ a oe pn, M' a = none → Zc cls d oe → (∃ vs, oe.data = .fields vs) → SSs (X.suite a ((a, oe) :: pn)) c.2.2 (setS c.2.1 a σ') M' (E.unsetN c.2.1)) ∧ (b = false → WClD X E W N r cls d σ' M')
def toCl (X : Cx) (c : ClD) : ClT := (c.1, c.2.1, fun a cls d D σ H => ∀ oe pn, Zc cls d oe → (∃ vs, oe.data = .fields vs) → tSs (X.suite a ((a, oe) :: pn)) c.2.2 D σ H)
inductive HdS (X : Cx) : List ExceptHandler → List ClD → Prop
  | nil : HdS X [] []
  | bare {x : Str} {c : Value} {b₀ : Stmt} {suite : List Stmt} {np pos' : Pos} {hds : List ExceptHandler} {l : List ClD} (hc : Names X x c) (r : HdS X hds l) : HdS X (.ExceptHandler (some (.Name x np)) none (b₀ :: suite) pos' :: hds) ((c, none, b₀ :: suite) :: l)
  | named {x n : Str} {c : Value} {b₀ : Stmt} {suite : List Stmt} {np pos' : Pos} {hds : List ExceptHandler} {l : List ClD} (i : Nat) (hN : X.N.Nodup) (hc : Names X x c) (r : HdS X hds l) (hi : X.N[i]? = some n := by rfl) (hln : X.env.kindOf n = some .local := by rfl) :
      HdS X (.ExceptHandler (some (.Name x np)) (some n) (b₀ :: suite) pos' :: hds) ((c, some i, b₀ :: suite) :: l)
theorem HdS.cl {X : Cx} {hds : List ExceptHandler} {l : List ClD} (h : HdS X hds l) : HdCl X hds (l.map (toCl X)) := by
  induction h with
  | nil => exact .nil
  | bare hc _ ih => exact .bare hc (fun a oe cls d pn hz hd => ⟨fun pins s σ H D I hw => pss_sem.run pins s σ H D I (hw oe pn hz hd)⟩) ih
  | named i hN hc _ hi hln ih => exact .named hN hi hln hc (fun a oe cls d pn hz hd => ⟨fun pins s σ H D I hw => pss_sem.run pins s σ H D I (hw oe pn hz hd)⟩) ih
theorem unsetN_ends {X : Cx} {E : DE} {i : Option Nat} {H H' : Hp} (im : Imm H H') : EndsLe ((E.unsetN i).ends X.K H') (endsN i (E.ends X.K H)) := by
  cases i with
  | none => exact DE.from im
  | some i => exact ⟨fun _ _ q => DN.unset im q, fun _ _ q => DQ.from im q, fun _ _ q => DN.unset im q, fun _ _ q => DN.unset im q⟩
theorem setS_slots {K : PySem.W.Frag} {H : Hp} {σv : L2.St} {σ : Sd} {i : Option Nat} {a : Addr} (S : Slots K H σv σ) : Slots K H (setN i a σv) (setS i a σ) := by
  cases i with
  | none => exact S
  | some i => exact S.set (.ref a) i
theorem wCl_of {X : Cx} {E : DE} {W : WD} {Wv : WX} {M : Mp} {H : Hp} (R : RelM X.K M H) (hW : ∀ cls d σv H σ M, Slots X.K H σv σ → RelM X.K M H → W cls d σ M → Wv cls d σv H) :
    ∀ (l : List ClD) (cls : Value) (d : Option Addr) (σv : L2.St) (H' : Hp) (σ' : Sd) (M' : Mp), Slots X.K H' σv σ' → RelM X.K M' H' → WClD X E W (plus M H) l cls d σ' M' → wCl X.K Wv (E.ends X.K H) (l.map (toCl X)) cls d σv H'
  | [], cls, d, σv, H', σ', M', S, R', w => hW cls d σv H' σ' M' S R' w.2
  | c :: r, cls, d, σv, H', σ', M', S, R', ⟨b, hb, fx, yes, no⟩ => ⟨b, hb, fun e a _ oe pn hz hd => ((yes e a oe pn (R'.fresh ‹_›) hz hd).run _ H' (setS_slots S) R').mono (unsetN_ends (imm_of R fx R')), fun e => wCl_of R hW r cls d σv H' σ' M' S R' (no e)⟩
theorem s_tryCl {X : Cx} {σ : Sd} {M : Mp} {E : DE} {W : WD} {pos : Pos} {body : List Stmt} {h₀ : ExceptHandler} {hds : List ExceptHandler} (cl : List ClD) (hh : HdS X (h₀ :: hds) cl) (tk : TkD X W)
    (h : ∀ N, Mle M N → ∀ pn xe, TkD (X.tr pn xe) (WClD X E W N cl) → SSs (X.tr pn xe) body σ N E)
    (hs : X.stack = X.env :: X.outer := by rfl) (hf : X.env.frame = some X.env.locals := by rfl) : SS X (.Try body (h₀ :: hds) [] [] pos) σ M E := by
  obtain ⟨Wv, tkv, hW⟩ := tk
  refine SS.of (ps_tryCl (tb := fun W' D σ H => ∀ pn xe, Takes (X.tr pn xe) W' → tSs (X.tr pn xe) body D σ H) hs hf tkv (fun W' pn xe t => ⟨fun pins s σ H D I hw => pss_sem.run pins s σ H D I (hw pn xe t)⟩) hh.cl) fun σv H S R pn xe t => ?_
  exact (h (plus M H) plus_le pn xe ⟨_, t, fun cls d σv' H' σ' M' S' R' w => wCl_of R hW cl cls d σv' H' σ' M' S' R' w⟩).run σv H S (plus_rel R)
/-! two lists that differ -/
def RNeL : R3 := fun x y M Q => match x, y with
  | .ref a, .ref b => ∃ xs ys : List D, M a = some (.lst xs) ∧ M b = some (.lst ys) ∧ (D.rol xs).shp = true ∧ (D.rol ys).shp = true ∧ Q (.bl (!D.eqv (.rol xs) (.rol ys))) M
  | _, _ => False
theorem rd_neL {K : PySem.W.Frag} : RD K (rNeD K) RNeL := by
  intro H0 H M vx vy x y Q Q' i R tx ty k q
  cases tx <;> first | exact False.elim q | skip
  case ref a =>
    cases ty <;> first | exact False.elim q | skip
    case ref b =>
      obtain ⟨xs, ys, e1, e2, s1, s2, q⟩ := q
      obtain ⟨_, ea, us, rfl, ha⟩ := R a _ e1
      obtain ⟨_, eb, ws, rfl, hb⟩ := R b _ e2
      unfold D.shp at s1 s2
      rw [Bool.and_eq_true] at s1 s2
      exact ⟨_, _, .lst (SqL.of ea) (Tps.dp _ _ (by simpa only [D.pure] using s1.1) ha), .lst (SqL.of eb) (Tps.dp _ _ (by simpa only [D.pure] using s2.1) hb), s1.2, s2.2, k _ _ _ _ i R (.bl _) q⟩
theorem t_neL {X : Cx} {a b : Expr} {σ : Sd} {M : Mp} {QB : Bool → Mp → Prop} {pos : Pos} (hr : ∃ k, Room k X.A) (h : ES X a σ M fun x M1 => ES X b σ M1 fun y M2 => RNeL x y M2 (QBl QB)) : TT3 X (.Compare a [.NotEq] [b] pos) σ M QB := t_cmp (op_neD hr.choose_spec.units) rd_neL (nomark _) h
theorem t_eqL {X : Cx} {a b : Expr} {σ : Sd} {M : Mp} {QB : Bool → Mp → Prop} {pos : Pos} (hr : ∃ k, Room k X.A) (h : ES X a σ M fun x M1 => ES X b σ M1 fun y M2 => REqL x y M2 (QBl QB)) : TT3 X (.Compare a [.Eq] [b] pos) σ M QB := t_cmp (op_eqD hr.choose_spec.units) rd_eqL (nomark _) h
mutual
theorem py_refl : ∀ d : D, PyData.eqv d.py d.py = true
  | .non => by simp [D.py, PyData.eqv]
  | .bl b => by simp [D.py, PyData.eqv]
  | .int i => by simp [D.py, PyData.eqv]
  | .str x => by simp [D.py, PyData.eqv]
  | .ref _ => by simp [D.py, PyData.eqv]
  | .ty _ => by simp [D.py, PyData.eqv]
  | .tup l => by simpa [D.py, PyData.eqv] using pys_refl l
  | .rol l => by simpa [D.py, PyData.eqv] using pys_refl l
theorem pys_refl : ∀ l : List D, PyData.eqvAll (D.pys l) (D.pys l) = true
  | [] => by simp [D.pys, PyData.eqvAll]
  | d :: r => by simp [D.pys, PyData.eqvAll, py_refl d, pys_refl r]
end
theorem eqv_refl (d : D) : D.eqv d d = true := py_refl d
theorem shp_rol {l : List D} {n : Nat} (h : ∀ d ∈ l, d.shn n = true) (hn : n ≤ 63) : (D.rol l).shp = true := by
  have := shp_tup h hn
  unfold D.shp SeqAt.shaped at this ⊢
  simpa [D.pure, D.py, PyData.canLay0, PyData.depth] using this
end DL
set_option maxHeartbeats 1000000
namespace DL
open PySem L2 PySem.Spec PyProof.Rows
/-! instances: attributes, methods, making -/
def putFD (f : Str) (v : D) : List (Str × D) → List (Str × D)
  | [] => [(f, v)]
  | p :: r => if p.1 = f then (p.1, v) :: r else p :: putFD f v r
theorem KVs.putF {K : PySem.W.Frag} {H : Hp} {f : Str} {y : V} {d : D} (ry : Tp K H y d) : ∀ {vs : List (Str × V)} {ds : List (Str × D)}, KVs K H vs ds → KVs K H (L2.putF f y vs) (putFD f d ds)
  | _, _, .nil => .cons ry .nil
  | _, _, .cons (k := g) (v := v) (vs := vs) (d := e) (ds := ds) r t => by
    show KVs K H (if g = f then (g, y) :: vs else (g, v) :: L2.putF f y vs) (if g = f then (g, d) :: ds else (g, e) :: putFD f d ds)
    split
    · exact .cons ry t
    · exact .cons r (KVs.putF ry t)
theorem KVs.look {K : PySem.W.Frag} {H : Hp} {f : Str} : ∀ {vs : List (Str × V)} {ds : List (Str × D)}, KVs K H vs ds → (∀ d, ds.lookup f = some d → ∃ v, vs.lookup f = some v ∧ Tp K H v d) ∧ (ds.lookup f = none → vs.lookup f = none)
  | _, _, .nil => ⟨(fun _ h => by cases h), fun _ => rfl⟩
  | _, _, .cons (k := g) r t => by
    obtain ⟨h1, h2⟩ := KVs.look (f := f) t
    rw [List.lookup_cons, List.lookup_cons]
    cases hb : (f == g) with
    | true => exact ⟨fun d h => by cases h; exact ⟨_, rfl, r⟩, fun h => by cases h⟩
    | false => exact ⟨h1, h2⟩
theorem length_putFD (f : Str) (v : D) : ∀ l : List (Str × D), (putFD f v l).length ≤ l.length + 1
  | [] => by simp [putFD]
  | p :: r => by
    have := length_putFD f v r
    simp only [putFD]
    split <;> simp <;> omega
section
variable {X : Cx} {e o value : Expr} {es : List Expr} {σ : Sd} {M : Mp} {Q : QD} {E : DE} {pos pos' p apos : Pos} {f m x : Str} {k : Nat} {ps : List Str} {C : Addr}
/-- e.f -/
def RFld (K : PySem.W.Frag) (f : Str) : D → Mp → QD → Prop := fun x M Q => match x with
  | .ref a => ∃ C dx fs d, M a = some (.ins C dx fs) ∧ Cls K C ∧ NoAttr K C f ∧ fs.lookup f = some d ∧ Q d M
  | _ => False
theorem e_fld (h : ES X e σ M fun x M1 => RFld X.K f x M1 Q) (hb : attributeBase e f X.env (eval e X.env) = eval e X.env := by rfl) : ES X (.Attribute e f pos) σ M Q :=
  ES.of (pe_fld pe_sem hb) fun σv H S R => h.go (H0 := H) S R fun v H1 x M1 i1 R1 t1 q1 => by
    cases t1 <;> first | exact False.elim q1 | skip
    case ref a =>
      obtain ⟨C, dx, fs, d, ea, c, n, l, q⟩ := q1
      obtain ⟨_, eh, gs, rfl, hk⟩ := R1 a _ ea
      obtain ⟨v, lv, tv⟩ := (hk.look (f := f)).1 d l
      exact ⟨a, C, dx, gs, v, rfl, eh, c, n, lv, i1, d, M1, R1, tv, q⟩
/-- o.f = value -/
def RFSet (K : PySem.W.Frag) (f : Str) : D → D → Mp → (Mp → Prop) → Prop := fun x v M Q => match x with
  | .ref a => ∃ C dx fs, M a = some (.ins C dx fs) ∧ Cls K C ∧ NoAttr K C f ∧ fs.length < 1000 ∧ SetM M a (.ins C dx (putFD f v fs)) Q
  | _ => False
theorem s_fld (h : ES X value σ M fun v M1 => ES X o σ M1 fun x M2 => RFSet X.K f x v M2 fun M3 => E.nx σ M3) (hs : swapsWith value (some (.Attribute o f pos')) pos.line X.env = pure false := by rfl) : SS X (.Assign [.Attribute o f pos'] value pos) σ M E :=
  SS.of (ps_fld pe_sem pe_sem hs) fun σv H S R => h.go (H0 := H) S R fun v H1 d M1 i1 R1 t1 q1 => q1.go (H0 := H1) (S.mono i1) R1 fun u H2 x M2 i2 R2 t2 q2 => by
    cases t2 <;> first | exact False.elim q2 | skip
    case ref a =>
      obtain ⟨C, dx, fs, ea, c, n, hl, q⟩ := q2
      obtain ⟨_, eh, gs, rfl, hk⟩ := R2 a _ ea
      have im : Imm H2 (upd H2 a (.ins C dx (L2.putF f v gs))) := Imm.set eh (fun z => z)
      have ii := (i1.trans i2).trans im
      exact ⟨a, C, dx, gs, rfl, eh, c, n, by rw [hk.length]; exact hl, ii, σ, _, S.mono ii, R2.set (m := .ins C dx (putFD f d fs)) eh (fun z => z) ⟨_, rfl, KVs.putF (Tp.mono (i2.trans im) _ _ t1) (hk.mono im)⟩, SetM.at q⟩
/-- a method of the class at C and what it promises (self first) -/
def CalleeM (P : Program) (w : World) (K : PySem.W.Frag) (mg : Str → Option Value) (base : Heap) (C : Addr) (m : Str) (k : Nat) (ps : List Str) (sp3 : Sp3) : Prop :=
  ∃ g fd, FnOk P w K mg base CX0 k g fd ps (spD K sp3) ∧ Meth K C m g ∧ Binds K fd ps []
def CalleeMX (P : Program) (w : World) (K : PySem.W.Frag) (mg : Str → Option Value) (base : Heap) (C : Addr) (m : Str) (k : Nat) (ps : List Str) (sp4 : Sp4) : Prop :=
  ∃ g fd, FnOk P w K mg base (L2.CX P w) k g fd ps (spX K sp4) ∧ Meth K C m g ∧ Binds K fd ps []
theorem e_meth {sp3 : Sp3} {pl : Sem Bool} (c : Cls X.K C) (F : CalleeM X.prog X.w X.K X.mg X.base C m k ps sp3) (hr : Room k X.A) (h : ES X o σ M fun x M1 => ∃ a dx fs, x = .ref a ∧ M1 a = some (.ins C dx fs) ∧ fs.lookup m = none ∧ AS X (e :: es) σ M1 fun ds M2 => sp3 (x :: ds) M2 Q)
    (hst : starEach (e :: es) X.env = (false, eval e X.env) :: starEach es X.env := by rfl) (hpl : (backTo pos (starEach es X.env)).any (·.1) = false := by rfl)
    (ht : eval (.Call (.Attribute o m apos) (e :: es) [] pos) X.env = (do
      let ov ← eval o X.env
      standAt apos.atName
      let (f, first) ← holding [ov] (getMethod ov m pl)
      callWith pos f first (backTo pos (starEach (e :: es) X.env)) (backToKw pos (keywordEach [] X.env))) := by rfl) : ES X (.Call (.Attribute o m apos) (e :: es) [] pos) σ M Q := by
  obtain ⟨g, fd, F, hm, hb⟩ := F
  refine ES.of (pe_meth pe_sem c hm F hr hb .nil pass0 pa_sem hst hpl ht) fun σv H S R => h.go (H0 := H) S R fun v H1 x M1 i1 R1 t1 ⟨a, dx, fs, ex, ea, l, q1⟩ => ?_
  subst ex
  obtain ⟨_, eh, gs, rfl, hk⟩ := R1 a _ ea
  cases t1
  refine ⟨a, dx, gs, rfl, eh, (hk.look (f := m)).2 l, q1.go (S.mono i1) R1 fun vs H2 ds M2 i2 R2 t2 q2 => ?_⟩
  rw [List.append_nil]
  exact ⟨.ref a :: ds, M2, Q, .cons (.ref a) t2, R2, q2, fun v H3 d M3 i3 R3 t3 q3 => ⟨(i1.trans i2).trans i3, d, M3, R3, t3, q3⟩⟩
theorem e_meth0 {sp3 : Sp3} {pl : Sem Bool} (c : Cls X.K C) (F : CalleeM X.prog X.w X.K X.mg X.base C m k ps sp3) (hr : Room k X.A) (h : ES X o σ M fun x M1 => ∃ a dx fs, x = .ref a ∧ M1 a = some (.ins C dx fs) ∧ fs.lookup m = none ∧ sp3 [x] M1 Q)
    (ht : eval (.Call (.Attribute o m apos) [] [] pos) X.env = (do
      let ov ← eval o X.env
      standAt apos.atName
      let (f, first) ← holding [ov] (getMethod ov m pl)
      callWith pos f first (backTo pos (starEach [] X.env)) (backToKw pos (keywordEach [] X.env))) := by rfl) : ES X (.Call (.Attribute o m apos) [] [] pos) σ M Q := by
  obtain ⟨g, fd, F, hm, hb⟩ := F
  refine ES.of (pe_meth0 pe_sem c hm F hr hb .nil pass0 ht) fun σv H S R => h.go (H0 := H) S R fun v H1 x M1 i1 R1 t1 ⟨a, dx, fs, ex, ea, l, q1⟩ => ?_
  subst ex
  obtain ⟨_, eh, gs, rfl, hk⟩ := R1 a _ ea
  cases t1
  exact ⟨a, dx, gs, rfl, eh, (hk.look (f := m)).2 l, [.ref a], M1, Q, .cons (.ref a) .nil, R1, q1, fun v H3 d M3 i3 R3 t3 q3 => ⟨i1.trans i3, d, M3, R3, t3, q3⟩⟩
/-- a class and its __init__ -/
def CalleeI (P : Program) (w : World) (K : PySem.W.Frag) (mg : Str → Option Value) (base : Heap) (x : Str) (C : Addr) (k : Nat) (ps : List Str) (sp3 : Sp3) : Prop :=
  ∃ g fd, FnOk P w K mg base CX0 k g fd ps (spD K sp3) ∧ Mk K C g ∧ Binds K fd ps [] ∧ mg x = some (.ref C)
/-- what a new instance asks of __init__ -/
def NewI (sp3 : Sp3) (C : Addr) (ds : List D) (M : Mp) (Q : QD) : Prop := ∀ a dx M', M a = none → M dx = none → dx ≠ a → M' a = some (.ins C dx []) → M' dx = some (.own a) → Mle M M' → sp3 (.ref a :: ds) M' fun v M2 => v = .non ∧ Q (.ref a) M2
theorem newI_at {X : Cx} {sp3 : Sp3} {C x dx : Addr} {ds : List D} {vs : List V} {M : Mp} {Q : QD} {H0 H : Hp} (i0 : Imm H0 H) (R : RelM X.K M H) (t : Tps X.K H vs ds) (q : NewI sp3 C ds M Q) (nx : H x = none) (nd : H dx = none) (ne : dx ≠ x) :
    spD X.K sp3 (.ref x :: (vs ++ [])) (upd (upd H dx (.own x)) x (.ins C dx [])) (fun v H2 => v = .non ∧ DQ X.K H0 Q (.ref x) H2) fun _ _ _ => False := by
  have i1 : Imm H (upd H dx (.own x)) := Imm.new nd
  have nx' : upd H dx (.own x) x = none := by rw [upd_ne (Ne.symm ne)]; exact nx
  have i2 : Imm (upd H dx (.own x)) (upd (upd H dx (.own x)) x (.ins C dx [])) := Imm.new nx'
  have R1 := R.new (m := .own x) (o := .own x) nd rfl
  have R2 := R1.new (m := .ins C dx []) (o := .ins C dx []) nx' ⟨[], rfl, .nil⟩
  have fx : M x = none := R.fresh nx
  have fd : M dx = none := R.fresh nd
  rw [List.append_nil]
  refine ⟨.ref x :: ds, _, fun v M2 => v = .non ∧ Q (.ref x) M2, .cons (.ref x) (Tps.mono (i1.trans i2) _ _ t), R2, q x dx _ fx fd ne updM_same (by rw [updM_ne ne, updM_same]) ((Mle.new fd).new2 fx), fun v H3 d M3 i3 R3 t3 ⟨e3, q3⟩ => ?_⟩
  subst e3
  cases t3
  exact ⟨rfl, ((i0.trans i1).trans i2).trans i3, _, M3, R3, .ref x, q3⟩
theorem e_make0 {sp3 : Sp3} (F : CalleeI X.prog X.w X.K X.mg X.base x C k ps sp3) (hr : Room (k + 1) X.A) (h : NewI sp3 C [] M Q) (hg : Gl X x := by rfl) (hdb : (x == ("__debug__" : Str)) = false := by decide) : ES X (.Call (.Name x p) [] [] pos) σ M Q := by
  obtain ⟨g, fd, F, M0, hb, hm⟩ := F
  exact ES.of (pe_make0 M0 F hr hg hm hb .nil pass0 hdb) fun σv H S R a dx na nd ne => newI_at (Imm.refl H) R (vs := []) .nil h na nd ne
theorem e_make {sp3 : Sp3} (F : CalleeI X.prog X.w X.K X.mg X.base x C k ps sp3) (hr : Room (k + 1) X.A) (h : AS X (e :: es) σ M fun ds M1 => NewI sp3 C ds M1 Q) (hg : Gl X x := by rfl) (hdb : (x == ("__debug__" : Str)) = false := by decide)
    (he : starEach (e :: es) X.env = (false, eval e X.env) :: starEach es X.env := by rfl) (hpl : (backTo pos (starEach es X.env)).any (·.1) = false := by rfl) : ES X (.Call (.Name x p) (e :: es) [] pos) σ M Q := by
  obtain ⟨g, fd, F, M0, hb, hm⟩ := F
  exact ES.of (pe_make M0 F hr hg hm hb .nil pass0 pa_sem hdb he hpl) fun σv H S R => h.go S R fun vs H1 ds M1 i1 R1 t1 q1 a dx na nd ne => newI_at i1 R1 t1 q1 na nd ne
end
end DL
set_option maxHeartbeats 1000000
namespace DL
open PySem L2 PySem.Spec PyProof.Rows
/-! list.insert, list.remove -/
def RIns : RM3 := fun x ds M Q => match x, ds with
  | .ref a, [.int i, d] => ∃ xs, M a = some (.lst xs) ∧ xs.length < sizeLine ∧ 0 ≤ i ∧ i < 2 ^ 63 ∧ SetM M a (.lst (xs.take i.toNat ++ [d] ++ xs.drop i.toNat)) (Q .non)
  | _, _ => False
theorem rd_ins {K : PySem.W.Frag} : RDM K (fun x vs H Q => ∃ (l : Addr) (xs : List V) (i : Int) (y : V), x = .ref l ∧ vs = [.int i, y] ∧ H l = some (.lst xs) ∧ xs.length < sizeLine ∧ 0 ≤ i ∧ i < 2 ^ 63 ∧ Q .non (upd H l (.lst (xs.take i.toNat ++ [y] ++ xs.drop i.toNat)))) RIns := by
  intro H0 H M vx vs x ds Q Q' i R tx t k q
  match x, ds, tx, t, q with
  | .ref a, [.int n, d], tx, t, q =>
    obtain ⟨xs, e, hz, h0, h1, q⟩ := q
    obtain ⟨_, ea, us, rfl, ha⟩ := R a _ e
    obtain ⟨v1, v2, rfl, r1, r2⟩ := t.two
    cases tx
    cases r1
    have im : Imm H (upd H a (.lst (us.take n.toNat ++ [v2] ++ us.drop n.toNat))) := Imm.set ea (fun z => z)
    have ha' := Tps.mono im _ _ ha
    exact ⟨a, us, n, v2, rfl, rfl, ea, by rw [ha.length]; exact hz, h0, h1, k _ _ _ _ (i.trans im) (R.set (m := .lst (xs.take n.toNat ++ [d] ++ xs.drop n.toNat)) ea (fun z => z) ⟨_, rfl, ((ha'.take _).append (.cons (Tp.mono im _ _ r2) .nil)).append (ha'.drop _)⟩) .non (SetM.at q)⟩
def RRem : RM3 := fun x ds M Q => match x, ds with
  | .ref a, [.int n] => ∃ (ns : List Int) (j : Nat), M a = some (.lst (ns.map D.int)) ∧ ns[j]? = some n ∧ (∀ m : Nat, m < j → ns[m]? ≠ some n) ∧ SetM M a (.lst ((ns.eraseIdx j).map D.int)) (Q .non)
  | _, _ => False
theorem rd_rem {K : PySem.W.Frag} : RDM K rRemI RRem := by
  intro H0 H M vx vs x ds Q Q' i R tx t k q
  match x, ds, tx, t, q with
  | .ref a, [.int n], tx, t, q =>
    obtain ⟨ns, j, e, hj, hno, q⟩ := q
    obtain ⟨_, ea, us, rfl, ha⟩ := R a _ e
    obtain ⟨v1, rfl, r1⟩ := t.one
    cases tx
    cases r1
    obtain rfl := tps_ints ha
    have im : Imm H (upd H a (.lst ((ns.eraseIdx j).map V.int))) := Imm.set ea (fun z => z)
    exact ⟨a, ns, n, j, rfl, rfl, ea, hj, hno, k _ _ _ _ (i.trans im) (R.set (m := .lst ((ns.eraseIdx j).map D.int)) ea (fun z => z) ⟨_, rfl, Tps.ints _⟩) .non (SetM.at q)⟩
end DL
set_option maxHeartbeats 1000000
namespace DL
open PySem L2 PySem.Spec PyProof.Rows
/-! x in a tuple, in a list: data of any depth; a dict display of one pair -/
section
variable {X : Cx} {K : PySem.W.Frag}
def rInT (K : PySem.W.Frag) (neg : Bool) : R2 := fun x y H Q => ∃ d ds, Dp K H x d ∧ Dp K H y (.tuple ds) ∧ SeqAt.shaped d = true ∧ SeqAt.shaped (.tuple ds) = true ∧ Q (.bl (if neg then !ds.any fun z => PyData.eqv z d else ds.any fun z => PyData.eqv z d)) H
theorem op_inT (hu : X.A.units + 65 < cLine) : OpR X (compareOp .In) (rInT X.K false) := by
  rintro pins s σ H x y v u Q I rx ry ⟨d, ds, hd, he, sd, se, q⟩
  obtain ⟨as, r1⟩ := Dp.reads I d x v hd rx
  obtain ⟨bs, r2⟩ := Dp.reads I (.tuple ds) y u he ry
  exact SeqAt.in_tuple_reads r2 r1 (SeqAt.canLay_of_shaped se) (SeqAt.canLay_of_shaped sd) (room_in_shaped sd hu) ⟨.bl (ds.any fun z => PyData.eqv z d), H, I, rfl, q⟩
theorem op_notInT (hu : X.A.units + 65 < cLine) : OpR X (compareOp .NotIn) (rInT X.K true) := by
  rintro pins s σ H x y v u Q I rx ry ⟨d, ds, hd, he, sd, se, q⟩
  obtain ⟨as, r1⟩ := Dp.reads I d x v hd rx
  obtain ⟨bs, r2⟩ := Dp.reads I (.tuple ds) y u he ry
  exact SeqAt.notIn_tuple_reads r2 r1 (SeqAt.canLay_of_shaped se) (SeqAt.canLay_of_shaped sd) (room_in_shaped sd hu) ⟨.bl (!ds.any fun z => PyData.eqv z d), H, I, rfl, q⟩
theorem pys_any (x : D) : ∀ l : List D, ((D.pys l).any fun z => PyData.eqv z x.py) = inD x l
  | [] => rfl
  | d :: r => by
    have ih := pys_any x r
    simp only [D.pys, List.any_cons, inD] at ih ⊢
    rw [ih]
    rfl
def RInDp (neg : Bool) : R3 := fun x y M Q => match y with
  | .tup ds => x.shp = true ∧ (D.tup ds).shp = true ∧ Q (.bl (if neg then !inD x ds else inD x ds)) M
  | .rol ds => x.shp = true ∧ (D.rol ds).shp = true ∧ Q (.bl (if neg then !inD x ds else inD x ds)) M
  | .ref a => ∃ ds, M a = some (.lst ds) ∧ x.shp = true ∧ (D.rol ds).shp = true ∧ Q (.bl (if neg then !inD x ds else inD x ds)) M
  | _ => False
theorem shp_two {d : D} (h : d.shp = true) : d.pure = true ∧ SeqAt.shaped d.py = true := by
  unfold D.shp at h
  simpa only [Bool.and_eq_true] using h
theorem rd_inDp : RD K (fun x y H Q => rInT K false x y H Q ∨ rInD K x y H Q) (RInDp false) := by
  intro H0 H M vx vy x y Q Q' i R tx ty k q
  cases ty with
  | tup hs ha =>
    obtain ⟨h1, h2, q⟩ := q
    obtain ⟨p1, s1⟩ := shp_two h1
    obtain ⟨p2, s2⟩ := shp_two h2
    exact .inl ⟨_, _, Tp.dp _ _ p1 tx, .tup hs (Tps.dp _ _ (by simpa only [D.pure] using p2) ha), s1, s2, k _ _ _ _ i R (.bl _) (by rw [pys_any]; exact q)⟩
  | rol hs ha =>
    obtain ⟨h1, h2, q⟩ := q
    obtain ⟨p1, s1⟩ := shp_two h1
    obtain ⟨p2, s2⟩ := shp_two h2
    exact .inr ⟨_, _, Tp.dp _ _ p1 tx, .lst hs.sq (Tps.dp _ _ (by simpa only [D.pure] using p2) ha), s1, s2, k _ _ _ _ i R (.bl _) (by rw [pys_any]; exact q)⟩
  | ref a =>
    obtain ⟨ds, e, h1, h2, q⟩ := q
    obtain ⟨_, ea, us, rfl, ha⟩ := R a _ e
    obtain ⟨p1, s1⟩ := shp_two h1
    obtain ⟨p2, s2⟩ := shp_two h2
    exact .inr ⟨_, _, Tp.dp _ _ p1 tx, .lst (SqL.of ea) (Tps.dp _ _ (by simpa only [D.pure] using p2) ha), s1, s2, k _ _ _ _ i R (.bl _) (by rw [pys_any]; exact q)⟩
  | _ => exact False.elim q
theorem rd_notInDp : RD K (fun x y H Q => rInT K true x y H Q ∨ rNotInD K x y H Q) (RInDp true) := by
  intro H0 H M vx vy x y Q Q' i R tx ty k q
  cases ty with
  | tup hs ha =>
    obtain ⟨h1, h2, q⟩ := q
    obtain ⟨p1, s1⟩ := shp_two h1
    obtain ⟨p2, s2⟩ := shp_two h2
    exact .inl ⟨_, _, Tp.dp _ _ p1 tx, .tup hs (Tps.dp _ _ (by simpa only [D.pure] using p2) ha), s1, s2, k _ _ _ _ i R (.bl _) (by rw [pys_any]; exact q)⟩
  | rol hs ha =>
    obtain ⟨h1, h2, q⟩ := q
    obtain ⟨p1, s1⟩ := shp_two h1
    obtain ⟨p2, s2⟩ := shp_two h2
    exact .inr ⟨_, _, Tp.dp _ _ p1 tx, .lst hs.sq (Tps.dp _ _ (by simpa only [D.pure] using p2) ha), s1, s2, k _ _ _ _ i R (.bl _) (by rw [pys_any]; exact q)⟩
  | ref a =>
    obtain ⟨ds, e, h1, h2, q⟩ := q
    obtain ⟨_, ea, us, rfl, ha⟩ := R a _ e
    obtain ⟨p1, s1⟩ := shp_two h1
    obtain ⟨p2, s2⟩ := shp_two h2
    exact .inr ⟨_, _, Tp.dp _ _ p1 tx, .lst (SqL.of ea) (Tps.dp _ _ (by simpa only [D.pure] using p2) ha), s1, s2, k _ _ _ _ i R (.bl _) (by rw [pys_any]; exact q)⟩
  | _ => exact False.elim q
variable {a b : Expr} {σ : Sd} {M : Mp} {Q : QD} {QB : Bool → Mp → Prop} {pos : Pos}
theorem t_inDp (hr : ∃ k, Room k X.A) (h : ES X a σ M fun x M1 => ES X b σ M1 fun y M2 => RInDp false x y M2 (QBl QB)) (hm : behindInMarks .In b = false := by rfl) : TT3 X (.Compare a [.In] [b] pos) σ M QB :=
  t_cmp (OpR.or (op_inT (by have := hr.choose_spec.un; omega)) (op_inD (by have := hr.choose_spec.un; omega))) rd_inDp hm h
theorem e_inDp (hr : ∃ k, Room k X.A) (h : ES X a σ M fun x M1 => ES X b σ M1 fun y M2 => RInDp false x y M2 Q) (hm : behindInMarks .In b = false := by rfl) : ES X (.Compare a [.In] [b] pos) σ M Q :=
  e_cmp (OpR.or (op_inT (by have := hr.choose_spec.un; omega)) (op_inD (by have := hr.choose_spec.un; omega))) rd_inDp hm h
theorem t_notInDp (hr : ∃ k, Room k X.A) (h : ES X a σ M fun x M1 => ES X b σ M1 fun y M2 => RInDp true x y M2 (QBl QB)) (hm : behindInMarks .NotIn b = false := by rfl) : TT3 X (.Compare a [.NotIn] [b] pos) σ M QB :=
  t_cmp (OpR.or (op_notInT (by have := hr.choose_spec.un; omega)) (op_notInD (by have := hr.choose_spec.un; omega))) rd_notInDp hm h
/-- {k: v} -/
theorem e_disp1 {kx vx : Expr} (h : ∀ p M1, M p = none → M1 p = some (.dK []) → Mle M M1 → ES X kx σ M1 fun kd M2 => ES X vx σ M2 fun vd M3 => ∃ k, kd = kD k ∧ M3 p = some (.dK []) ∧ SetM M3 p (.dK [(k, vd)]) fun M4 => Q (.ref p) M4) : ES X (.Dict [some kx] [vx] pos) σ M Q :=
  ES.of (pe_disp (pps_cons pe_sem pe_sem pps_nil) rfl rfl (by simp) (by simp)) fun σv H S R p hp => by
    have im := Imm.new (o := .dK []) hp
    have R1 := R.new (m := .dK []) hp ⟨_, rfl, .nil⟩
    refine (h p _ (R.fresh hp) updM_same (Mle.new (R.fresh hp))).go (H0 := upd H p (.dK [])) (S.mono im) R1 fun v1 H1 kd M2 i1 R2 t1 q1 => ?_
    refine q1.go (H0 := H1) ((S.mono im).mono i1) R2 fun v2 H2 vd M3 i2 R3 t2 ⟨k, ek, ep, q⟩ => ?_
    subst ek
    obtain rfl := tp_kD t1
    obtain ⟨_, eh, us, rfl, hk⟩ := R3 p _ ep
    cases hk
    refine ⟨eh, [(k, v2)], rfl, by simp, ?_⟩
    have im2 : Imm H2 (upd H2 p (.dK [(k, v2)])) := Imm.set eh (fun z => z)
    exact ⟨((im.trans i1).trans i2).trans im2, _, _, R3.set (m := .dK [(k, vd)]) eh (fun z => z) ⟨_, rfl, .cons (Tp.mono im2 _ _ t2) .nil⟩, .ref p, SetM.at q⟩
end
end DL
set_option maxHeartbeats 1000000
namespace DL
open PySem L2 PySem.Spec PyProof.Rows
/-! ### texts: join, repeated texts, one sign in a text -/
section
variable {X : Cx} {o e a b : Expr} {σ : Sd} {M : Mp} {Q : QD} {QB : Bool → Mp → Prop} {pos apos : Pos}
/-- sep.join(a list | a tuple of texts) -/
def RJoin (a : Str) : D → Mp → QD → Prop := fun y M Q => ∃ ys : List Str, ((∃ p, y = .ref p ∧ M p = some (.lst (ys.map D.str))) ∨ y = .tup (ys.map D.str) ∨ y = .rol (ys.map D.str)) ∧ (ys.map (·.length)).sum + ys.length * a.length ≤ 16777216 ∧ Q (.str (Str.join a ys)) M
theorem e_join (h : ES X o σ M fun x M1 => ∃ a, x = .str a ∧ ES X e σ M1 fun y M2 => RJoin a y M2 Q) (hs : starEach [e] X.env = [(false, eval e X.env)] := by rfl)
    (hbase : attributeBase o "join" X.env (eval o X.env) = eval o X.env := by rfl) (hline : (apos.endLine == pos.line) = true := by rfl) : ES X (.Call (.Attribute o "join" apos) [e] [] pos) σ M Q :=
  ES.of (pe_join pe_sem pe_sem hs hbase hline) fun σv H S R => h.go (H0 := H) S R fun v H1 x M1 i1 R1 t1 ⟨a, ex, q1⟩ => by
    subst ex
    cases t1
    refine ⟨⟨a, rfl⟩, q1.go (H0 := H1) (S.mono i1) R1 fun u H2 y M2 i2 R2 t2 ⟨ys, hy, hz, q⟩ => ?_⟩
    have fin : ∀ p, (SqL X.K H2 p (ys.map V.str) ∨ SqT X.K H2 p (ys.map V.str)) → u = .ref p → ∃ a_1 p, ∃ ys : List Str, V.str a = .str a_1 ∧ [u] = [.ref p] ∧ (SqL X.K H2 p (ys.map V.str) ∨ SqT X.K H2 p (ys.map V.str)) ∧
      (ys.map (·.length)).sum + ys.length * a_1.length ≤ 16777216 ∧ DQ X.K H Q (.str (Txt.join a_1 ys)) H2 := fun p hp e => by
      subst e
      exact ⟨a, p, ys, rfl, rfl, hp, hz, i1.trans i2, _, M2, R2, .str _, by rw [TL.join_eq]; exact q⟩
    rcases hy with ⟨p, rfl, ep⟩ | rfl | rfl
    · obtain ⟨_, ea, us, rfl, ha⟩ := R2 p _ ep
      obtain rfl := tps_strs ha
      cases t2
      exact fin p (.inl (SqL.of ea)) rfl
    · cases t2 with
      | tup hs ha => obtain rfl := tps_strs ha; exact fin _ (.inr hs) rfl
    · cases t2 with
      | rol hs ha => obtain rfl := tps_strs ha; exact fin _ (.inl hs.sq) rfl
/-- a text, n times -/
def mulS (x : Str) (n : Nat) : Str := if (n : Int) < 1 then Str.empty else if ((n : Int) == 1 || x.length == 0) = true then x else ⟨(List.replicate n x.cps).foldl (· ++ ·) #[]⟩
theorem mulS_len (x : Str) (n : Nat) : (mulS x n).length ≤ x.length * n := by
  have key : ∀ (m : Nat) (acc : Array Nat), ((List.replicate m x.cps).foldl (· ++ ·) acc).size = acc.size + x.length * m := by
    intro m
    induction m with
    | zero => intro acc; simp
    | succ m ih =>
      intro acc
      rw [List.replicate_succ, List.foldl_cons, ih, Array.size_append, Nat.mul_succ]
      simp only [Str.length]
      omega
  unfold mulS
  split
  · exact Nat.zero_le _
  · split
    · rename_i h1 h2
      exact Nat.le_mul_of_pos_right _ (by omega)
    · rw [Str.length]
      dsimp only
      rw [key]
      simp
def RMulS : R3 := fun x y M Q => ∃ (a : Str) (n : Nat), x = .str a ∧ y = .int (n : Int) ∧ a.length ≤ 1000 ∧ n ≤ 1000 ∧ Q (.str (mulS a n)) M
theorem op_mulS : OpR X (binaryOp .Mult) (fun x y H Q => ∃ (a : Str) (n : Nat), x = .str a ∧ y = .int (n : Int) ∧ a.length ≤ 1000 ∧ n ≤ 1000 ∧ Q (.str (mulS a n)) H) := by
  intro pins s σ H x y v u Q I rx ry h
  obtain ⟨a, n, rfl, rfl, h1, h2, q⟩ := h
  obtain ⟨t, rfl⟩ := rx
  obtain ⟨t', rfl⟩ := ry
  have hp : a.length * n ≤ 1000000 := by
    have := Nat.mul_le_mul h1 h2
    omega
  have hl := mulS_len a n
  refine PySem.P.mul_str (by rw [Bool.or_eq_false_iff, decide_eq_false_iff_not, decide_eq_false_iff_not]; omega) (fun h3 h4 => ?_) (fun _ _ => ?_) ?_
  · have hp' : (a.length : Int) * (n : Int) ≤ 2 ^ 63 - 1 := by rw [← Int.natCast_mul]; omega
    have := Int.le_ediv_of_mul_le (c := (n : Int)) (by omega) hp'
    omega
  · unfold Builtin.Str.tooLong
    rw [decide_eq_false_iff_not, sizeLine_eq]
    rw [Int.toNat_natCast]
    omega
  · unfold mulS at q hl
    split
    · rename_i h3
      rw [if_pos h3] at q
      exact ⟨by decide, ⟨V.str Str.empty, H, I.tok _, ⟨_, rfl⟩, q⟩⟩
    · rename_i h3
      rw [if_neg h3] at q hl
      split
      · rename_i h4
        rw [if_pos h4] at q
        exact ⟨V.str a, H, I, ⟨_, rfl⟩, q⟩
      · rename_i h4
        rw [if_neg h4] at q hl
        rw [Int.toNat_natCast]
        exact ⟨by rw [sizeLine_eq]; omega, ⟨V.str ⟨(List.replicate n a.cps).foldl (· ++ ·) #[]⟩, H, I.tok _, ⟨_, rfl⟩, q⟩⟩
theorem rd_mulS {K : PySem.W.Frag} : RD K (fun x y H Q => ∃ (a : Str) (n : Nat), x = .str a ∧ y = .int (n : Int) ∧ a.length ≤ 1000 ∧ n ≤ 1000 ∧ Q (.str (mulS a n)) H) RMulS := by
  intro H0 H M vx vy x y Q Q' i R tx ty k q
  obtain ⟨a, n, rfl, rfl, h1, h2, q⟩ := q
  cases tx
  cases ty
  exact ⟨a, n, rfl, rfl, h1, h2, k _ _ _ _ i R (.str _) q⟩
theorem e_mulS (h : ES X a σ M fun x M1 => ES X b σ M1 fun y M2 => RMulS x y M2 Q) : ES X (.BinOp a .Mult b pos) σ M Q := e_op op_mulS rd_mulS h
/-- one sign in a text -/
def RInSg (neg : Bool) : R3 := fun x y M Q => ∃ (c : Nat) (z : Str), x = .str ⟨#[c]⟩ ∧ y = .str z ∧ Q (.bl (if neg then !decide (c ∈ z.cps.toList) else decide (c ∈ z.cps.toList))) M
theorem rd_inSg {K : PySem.W.Frag} : RD K (fun x y H Q => ∃ (c : Nat) (z : Str), x = .str ⟨#[c]⟩ ∧ y = .str z ∧ Q (.bl (decide (c ∈ z.cps.toList))) H) (RInSg false) := by
  intro H0 H M vx vy x y Q Q' i R tx ty k q
  obtain ⟨c, z, rfl, rfl, q⟩ := q
  cases tx
  cases ty
  exact ⟨c, z, rfl, rfl, k _ _ _ _ i R (.bl _) q⟩
theorem e_inSg (h : ES X a σ M fun x M1 => ES X b σ M1 fun y M2 => RInSg false x y M2 Q) (hm : behindInMarks .In b = false := by rfl) : ES X (.Compare a [.In] [b] pos) σ M Q := e_cmp op_in_sign rd_inSg hm h
theorem t_inSg (h : ES X a σ M fun x M1 => ES X b σ M1 fun y M2 => RInSg false x y M2 (QBl QB)) (hm : behindInMarks .In b = false := by rfl) : TT3 X (.Compare a [.In] [b] pos) σ M QB := t_cmp op_in_sign rd_inSg hm h
end
end DL
set_option maxHeartbeats 1000000
namespace DL
open PySem L2 PySem.Spec PyProof.Rows
/-! ### str of an int or of a text -/
def strD : D → Str
  | .int i => ((toString i : String) : Str)
  | .str x => x
  | _ => ""
def RStrD : RA3 := fun ds M Q => match ds with
  | [.int i] => i.natAbs.log2 < 1920 ∧ Q (.str (strD (.int i))) M
  | [.str x] => Q (.str x) M
  | _ => False
section
variable {X : Cx} {K : PySem.W.Frag} {e : Expr} {σ : Sd} {M : Mp} {Q : QD} {pos p : Pos}
theorem call_str_any : CallR X (.type "str") (fun xs H Q => (∃ i : Int, xs = [.int i] ∧ i.natAbs.log2 < 1920 ∧ Q (.str (toString i)) H) ∨ ∃ a, xs = [.str a] ∧ Q (.str a) H) := by
  intro pins s σ H xs us Q I r h
  rcases h with h | h
  · exact call_str_int pins s σ H xs us Q I r h
  · exact SkE.call_str_str pins s σ H xs us Q I r h
theorem rd_strD : RDA K (fun xs H Q => (∃ i : Int, xs = [.int i] ∧ i.natAbs.log2 < 1920 ∧ Q (.str (toString i)) H) ∨ ∃ a, xs = [.str a] ∧ Q (.str a) H) RStrD := by
  intro H0 H M vs ds Q Q' i R t k q
  match ds, t, q with
  | [.int n], t, q =>
    obtain ⟨v, rfl, r⟩ := t.one
    cases r
    exact .inl ⟨_, rfl, q.1, k _ _ _ _ i R (.str _) q.2⟩
  | [.str x], t, q =>
    obtain ⟨v, rfl, r⟩ := t.one
    cases r
    exact .inr ⟨_, rfl, k _ _ _ _ i R (.str _) q⟩
theorem e_strD (hm : X.mg "str" = none) (h : AS X [e] σ M fun ds M1 => RStrD ds M1 Q) (hg : Gl X "str" := by rfl) (he : starEach [e] X.env = (false, eval e X.env) :: starEach [] X.env := by rfl) : ES X (.Call (.Name "str" p) [e] [] pos) σ M Q := e_ct call_str_any rd_strD hm (by decide +kernel) h hg (by decide) (by decide) he rfl
end
/-- // by a larger divisor -/
theorem e_fdivW {X : Cx} {a b : Expr} {σ : Sd} {M : Mp} {Q : QD} {pos : Pos} (h : ES X a σ M fun x M1 => ES X b σ M1 fun y M2 => RInt CDivW (fun i j => .int (i / j)) x y M2 Q) : ES X (.BinOp a .FloorDiv b pos) σ M Q := e_op op_fdivW rd_int h
theorem divW {j : Int} (h0 : 0 < j) (h : j < 20000000000) (i : Int) : CDivW i j := by
  refine ⟨h0, ?_⟩
  have : j.natAbs.log2 < 40 := (Nat.log2_lt (by omega)).mpr (by omega)
  omega
/-- a number's text -/
theorem num_text (i : Int) : (∃ c cs, (strD (.int i)).cps.toList = c :: cs ∧ (c = 45 ∨ (48 ≤ c ∧ c ≤ 57))) := by
  have nat : ∀ n : Nat, ∃ c cs, TL.tl (Str.ofString (Nat.repr n)) = c :: cs ∧ (48 ≤ c ∧ c ≤ 57) := fun n => by
    have e : TL.tl (Str.ofString (Nat.repr n)) = TL.numL n := TL.tl_num n
    have hd := TL.numL_digits n
    have hne : TL.numL n ≠ [] := by
      unfold TL.numL
      intro h
      exact Nat.toDigits_ne_nil (List.map_eq_nil_iff.mp h)
    rw [e]
    cases h : TL.numL n with
    | nil => exact absurd h hne
    | cons c cs => exact ⟨c, cs, rfl, hd c (by rw [h]; exact List.mem_cons_self)⟩
  cases i with
  | ofNat n =>
    obtain ⟨c, cs, e, h⟩ := nat n
    exact ⟨c, cs, e, .inr h⟩
  | negSucc m =>
    refine ⟨45, ((Nat.repr (m + 1)).toList.map Char.toNat), ?_, .inl rfl⟩
    show TL.tl (Str.ofString ("-" ++ Nat.repr (m + 1))) = _
    rw [TL.tl_ofString, String.toList_append, List.map_append]
    rfl
theorem num_len {i : Int} (h : i.natAbs < 10 ^ 20) : (strD (.int i)).length ≤ 21 := by
  have := int_text_length_le10 (a := i) (k := 20) (by decide) h
  have e : (Str.ofString (toString i)).length = (toString i).length := by
    rw [TL.len_tl, TL.tl_ofString, List.length_map, String.length_toList]
  show (Str.ofString (toString i)).length ≤ 21
  omega
end DL
set_option maxHeartbeats 1000000
namespace DL
open PySem L2 PySem.Spec PyProof.Rows
/-! ### o.f += e; the signs of a text walked; int(text); texts, numbers and tuples of texts of a module -/
section
variable {X : Cx} {e o value a : Expr} {es : List Expr} {σ : Sd} {M : Mp} {Q : QD} {E : DE} {pos pos' p apos tpos : Pos} {f x : Str}
theorem s_faug (h : ES X o σ M fun x M1 => ∃ a C dx fs d, x = .ref a ∧ M1 a = some (.ins C dx fs) ∧ Cls X.K C ∧ NoAttr X.K C f ∧ fs.lookup f = some d ∧
      ES X value σ M1 fun y M2 => RInt0 (fun i j => .int (i + j)) d y M2 fun z M3 => ∃ dx' fs', M3 a = some (.ins C dx' fs') ∧ fs'.length < 1000 ∧ SetM M3 a (.ins C dx' (putFD f z fs')) fun M4 => E.nx σ M4) : SS X (.AugAssign (.Attribute o f tpos) .Add value pos) σ M E :=
  SS.of (ps_fldaug pe_sem pe_sem in_add) fun σv H S R => h.go (H0 := H) S R fun v H1 x M1 i1 R1 t1 ⟨a, C, dx, fs, d, ex, ea, c, n, l, q1⟩ => by
    subst ex
    obtain ⟨_, eh, gs, rfl, hk⟩ := R1 a _ ea
    obtain ⟨u, lu, tu⟩ := (hk.look (f := f)).1 d l
    cases t1
    refine ⟨a, C, dx, gs, u, rfl, eh, c, n, lu, q1.go (H0 := H1) (S.mono i1) R1 fun y H2 yd M2 i2 R2 t2 q2 => ?_⟩
    cases tu <;> first | exact False.elim q2 | skip
    case int i =>
      cases t2 <;> first | exact False.elim q2 | skip
      case int j =>
        obtain ⟨dx', fs', ea', l', q⟩ := q2
        obtain ⟨_, eh', gs', rfl, hk'⟩ := R2 a _ ea'
        have im : Imm H2 (upd H2 a (.ins C dx' (L2.putF f (.int (i + j)) gs'))) := Imm.set eh' (fun z => z)
        have ii := (i1.trans i2).trans im
        exact ⟨i, j, rfl, rfl, dx', gs', eh', by rw [hk'.length]; exact l', ii, σ, _, S.mono ii, R2.set (m := .ins C dx' (putFD f (.int (i + j)) fs')) eh' (fun z => z) ⟨_, rfl, KVs.putF (.int _) (hk'.mono im)⟩, SetM.at q⟩
def chD (x : Str) : List D := x.cps.toList.map fun c => .str ⟨#[c]⟩
theorem wk_S {K : PySem.W.Frag} {H1 : Hp} {x : Str} : WalkD K H1 (Its x) (chD x) (fun _ => True) where
  goes := fun i H M im R _ hi => by
    unfold chD at hi
    rw [List.length_map, Array.length_toList] at hi
    exact hi
  stops := fun H M im R _ => by
    unfold chD
    rw [List.length_map, Array.length_toList]
    exact Nat.le_refl _
  yields := fun i H M y H' d im R _ hd z => by
    obtain ⟨e, c, hc, ey⟩ := z
    subst e ey
    unfold chD at hd
    rw [List.getElem?_map] at hd
    have : x.cps.toList[i]? = some c := by simpa using hc
    rw [this] at hd
    cases hd
    exact ⟨Imm.refl _, R, .str _⟩
theorem i_str {tg : Expr} {R : List D → (Mp → Prop) → Mp → Prop} (h : ES X a σ M fun d M1 => ∃ x, d = .str x ∧ R (chD x) (fun _ => True) M1) : IS X tg a σ M R :=
  IS.of (pi_str pe_sem) fun σv H S RM => h.go (H0 := H) S RM fun v H1 d M1 i1 R1 t1 ⟨x, e, q⟩ => by
    subst e
    cases t1
    exact ⟨x, rfl, i1, _, _, M1, R1, wk_S, q⟩
theorem chD_get {x : Str} {i : Nat} {d : D} (h : (chD x)[i]? = some d) : ∃ c, x.cps.toList[i]? = some c ∧ d = .str ⟨#[c]⟩ := by
  unfold chD at h
  rw [List.getElem?_map] at h
  cases hx : x.cps.toList[i]? with
  | none => rw [hx] at h; cases h
  | some c => rw [hx] at h; cases h; exact ⟨c, rfl, rfl⟩
theorem chD_len (x : Str) : (chD x).length = x.length := by
  unfold chD
  rw [List.length_map, Array.length_toList]
  rfl
theorem rd_notInSg {K : PySem.W.Frag} : RD K (fun x y H Q => ∃ (c : Nat) (z : Str), x = .str ⟨#[c]⟩ ∧ y = .str z ∧ Q (.bl (!decide (c ∈ z.cps.toList))) H) (RInSg true) := by
  intro H0 H M vx vy x y Q Q' i R tx ty k q
  obtain ⟨c, z, rfl, rfl, q⟩ := q
  cases tx
  cases ty
  exact ⟨c, z, rfl, rfl, k _ _ _ _ i R (.bl _) q⟩
theorem t_notInSg {b : Expr} {QB : Bool → Mp → Prop} (h : ES X a σ M fun x M1 => ES X b σ M1 fun y M2 => RInSg true x y M2 (QBl QB)) (hm : behindInMarks .NotIn b = false := by rfl) : TT3 X (.Compare a [.NotIn] [b] pos) σ M QB := t_cmp op_notIn_sign rd_notInSg hm h
/-- int(text) -/
def RIntS : RA3 := fun ds M Q => match ds with
  | [.str x] => ∃ n, PySem.intText? x = some n ∧ x.length ≤ 640 ∧ Q (.int n) M
  | _ => False
theorem rd_intS {K : PySem.W.Frag} : RDA K (fun xs H Q => ∃ a n, xs = [.str a] ∧ PySem.intText? a = some n ∧ a.length ≤ 640 ∧ Q (.int n) H) RIntS := by
  intro H0 H M vs ds Q Q' i R t k q
  match ds, t, q with
  | [.str x], t, ⟨n, h1, h2, q⟩ =>
    obtain ⟨v, rfl, r⟩ := t.one
    cases r
    exact ⟨x, n, rfl, h1, h2, k _ _ _ _ i R (.int _) q⟩
theorem e_intS (hm : X.mg "int" = none) (h : AS X [e] σ M fun ds M1 => RIntS ds M1 Q) (hg : Gl X "int" := by rfl) (he : starEach [e] X.env = (false, eval e X.env) :: starEach [] X.env := by rfl) : ES X (.Call (.Name "int" p) [e] [] pos) σ M Q := e_ct call_int_str rd_intS hm (by decide +kernel) h hg (by decide) (by decide) he rfl
/-- a module's text, a module's number -/
def ConS (mg : Str → Option Value) (x : Str) (y : Str) : Prop := ∃ u, mg x = some (.str y u)
def ConI (mg : Str → Option Value) (x : Str) (y : Int) : Prop := ∃ u, mg x = some (.int y u)
theorem e_conS {y : Str} (C : ConS X.mg x y) (q : Q (.str y) M) (hg : Gl X x := by rfl) (hdb : (x == ("__debug__" : Str)) = false := by decide) : ES X (.Name x pos) σ M Q := by
  obtain ⟨u, hm⟩ := C
  exact e_glob (v := .str y) hm ⟨_, rfl⟩ (fun H => .str y) q hg hdb
theorem e_conI {y : Int} (C : ConI X.mg x y) (q : Q (.int y) M) (hg : Gl X x := by rfl) (hdb : (x == ("__debug__" : Str)) = false := by decide) : ES X (.Name x pos) σ M Q := by
  obtain ⟨u, hm⟩ := C
  exact e_glob (v := .int y) hm ⟨_, rfl⟩ (fun H => .int y) q hg hdb
end
theorem vals_strs : ∀ {ps : List (Str × Nat)}, Vals (ps.map fun p => V.str p.1) (ps.map fun p => Value.str p.1 p.2)
  | [] => .nil
  | p :: r => .cons (show RelV (.str p.1) _ from ⟨_, rfl⟩) vals_strs
/-- a module's tuple of texts, of any length -/
theorem conT {K : PySem.W.Frag} {mg : Str → Option Value} {x : Str} {a : Addr} {dd : Option Addr} {ps : List (Str × Nat)} {vs : Array Value} {n : Nat} {sl : Array (Option Value)} (hm : mg x = some (.ref a)) (hk : K.lookup a = some ⟨.type "tuple", dd, .seq vs n, sl⟩)
    (hv : vs.toList = ps.map fun p => Value.str p.1 p.2) (hl : ps.length ≤ 1000) : ConT K mg x (.tup (ps.map fun p => D.str p.1)) := by
  have e : (ps.map fun p => D.str p.1) = (ps.map (·.1)).map D.str := by rw [List.map_map]; rfl
  have e2 : (ps.map fun p => V.str p.1) = (ps.map (·.1)).map V.str := by rw [List.map_map]; rfl
  refine ⟨a, hm, fun H => .tup (xs := ps.map fun p => V.str p.1) (.inr ⟨_, _, _, hk, rfl, rfl, ?_, ?_⟩) ?_⟩
  · rw [← Array.length_toList, hv, List.length_map]
    exact sz (by omega)
  · rw [hv]
    exact vals_strs
  · rw [e, e2]
    exact Tps.strs _
end DL
set_option maxHeartbeats 4000000
namespace DL
open PySem L2 PySem.Spec PyProof.Rows
/-! ### a tuple, repeated -/
theorem tuple_mul1 (l : Addr) (items : Array Value) (n : Nat) (dd : Option Addr) (sl : Array (Option Value)) (x : Int) (u : PySem.Tok) (c0 : (decide (x < -(2 ^ 63)) || decide (x ≥ 2 ^ 63)) = false) (c1 : (items.isEmpty || x == 1) = true) :
    Meets (Builtin.«tuple.__mul__» ⟨[.ref l, .int x u], []⟩) (fun _ R s => s.heap.get? l = some { cls := .type "tuple", dict := dd, data := .seq items n, slots := sl } ∧ R (.ok (.ret (Value.ref l))) { s with heap := s.heap, toks := s.toks }) :=
  .of_wp fun prog w A R s h => by
    obtain ⟨hp, g, d, tk, os⟩ := s
    obtain ⟨hl, h⟩ := h
    have f1 := AutoSeq1.idx_int
    have f2 := AutoSeq1.sub_tuple_tuple
    wp_walk using wpAny_loadPart' hl
    repeat (first
      | (refine wpAny_ite_false (decide_eq_false (by rw [c0]; exact Bool.false_ne_true)) ?_; wp_walk using wpAny_loadPart' hl)
      | (refine wpAny_ite_true (decide_eq_true c1) ?_; wp_walk using wpAny_loadPart' hl))
    exact ⟨_, rfl, h⟩
def rRep1 (K : PySem.W.Frag) : R2 := fun x y H Q => ∃ l k xs, x = .ref l ∧ y = .int k ∧ SqT K H l xs ∧ (xs = [] ∨ k = 1) ∧ 0 ≤ k ∧ k ≤ 1000 ∧ xs.length ≤ 1000 ∧ Q (.ref l) H
section
variable {X : Cx}
theorem op_rep1 : OpR X (binaryOp .Mult) (rRep1 X.K) := by
  intro pins s σ H x y v u Q I rx ry h
  obtain ⟨l, k, xs, rfl, rfl, hT, hne, h1, h2, hz, q⟩ := h
  cases rx
  obtain ⟨t, rfl⟩ := ry
  obtain ⟨its, r, ⟨⟨cls, dd, data, sl⟩, ho, hc, n, hd⟩, hs⟩ := I.tuple hT
  simp only at hc hd
  subst hc hd
  have c0 : (decide (k < -(2 ^ 63)) || decide (k ≥ 2 ^ 63)) = false := by
    rw [decide_eq_false (by omega), decide_eq_false (by omega)] <;> rfl
  have c1 : (its.toArray.isEmpty || k == 1) = true := by
    rcases hne with rfl | rfl
    · cases r
      rfl
    · rw [Bool.or_eq_true]
      exact .inr rfl
  refine wpAny_binaryOp_repeat_ref (T := "tuple") (U := "int") (by decide) ⟨_, ho, rfl⟩ (fun s' => typeIs_int s' k t) noFill_tuple_mul F.fills_int_mul F.slot_int_rmul repeat_tuple F.slot_int_index.lookup
    (call_meets F.slot_int_rmul (typeIs_int s k t) F.entry_int_rmul (F.args_int_rmul_2 _ _) (int_rmul_tuple k t l its.toArray n dd sl)
      ⟨ho, rfl, ⟨_, ho, rfl⟩, call_meets F.slot_tuple_mul ⟨_, ho, rfl⟩ F.entry_tuple_mul (F.args_tuple_mul_2 _ _) (tuple_mul1 l its.toArray n dd sl k t c0 c1) ⟨ho, ?_⟩⟩)
  exact ⟨.ref l, H, I.tok _, rfl, q⟩
def RRep : R3 := fun x y M Q => ∃ (ds : List D) (k : Nat), x = .tup ds ∧ y = .int (k : Int) ∧ 1 ≤ k ∧ k ≤ 1000 ∧ ds.length ≤ 1000 ∧ Q (.tup (List.replicate k ds).flatten) M
theorem rep_nil : ∀ k : Nat, (List.replicate k ([] : List D)).flatten = []
  | 0 => rfl
  | k + 1 => by rw [List.replicate_succ, List.flatten_cons, rep_nil k]; rfl
theorem tps_rep {K : PySem.W.Frag} {H : Hp} {xs : List V} {ds : List D} (h : Tps K H xs ds) : ∀ k : Nat, Tps K H (List.replicate k xs).flatten (List.replicate k ds).flatten
  | 0 => .nil
  | k + 1 => by
    rw [List.replicate_succ, List.flatten_cons, List.replicate_succ, List.flatten_cons]
    exact h.append (tps_rep h k)
theorem rd_rep {K : PySem.W.Frag} : RD K (fun x y H Q => rRepT K x y H Q ∨ rRep1 K x y H Q) RRep := by
  intro H0 H M vx vy x y Q Q' i R tx ty k q
  obtain ⟨ds, n, rfl, rfl, h1, h2, hz, q⟩ := q
  cases ty
  cases tx with
  | @tup a xs ds hs ha =>
    by_cases hc : xs = [] ∨ n = 1
    · refine .inr ⟨a, n, xs, rfl, rfl, hs, ?_, by omega, by omega, by rw [ha.length]; exact hz, ?_⟩
      · rcases hc with h | h
        · exact .inl h
        · exact .inr (by omega)
      · refine k _ _ _ _ i R (.tup hs ha) ?_
        rcases hc with h | h
        · subst h
          cases ha
          rw [rep_nil] at q
          exact q
        · subst h
          have : (List.replicate 1 ds).flatten = ds := by simp
          rw [this] at q
          exact q
    · have hn1 : n ≠ 1 := fun h => hc (.inr h)
      refine .inl ⟨a, n, xs, rfl, rfl, hs, fun h => hc (.inl h), by omega, by omega, by rw [ha.length]; exact hz, fun p hp => ?_⟩
      rw [Int.toNat_natCast]
      have im := Imm.new (o := .tup (List.replicate n xs).flatten) hp
      exact k _ _ _ _ (i.trans im) (R.skip hp) (.tup (SqT.of upd_same) (Tps.mono im _ _ (tps_rep ha n))) q
end
theorem e_rep {X : Cx} {a b : Expr} {σ : Sd} {M : Mp} {Q : QD} {pos : Pos} (h : ES X a σ M fun x M1 => ES X b σ M1 fun y M2 => RRep x y M2 Q) : ES X (.BinOp a .Mult b pos) σ M Q := e_op (OpR.or op_repT op_rep1) rd_rep h
end DL
set_option maxHeartbeats 4000000
namespace L2
open PySem PySem.Spec PyProof.Rows
/-! ### an __init__ that begins with super().__init__(text) -/
/-- the context of a def whose only free name is __class__ -/
def cxS (CX : CXT) (P : Program) (w : World) (K : PySem.W.Frag) (mg : Str → Option Value) (base : Heap) (N : List Str) (qual : Str) (scope : Scope) (f : Addr) (cd : Value) (cc : Addr) (A : Around) (outer : List Env) (s : Shared) (H : Hp) (E : XK) : Cx where
  prog := P
  w := w
  K := K
  mg := mg
  base := base
  A := A.deeper (PySem.W.ksEnv qual scope s.heap.objs.size f cd cc)
  N := N
  s_0 := s
  H_0 := H
  env := PySem.W.ksEnv qual scope s.heap.objs.size f cd cc
  outer := outer
  stack := PySem.W.ksEnv qual scope s.heap.objs.size f cd cc :: outer
  ex := []
  calm := true
  fn := fun x => !(x == ("__class__" : Str))
  pn := []
  xe := fun e s' => wpAny (model P w) (A.deeper (PySem.W.ksEnv qual scope s.heap.objs.size f cd cc)) (leaving (PySem.W.ksEnv qual scope s.heap.objs.size f cd cc) e) (fun _ s'' => CX outer H s E e s'') (fun e' s'' => CX outer H s E e' s'') s'
structure SScope (N P : List Str) (sc : Scope) : Prop where
  kind : sc.kind = .function
  co : sc.isCoroutine = false
  gen : sc.isGenerator = false
  nd : N.Nodup
  pre : N.take P.length = P
  par : ∀ x ∈ P, sc.names.lookup x = some .local
  nocell : ∀ y ∈ sc.names, y.2 ≠ .cell
  free : ∀ x, sc.names.lookup x = some .free → x = "__class__"
  cls : sc.names.lookup ("__class__" : Str) = some .free
  sup : sc.names.lookup ("super" : Str) = some .globalImplicit
theorem look1 {k x : Str} {c d : Addr} (h : ([(k, c)] : List (Str × Addr)).lookup x = some d) : x = k ∧ d = c := by
  by_cases e : x = k
  · subst e
    simp at h
    exact ⟨rfl, h.symm⟩
  · have : (x == k) = false := by simpa using e
    simp [List.lookup, this] at h
theorem rev_get {x : Str} {v : Value} : ∀ {P : List Str} {vs : List Value} {i : Nat}, P.Nodup → P[i]? = some x → vs[i]? = some v → (P.zip vs).reverse.lookup x = some v
  | [], _, _, _, h, _ => by simp at h
  | _ :: _, [], _, _, _, h => by simp at h
  | p :: P, w :: vs, i, nd, h1, h2 => by
    rw [List.zip_cons_cons, List.reverse_cons, List.lookup_append]
    cases i with
    | zero =>
      simp at h1 h2
      subst h1 h2
      have hn : (P.zip vs).reverse.lookup p = none := by
        rw [List.lookup_eq_none_iff]
        rintro ⟨a, b⟩ hm
        have := (List.of_mem_zip (List.mem_reverse.mp hm)).1
        simpa using fun e : p = a => (List.nodup_cons.mp nd).1 (e ▸ this)
      rw [hn]
      simp
    | succ i =>
      rw [rev_get (i := i) (List.nodup_cons.mp nd).2 (by simpa using h1) (by simpa using h2)]
      rfl
theorem inv_startS {CX : CXT} {P : Program} {w : World} {K : PySem.W.Frag} {mg : Str → Option Value} {base : Heap} {N ps : List Str} {qual : Str} {scope : Scope} {f cc D : Addr} {cd cl : Value} {cld : Option Addr} {csl : Array (Option Value)} {A : Around} {outer : List Env} {s : Shared} {H : Hp} {E : XK} {us : List Value} {vs : List V} {h1 : Heap} {tk : Nat}
    (S : SScope N ps scope) (hcell : K.lookup cc = some ⟨cl, cld, .cell (some (.ref D)), csl⟩) (hd : A.handled = none) (e0 : Env0 P w K mg base A outer s H) (hl : vs.length = ps.length) (r : Vals vs us)
    (hns : h1.Ns s.heap.objs.size (fun x => (ps.zip us).reverse.lookup x)) (hk : ∀ b o, s.heap.get? b = some o → h1.get? b = some o) :
    Inv (cxS CX P w K mg base N qual scope f cd cc A outer s H E) [] (start N vs) H { s with heap := h1, toks := tk } := by
  have hpl : ps.length ≤ N.length := by have := congrArg List.length S.pre; rw [List.length_take] at this; omega
  have KX : K.In s.heap := e0.mod.kin.keeps fun b o e => (e0.bs b o e).1
  have noA : ∀ b : Addr, b ∉ (cxS CX P w K mg base N qual scope f cd cc A outer s H E).ex := fun b z => absurd (show b ∈ ([] : List Addr) from z) (by simp)
  refine ⟨⟨e0.mod, S.kind, rfl, rfl, Nat.le_refl _, fun y z c h1 h2 => ?_, fun y hy => ?_, fun y c hf h => ?_, fun _ => hd, Around.frames_deeper e0.frames, .inr ⟨rfl, rfl⟩, fun b z => absurd z (noA b), e0.bs, e0.bsz, fun b _ _ => noA b, fun b z => absurd z (noA b), e0.funs, e0.frf⟩,
    rfl, e0.bare, Un.kept hk, ⟨_, hns, fun i y v h1 h2 h3 => ?_⟩, fun y c h => ?_, e0.hok.fresh (Nat.le_refl _), fun y c h => ?_, fun p hp => absurd (show p ∈ ([] : List (Addr × Obj)) from hp) (by simp), e0.hok.kept hk, ?_⟩
  · exact (look1 h1).1.trans (look1 h2).1.symm
  · have hy : scope.names.lookup y = some .cell ∨ scope.names.lookup y = some .free := hy
    rcases hy with hy | hy
    · exact absurd rfl (S.nocell _ (PySem.mem_of_lookup hy))
    · have := S.free y hy
      subst this
      exact ⟨cc, by show ([(("__class__" : Str), cc)] : List (Str × Addr)).lookup _ = _; simp⟩
  · have := (look1 h).1
    subst this
    exact absurd (show (!(("__class__" : Str) == ("__class__" : Str))) = true from hf) (by decide)
  · have hi : i < vs.length := by
      unfold start at h2
      by_cases hi : i < vs.length
      · exact hi
      · rw [List.getElem?_append_right (by simpa using hi)] at h2
        rw [List.getElem?_replicate] at h2
        split at h2 <;> cases h2
    have ha : vs[i]? = some v := by
      unfold start at h2
      rw [List.getElem?_append_left (by simpa using hi), List.getElem?_map] at h2
      cases e : vs[i]? with
      | none => rw [e] at h2; cases h2
      | some a => rw [e] at h2; cases h2; rfl
    obtain ⟨u, hu, rv⟩ := r.get ha
    have hp : ps[i]? = some y := by
      rw [← S.pre, List.getElem?_take_of_lt (by omega)]; exact h1
    have ndP : ps.Nodup := by rw [← S.pre]; exact S.nd.sublist (List.take_sublist _ _)
    exact ⟨u, rv, .inl ⟨S.par y (List.mem_of_getElem? hp), rev_get ndP hp hu⟩⟩
  · obtain ⟨_, rfl⟩ := look1 h
    exact ⟨_, _, hk _ _ (KX _ _ hcell), rfl⟩
  · obtain ⟨_, rfl⟩ := look1 h
    exact (e0.bs _ _ (e0.mod.kin _ _ hcell)).2
  · unfold start
    show _ = N.length
    rw [List.length_append, List.length_map, List.length_replicate]
    omega
/-- what the written part says of an own exception class above ValueError whose __init__ says super().__init__ -/
structure SupC (P : Program) (K : PySem.W.Frag) (mg : Str → Option Value) (cc C cda : Addr) : Prop where
  cell : ∃ cl cld csl, K.lookup cc = some ⟨cl, cld, .cell (some (.ref C)), csl⟩
  code : ∃ ccl cdd vs ccs file tf, K.lookup cda = some ⟨ccl, cdd, .fields vs, ccs⟩ ∧ vs[2]? = some (.str file tf) ∧ ((P.main.file : Str) == file) = true
  mro : PySem.W.mroIn K C (.ref C) = some true
  sup : PySem.W.ks_superIn K C C "__init__" = some (some (.builtin "ValueError.__init__"))
  base : PySem.W.subIn K (.ref C) (.type "ValueError") = some true
  third : PySem.W.nsIn K PySem.cStatics "thirdparty.any" = some none
  msup : mg "super" = none
  top : (P.main.scope.names.lookup ("super" : Str)).isSome = false
section
variable {prog : Program} {w : World} {A : Around} {E : Value → Shared → Prop} {h : Heap} {g : Array GenState} {d : Drawn} {t : Nat} {os : OsState} {B i newId : String} {bmB : List Value}
variable {nm q : Str} {C N : Addr} {bs bm : List Value} {hdct : Bool} {sn : List Str} {sub : List Value} {ab : Bool} {col : Option Bool} {dd : Option Addr} {k0 k1 k2 k3 k5 : Option Value}
theorem call_mw (FB : ExcBaseFacts B newId i bmB) {u x t0 : Addr} {rest : List Value} {Q : Value → Shared → Prop}
    (hC : h.get? C = some (excClassObj nm q C N bs bm hdct sn sub ab col dd k0 k1 k2 k3 k5 newId)) (he : h.get? x = some (PySem.HandSPX.excO C t0)) (hu : h.get? u = some (PySem.W.kxs_mw i x)) (hz : rest.length ≤ sizeLine)
    (hq : ∀ h' t1, (∀ b o, b ≠ x → h.get? b = some o → h'.get? b = some o) → h'.get? x = some (PySem.HandSPX.excO C t1) → Q .none ⟨h', g, d, t, os⟩) :
    wpAny (model prog w) A (call (.ref u) rest) Q E ⟨h, g, d, t, os⟩ := by
  refine wpAny_call (codeAny_of_tree ?_)
  show wpAny _ A.in1 (callAny (.ref u) ⟨rest, []⟩) _ _ _
  simp only [callAny]
  refine wpAny_bind (wpAny_load hu ?_)
  simp only [PySem.W.kxs_mw, show (Value.type "method-wrapper" == Value.type "method" || Value.type "method-wrapper" == Value.type "builtin_function_or_method" || Value.type "method-wrapper" == Value.type "method-wrapper") = true by decide, if_true]
  refine PySem.W.KFB.if_so (by decide) ?_
  refine wpAny_bind (PySem.W.check_bound_init FB.toExcCallFacts hC he rfl ?_)
  refine wpAny_bind (wpAny_pure (wpAny_pure ?_))
  refine ⟨plainId_quiet FB.init.plain _, codeAny_builtin FB.initEntry ?_⟩
  exact PySem.W.exc_init_tree (cls := .ref C) (t0 := t0) (dv := none) (c2 := .none) (c3 := .none) (b4 := .bool false) he hz fun h' k e' _ => hq h' _ k e'
end
theorem callWith_mw {M : Model} {A : Around} {E : Value → Shared → Prop} {s : Shared} {i : String} {u x : Addr} {pos : Pos} {env : Env} {e : Expr} {rest : List Expr} {Q : Value → Shared → Prop}
    (h : wpAny M A (spliced (backTo pos (starEach (e :: rest) env))) (fun vs s₁ => PySem.W.KxsAt i u x s₁.heap ∧ wpAny M A (call (.ref u) vs) Q E s₁) E s)
    (he : starEach (e :: rest) env = (false, eval e env) :: starEach rest env := by rfl) (hplain : (backTo pos (starEach rest env)).any (·.1) = false := by rfl) :
    wpAny M A (callWith pos (.ref u) [] (backTo pos (starEach (e :: rest) env)) []) Q E s := by
  rw [he] at h ⊢
  refine PySem.W.kxs_callWith (i := i) (x := x) (by show (false || (backTo pos (starEach rest env)).any (·.1)) = false; rw [hplain]; rfl) ?_
  exact Calls.evalArgs_plain h
theorem excO_of {C t1 : Addr} {h : Heap} {a : Addr} (e : h.get? a = some ({ cls := .ref C, dict := none, data := .fields #[.ref t1, .none, .none, .none, .bool false, .none] } : Obj)) : h.get? a = some (PySem.HandSPX.excO C t1) := e
theorem boot_super : bootBuiltins "super" = some (.type "super") := by first | rfl | kernel_rfl
/-- super().__init__(text), the first statement -/
theorem super_st {CX : CXT} {P : Program} {w : World} {K : PySem.W.Frag} {mg : Str → Option Value} {base : Heap} {N ps : List Str} {qual : Str} {scope : Scope} {f cc C cda a : Addr} {A : Around} {outer : List Env} {s0 : Shared} {H0 H : Hp} {E0 : XK} {σ : St} {s : Shared}
    {fd : FuncData} {oc : Value} {od : Option Addr} {osl : Array (Option Value)} {ar : Arg} {body : List Stmt} {txt : Str} {p0 p1 ap p2 pos p3 : Pos} {j : Nat} {pl : Sem Bool} {Q : Flow → Shared → Prop}
    (S : SScope N ps scope) (SC : SupC P K mg cc C cda) (lk : K.lookup f = some ⟨oc, od, .func fd, osl⟩) (hp : (fd.params.posonlyargs ++ fd.params.args).head? = some ar) (har : N[0]? = some ar.arg) (hloc : scope.names.lookup ar.arg = some .local)
    (T : OexC K C) (I : Inv (cxS CX P w K mg base N qual scope f (.ref cda) cc A outer s0 H0 E0) [] σ H s) (hσ : σ[0]? = some (some (.ref a))) (ea : H a = some (exo a C none))
    (hq : ∀ s', Inv (cxS CX P w K mg base N qual scope f (.ref cda) cc A outer s0 H0 E0) [] σ H s' → Q .next s')
    (hi : interactive (cxS CX P w K mg base N qual scope f (.ref cda) cc A outer s0 H0 E0).env = false) (hsw : swapsWith (.Call (.Attribute (.Call (.Name "super" p0) [] [] p1) "__init__" ap) [.Constant (.str txt) j p2] [] pos) none p3.line (cxS CX P w K mg base N qual scope f (.ref cda) cc A outer s0 H0 E0).env = pure false)
    (hst : starEach [.Constant (.str txt) j p2] (cxS CX P w K mg base N qual scope f (.ref cda) cc A outer s0 H0 E0).env = (false, eval (.Constant (.str txt) j p2) (cxS CX P w K mg base N qual scope f (.ref cda) cc A outer s0 H0 E0).env) :: starEach [] (cxS CX P w K mg base N qual scope f (.ref cda) cc A outer s0 H0 E0).env)
    (hce : eval (.Call (.Attribute (.Call (.Name "super" p0) [] [] p1) "__init__" ap) [.Constant (.str txt) j p2] [] pos) (cxS CX P w K mg base N qual scope f (.ref cda) cc A outer s0 H0 E0).env = (do
      let ov ← attributeBase (.Call (.Name "super" p0) [] [] p1) "__init__" (cxS CX P w K mg base N qual scope f (.ref cda) cc A outer s0 H0 E0).env (eval (.Call (.Name "super" p0) [] [] p1) (cxS CX P w K mg base N qual scope f (.ref cda) cc A outer s0 H0 E0).env)
      standAt ap.atName
      let (fv, first) ← holding [ov] (getMethod ov "__init__" pl)
      callWith pos fv first (backTo pos (starEach [.Constant (.str txt) j p2] (cxS CX P w K mg base N qual scope f (.ref cda) cc A outer s0 H0 E0).env)) [])) :
    PySem.wpAt (model P w) (cxS CX P w K mg base N qual scope f (.ref cda) cc A outer s0 H0 E0).A (.func body (cxS CX P w K mg base N qual scope f (.ref cda) cc A outer s0 H0 E0).env) (exec (.Expr (.Call (.Attribute (.Call (.Name "super" p0) [] [] p1) "__init__" ap) [.Constant (.str txt) j p2] [] pos) p3) (cxS CX P w K mg base N qual scope f (.ref cda) cc A outer s0 H0 E0).env) Q (cxS CX P w K mg base N qual scope f (.ref cda) cc A outer s0 H0 E0).xe s := by
  obtain ⟨cl, cld, csl, hcell⟩ := SC.cell
  obtain ⟨ccl, cdd, vs, ccs, file, tf, hcode, hvs, hfile⟩ := SC.code
  obtain ⟨nm, q, N', bs, bm, sn, sub, ab, col, dd, k0, k1, k2, k3, k5, hC, hbm⟩ := T.cls
  have hcl : PySem.W.clsIn K C = some { name := nm, bases := bs, mro := .ref C :: bm, ns := N', qualname := q, hasDict := true, slotNames := sn, subclasses := sub, abstract := ab, collection := col, hasDel := false } := by unfold PySem.W.clsIn; rw [hC] <;> rfl
  have hsup := SC.sup
  unfold PySem.W.ks_superIn at hsup
  rw [hcl] at hsup
  obtain ⟨m, hns, hlk⟩ := id I.loc
  have hself : m ar.arg = some (.ref a) := by
    obtain ⟨u, ru, lo⟩ := hlk 0 ar.arg (.ref a) har hσ (.inl hloc)
    obtain rfl : u = .ref a := ru
    rcases lo with ⟨_, h⟩ | ⟨h, _⟩
    · exact h
    · have h' : scope.names.lookup ar.arg = some .cell ∨ scope.names.lookup ar.arg = some .free := h
      rw [hloc] at h'
      rcases h' with h' | h' <;> cases h'
  obtain ⟨mb, hb1, hb2⟩ := I.mod.blt
  refine PySem.ks_wpAt_Expr_any (PySem.ks_wpAt_MethodCall (pl := pl) ?_ hce) hi hsw
  refine PySem.ks_wpAt_super_base S.sup S.cls rfl rfl (I.kIn _ _ lk) rfl hp rfl (I.kIn _ _ hcode) rfl hvs hfile SC.top ?_
  refine PySem.W.ks_loadName_global S.kind S.sup (Calls.loadGlobal_builtin (I.mod.glob.keeps I.bk) SC.msup (hb1.keeps I.bk) ((hb2 "super" (by decide)).trans boot_super) ⟨rfl, ?_⟩)
  refine wpAny_loadName_free S.kind S.cls rfl ⟨_, I.kIn _ _ hcell, rfl⟩ ?_
  refine wpAny_loadName_local S.kind hloc hns hself ?_
  have hCh := I.kIn _ _ hC
  refine PySem.ks_wpAny_isType_cls hCh rfl ⟨rfl, ?_⟩
  obtain ⟨t1, ho⟩ := exo_at I.hok ea
  obtain ⟨hp0, g, dr, tk, os⟩ := s
  refine PySem.ks_wpAny_call_super hCh rfl ho rfl (fun c e => by cases e) (PySem.W.looks_mroIn I.kIn SC.mro) (fun h1 e1 k1 => ?_)
  have I1 := I.kept (t' := tk) k1
  have ho1 := k1 _ _ ho
  have hI : PySem.W.Looks (model P w) h1 (isInstance (.ref a) (.type "ValueError")) true := (show PySem.W.InstAt h1 a _ C none from ⟨ho1, rfl, rfl, trivial⟩).type.andThen (PySem.W.looks_subIn I1.kIn SC.base)
  have hxC : a ≠ C := fun z => by
    have := I.kIn _ _ hC
    rw [← z] at this
    rw [show hp0.get? a = _ from ho] at this
    cases this
  refine PySem.W.kxs_getMethod PySem.W.kxs_ValueError e1 (PySem.W.looks_opaque I1.kIn SC.third) (fun A Q E s k q => wpAny_bind ((PySem.W.looks_clsIn I1.kIn hcl) A _ E s k (wpAny_pure q))) rfl I1.kIn hsup hI hxC rfl ?_
  have k2' : ∀ b o, h1.get? b = some o → (h1.push (PySem.W.kxs_mw "ValueError.__init__" a)).get? b = some o := fun b o e => Heap.get?_push_of_some _ e
  have I2 := I1.kept (t' := tk + 1) k2'
  have hmw : (h1.push (PySem.W.kxs_mw "ValueError.__init__" a)).get? h1.objs.size = some (PySem.W.kxs_mw "ValueError.__init__" a) := Heap.get?_push_at rfl rfl
  have hn : H h1.objs.size = none := I1.hok.fresh (Nat.le_refl _)
  have I3 := I2.pins_of (pins' := [(h1.objs.size, PySem.W.kxs_mw "ValueError.__init__" a)]) (fun p hp => by
    rw [List.mem_singleton.mp hp]
    exact ⟨hmw, hn, Ne.symm (Nat.ne_of_lt I1.lt), I1.nofs (Nat.le_refl _), fun v z => by cases z⟩)
  refine callWith_mw (i := "ValueError.__init__") (x := a) ?_ hst rfl
  refine wpAny_mono ((pa_cons pe_str pa_nil hst).run pos _ _ σ H (fun vs H1 => vs = [.str txt] ∧ H1 = H) I3 ⟨rfl, rfl⟩) (fun us s3 hh => ?_) fun _ _ x => x
  obtain ⟨vs3, H3, J, rv, e3, e4⟩ := hh
  subst e3
  rw [e4] at J
  have hu3 := (J.pin (h1.objs.size, PySem.W.kxs_mw "ValueError.__init__" a) (List.mem_append_right _ (List.mem_singleton_self _))).1
  refine ⟨hu3, ?_⟩
  obtain ⟨t3, ho3⟩ := exo_at J.hok ea
  have J0 := J.pins_of (pins' := []) (fun p hp => by cases hp)
  obtain ⟨hp3, g3, d3, tk3, os3⟩ := s3
  have hlen : us.length ≤ sizeLine := by
    rw [← Paired.length rv, sizeLine_eq]
    show 1 ≤ _
    omega
  refine call_mw F.excBase_ValueError (J.kIn _ _ hC) (excO_of ho3) hu3 hlen fun h4 t4 k4 e4 => ?_
  have J4 := J0.write (t' := tk3) (x := a) (e := a) (o := exo a C none) (by rw [ea]; exact True.intro) (.inl rfl) k4 ⟨_, e4⟩ (exo_ok e4)
  have eu : upd H a (exo a C none) = H := by
    funext b
    by_cases hb : b = a
    · rw [hb, upd_same, ea]
    · rw [upd_ne hb]
  rw [eu] at J4
  exact hq _ J4
theorem env_cxS {CX : CXT} {P : Program} {w : World} {K : PySem.W.Frag} {mg : Str → Option Value} {base : Heap} {N : List Str} {qual : Str} {scope : Scope} {f cc : Addr} {cd : Value} {A : Around} {outer : List Env} {s : Shared} {H : Hp} {E : XK} :
    (cxS CX P w K mg base N qual scope f cd cc A outer s H E).env = PySem.W.ksEnv qual scope s.heap.objs.size f cd cc := rfl
/-- what has to be known of the first statement, in every frame -/
structure SupSt (qual : Str) (scope : Scope) (f : Addr) (cd : Value) (cc : Addr) (txt : Str) (p0 p1 ap p2 pos p3 : Pos) (j : Nat) : Prop where
  hi : ∀ L, interactive (PySem.W.ksEnv qual scope L f cd cc) = false
  hsw : ∀ L, swapsWith (.Call (.Attribute (.Call (.Name "super" p0) [] [] p1) "__init__" ap) [.Constant (.str txt) j p2] [] pos) none p3.line (PySem.W.ksEnv qual scope L f cd cc) = pure false
  hst : ∀ L, starEach [.Constant (.str txt) j p2] (PySem.W.ksEnv qual scope L f cd cc) = (false, eval (.Constant (.str txt) j p2) (PySem.W.ksEnv qual scope L f cd cc)) :: starEach [] (PySem.W.ksEnv qual scope L f cd cc)
  hce : ∀ L, ∃ pl : Sem Bool, eval (.Call (.Attribute (.Call (.Name "super" p0) [] [] p1) "__init__" ap) [.Constant (.str txt) j p2] [] pos) (PySem.W.ksEnv qual scope L f cd cc) = (do
      let ov ← attributeBase (.Call (.Name "super" p0) [] [] p1) "__init__" (PySem.W.ksEnv qual scope L f cd cc) (eval (.Call (.Name "super" p0) [] [] p1) (PySem.W.ksEnv qual scope L f cd cc))
      standAt ap.atName
      let (fv, first) ← holding [ov] (getMethod ov "__init__" pl)
      callWith pos fv first (backTo pos (starEach [.Constant (.str txt) j p2] (PySem.W.ksEnv qual scope L f cd cc))) [])
/-- a def that begins with super().__init__(text) -/
theorem fn_super {CX : CXT} {P : Program} {w : World} {K : PySem.W.Frag} {mg : Str → Option Value} {base : Heap} {k : Nat} {f cc C cda : Addr} {name qual : Str} {params : Arguments} {body : List Stmt} {scope : Scope} {dV kV doc pm ct oc : Value} {an od : Option Addr}
    {osl : Array (Option Value)} {N ps : List Str} {sp : Sp} {ar : Arg} {txt : Str} {p0 p1 ap p2 pos p3 : Pos} {j : Nat}
    (lk : K.lookup f = some ⟨oc, od, .func (PySem.W.ksFn name qual params (.Expr (.Call (.Attribute (.Call (.Name "super" p0) [] [] p1) "__init__" ap) [.Constant (.str txt) j p2] [] pos) p3 :: body) scope dV kV doc pm an (.ref cda) ct cc), osl⟩)
    (hcd : PySem.W.codeIn K (.ref cda) qual = true) (S : SScope N ps scope) (SC : SupC P K mg cc C cda) (T : OexC K C) (SS : SupSt qual scope f (.ref cda) cc txt p0 p1 ap p2 pos p3 j)
    (hp : (params.posonlyargs ++ params.args).head? = some ar) (har : N[0]? = some ar.arg) (hloc : scope.names.lookup ar.arg = some .local)
    (len : ∀ vs H Q E, sp vs H Q E → vs.length = ps.length)
    (hbody : ∀ (A : Around) (outer : List Env) (s : Shared) (H : Hp) (vs : List V) (Q : VK) (E : XK), sp vs H Q E → ∃ a t, vs[0]? = some (.ref a) ∧ H a = some (exo a C none) ∧
      PSs (cxS CX P w K mg base N qual scope f (.ref cda) cc A outer s H E) body t ∧ t { nx := fun _ H' => Q .non H', rt := Q } (start N vs) H) :
    FnOk P w K mg base CX (k + 1) f (PySem.W.ksFn name qual params (.Expr (.Call (.Attribute (.Call (.Name "super" p0) [] [] p1) "__init__" ap) [.Constant (.str txt) j p2] [] pos) p3 :: body) scope dV kV doc pm an (.ref cda) ct cc) ps sp := by
  refine ⟨len, fun A outer s H args us vs Q E hr e0 hb r hsp => ?_⟩
  have hl := len _ _ _ _ hsp
  have KX : K.In s.heap := e0.mod.kin.keeps fun b o e => (e0.bs b o e).1
  have lim : s.heap.NoLimit := e0.mod.nolimit.keeps fun b o e => (e0.bs b o e).1
  obtain ⟨cl, cld, csl, hcell⟩ := SC.cell
  refine PySem.ks_codeAny_call_defAt hr.depth (KX _ _ lk) rfl lim (PySem.W.codeRec_of KX hcd) rfl hb S.nocell (fun y hy => S.par _ (List.of_mem_zip hy).1) (fun h₁ hns hk₁ => ?_) S.co S.gen S.kind
  obtain ⟨a, t, ha, ea, ht, hq⟩ := hbody A outer s H vs Q E hsp
  have I : Inv (cxS CX P w K mg base N qual scope f (.ref cda) cc A outer s H E) [] (start N vs) H { s with heap := h₁, toks := s.toks + (ps.zip us).length } := inv_startS S hcell hr.hd e0 hl r hns hk₁
  have fin : ∀ {σ' : St} {H' : Hp} {v : V} {u : Value} {s' : Shared}, Inv (cxS CX P w K mg base N qual scope f (.ref cda) cc A outer s H E) [] σ' H' s' → RelV v u → Q v H' → CE outer P w H s Q u s' :=
    fun {σ' H' v u s'} J rv q => ⟨v, H', J.os, J.bare, J.base, J.hok, rv, q⟩
  obtain ⟨pl, hce⟩ := SS.hce s.heap.objs.size
  have hσ : (start N vs)[0]? = some (some (.ref a)) := by
    have hv : 0 < vs.length := by
      cases vs with
      | nil => cases ha
      | cons x r => simp
    unfold start
    rw [List.getElem?_append_left (by simpa using hv), List.getElem?_map, ha]
    rfl
  refine PySem.ks_wpAt_execs_cons (super_st S SC lk hp har hloc T I hσ ea (fun s' J => ?_) (SS.hi _) (SS.hsw _) (SS.hst _) hce)
  refine PySem.wpAt_of_wpAny (wpAny_mono (ht.run [] s' (start N vs) H _ J hq) (fun fl s2 hs => ?_) fun e s' hs => hs)
  cases fl with
  | ret u =>
    obtain ⟨v, σ', H', J, rv, q⟩ := hs
    exact fin J rv q
  | next =>
    obtain ⟨σ', H', J, q⟩ := hs
    exact fin (v := V.non) (u := Value.none) J rfl q
  | brk =>
    obtain ⟨_, _, _, q⟩ := hs
    exact False.elim q
  | cont =>
    obtain ⟨_, _, _, q⟩ := hs
    exact False.elim q
/-! its fields: one or two -/
def spI1 (C : Addr) (f1 : Str) : Sp := fun vs H Q _ => ∃ a v1, vs = [.ref a, v1] ∧ H a = some (exo a C none) ∧ ∀ dx, H dx = none → dx ≠ a → Q .non (upd (upd H dx (exd dx [(f1, v1)])) a (exo a C (some dx)))
def spI2 (C : Addr) (f1 f2 : Str) : Sp := fun vs H Q _ => ∃ a v1 v2, vs = [.ref a, v1, v2] ∧ H a = some (exo a C none) ∧ ∀ dx, H dx = none → dx ≠ a → Q .non (upd (upd (upd H dx (exd dx [(f1, v1)])) a (exo a C (some dx))) dx (exd dx [(f2, v2), (f1, v1)]))
/-- the fields laid, one by one -/
theorem body1 {X : Cx} {C : Addr} {f1 l0 l1 : Str} {pa pb pc pd : Pos} {vs : List V} {H : Hp} {Q : VK} {E : XK} (T : OexC X.K C) (n1 : PySem.W.findIn X.K (.ref C) f1 = some none) (hN : X.N = [l0, l1]) (v0 : Vis X.env.scope l0) (v1 : Vis X.env.scope l1)
    (d0 : (l0 == ("__debug__" : Str)) = false) (d1 : (l1 == ("__debug__" : Str)) = false) (c0 : (l0 == ("__classdict__" : Str)) = false) (c1 : (l1 == ("__classdict__" : Str)) = false)
    (hs : swapsWith (.Name l1 pc) (some (.Attribute (.Name l0 pa) f1 pb)) pd.line X.env = pure false) (h : spI1 C f1 vs H Q E) :
    ∃ a t, vs[0]? = some (.ref a) ∧ H a = some (exo a C none) ∧ PSs X [.Assign [.Attribute (.Name l0 pa) f1 pb] (.Name l1 pc) pd] t ∧ t { nx := fun _ H' => Q .non H', rt := Q } (start X.N vs) H := by
  obtain ⟨a, y, rfl, ea, q⟩ := h
  refine ⟨a, _, rfl, ea, pss_one (ps_ost (pe_var (i := 0) (by rw [hN]; rfl) v0 d0 c0) (pe_var (i := 1) (by rw [hN]; rfl) v1 d1 c1) hs), ?_⟩
  have h1 : (start X.N [V.ref a, y])[1]? = some (some y) := by rw [hN]; rfl
  have h0 : (start X.N [V.ref a, y])[0]? = some (some (.ref a)) := by rw [hN]; rfl
  exact ⟨y, h1, .ref a, h0, a, C, rfl, T, n1, .inl ⟨ea, fun dx n ne => q dx n ne⟩⟩
theorem body2 {X : Cx} {C : Addr} {f1 f2 l0 l1 l2 : Str} {pa pb pc pd pe pf pg ph : Pos} {vs : List V} {H : Hp} {Q : VK} {E : XK} (T : OexC X.K C) (n1 : PySem.W.findIn X.K (.ref C) f1 = some none) (n2 : PySem.W.findIn X.K (.ref C) f2 = some none) (hN : X.N = [l0, l1, l2])
    (v0 : Vis X.env.scope l0) (v1 : Vis X.env.scope l1) (v2 : Vis X.env.scope l2)
    (d0 : (l0 == ("__debug__" : Str)) = false) (d1 : (l1 == ("__debug__" : Str)) = false) (d2 : (l2 == ("__debug__" : Str)) = false) (c0 : (l0 == ("__classdict__" : Str)) = false) (c1 : (l1 == ("__classdict__" : Str)) = false) (c2 : (l2 == ("__classdict__" : Str)) = false)
    (hs : swapsWith (.Name l1 pc) (some (.Attribute (.Name l0 pa) f1 pb)) pd.line X.env = pure false) (hs2 : swapsWith (.Name l2 pg) (some (.Attribute (.Name l0 pe) f2 pf)) ph.line X.env = pure false) (h : spI2 C f1 f2 vs H Q E) :
    ∃ a t, vs[0]? = some (.ref a) ∧ H a = some (exo a C none) ∧ PSs X [.Assign [.Attribute (.Name l0 pa) f1 pb] (.Name l1 pc) pd, .Assign [.Attribute (.Name l0 pe) f2 pf] (.Name l2 pg) ph] t ∧ t { nx := fun _ H' => Q .non H', rt := Q } (start X.N vs) H := by
  obtain ⟨a, y, z, rfl, ea, q⟩ := h
  refine ⟨a, _, rfl, ea, pss_cons (ps_ost (pe_var (i := 0) (by rw [hN]; rfl) v0 d0 c0) (pe_var (i := 1) (by rw [hN]; rfl) v1 d1 c1) hs) (pss_one (ps_ost (pe_var (i := 0) (by rw [hN]; rfl) v0 d0 c0) (pe_var (i := 2) (by rw [hN]; rfl) v2 d2 c2) hs2)), ?_⟩
  have h2 : (start X.N [V.ref a, y, z])[2]? = some (some z) := by rw [hN]; rfl
  have h1 : (start X.N [V.ref a, y, z])[1]? = some (some y) := by rw [hN]; rfl
  have h0 : (start X.N [V.ref a, y, z])[0]? = some (some (.ref a)) := by rw [hN]; rfl
  refine ⟨y, h1, .ref a, h0, a, C, rfl, T, n1, .inl ⟨ea, fun dx n ne => ?_⟩⟩
  exact ⟨z, h2, .ref a, h0, a, C, rfl, T, n2, .inr ⟨dx, [(f1, y)], upd_same, by rw [upd_ne ne, upd_same], by show 1 ≤ 900; decide, q dx n ne⟩⟩
/-- what C's __init__ has to give, for C(e, ..) to be an exception with the fields fs -/
def GiveI (C : Addr) (fs : List Str) (sp : Sp) : Prop := ∀ (vs : List V) (H1 : Hp) (Q : XK), vs.length = fs.length → (∀ d, H1 d = none → Q (.ref C) (some d) (upd H1 d (.xd (fs.zip vs).reverse))) →
  vs.length ≤ 1000 ∧ ∀ a, H1 a = none → sp (.ref a :: (vs ++ [])) (upd H1 a (exo a C none)) (fun v H2 => v = .non ∧ ∃ (d : Addr) (gs : List (Str × V)), H2 a = some (exo a C (some d)) ∧ H2 d = some (exd d gs) ∧ H1 d = none ∧ Q (.ref C) (some d) (upd (del H2 a) d (.xd gs))) (fun _ _ _ => False)
theorem give1 (C : Addr) (f1 : Str) : GiveI C [f1] (spI1 C f1) := fun vs H1 Q hl q => by
  match vs, hl with
  | [y], _ =>
    refine ⟨by show 1 ≤ 1000; decide, fun a ha => ⟨a, y, rfl, upd_same, fun dx hd ne => ⟨rfl, dx, [(f1, y)], upd_same, by rw [upd_ne ne, upd_same], ?_, ?_⟩⟩⟩
    · rw [upd_ne ne] at hd; exact hd
    · rw [upd_ne ne] at hd
      have e : upd (del (upd (upd (upd H1 a (exo a C none)) dx (exd dx [(f1, y)])) a (exo a C (some dx))) a) dx (HO.xd [(f1, y)]) = upd H1 dx (.xd [(f1, y)]) := by
        funext b
        by_cases h1 : b = dx
        · rw [h1, upd_same, upd_same]
        · rw [upd_ne h1, upd_ne h1]
          by_cases h2 : b = a
          · rw [h2, del_same, ha]
          · rw [del_ne h2, upd_ne h2, upd_ne h1, upd_ne h2]
      rw [e]
      exact q dx hd
theorem give2 (C : Addr) (f1 f2 : Str) : GiveI C [f1, f2] (spI2 C f1 f2) := fun vs H1 Q hl q => by
  match vs, hl with
  | [y, z], _ =>
    refine ⟨by show 2 ≤ 1000; decide, fun a ha => ⟨a, y, z, rfl, upd_same, fun dx hd ne => ⟨rfl, dx, [(f2, z), (f1, y)], by rw [upd_ne (Ne.symm ne), upd_same], upd_same, ?_, ?_⟩⟩⟩
    · rw [upd_ne ne] at hd; exact hd
    · rw [upd_ne ne] at hd
      have e : upd (del (upd (upd (upd (upd H1 a (exo a C none)) dx (exd dx [(f1, y)])) a (exo a C (some dx))) dx (exd dx [(f2, z), (f1, y)])) a) dx (HO.xd [(f2, z), (f1, y)]) = upd H1 dx (.xd [(f2, z), (f1, y)]) := by
        funext b
        by_cases h1 : b = dx
        · rw [h1, upd_same, upd_same]
        · rw [upd_ne h1, upd_ne h1]
          by_cases h2 : b = a
          · rw [h2, del_same, ha]
          · rw [del_ne h2, upd_ne h1, upd_ne h2, upd_ne h1, upd_ne h2]
      rw [e]
      exact q dx hd
/-- C(e, ..): the exception made, its dict new -/
structure XcI (P : Program) (w : World) (K : PySem.W.Frag) (mg : Str → Option Value) (base : Heap) (k : Nat) (x : Str) (C : Addr) (fs : List Str) : Prop where
  ex : ∃ sp, GiveI C fs sp ∧ ∀ {X : Cx} {e : Expr} {es : List Expr} {p pos : Pos} {ta : TA}, X.prog = P → X.w = w → X.K = K → X.mg = mg → X.base = base → Room (k + 1) X.A → Gl X x → (x == ("__debug__" : Str)) = false → PA X (e :: es) ta →
    starEach (e :: es) X.env = (false, eval e X.env) :: starEach es X.env → (backTo pos (starEach es X.env)).any (·.1) = false →
    PMk X (.Call (.Name x p) (e :: es) [] pos) (tMkO C sp [] ta)
theorem xcI {P : Program} {w : World} {K : PySem.W.Frag} {mg : Str → Option Value} {base : Heap} {k : Nat} {x : Str} {C fI : Addr} {fd : FuncData} {fs ps : List Str} {sp : Sp} (G : GiveI C fs sp) (T : OexC K C) (iC : PySem.W.findIn K (.ref C) "__init__" = some (some (.ref fI))) (tI : PySem.W.typeIn K (.ref fI) = some (.type "function"))
    (F1 : FnOk P w K mg base CX0 k fI fd ps sp) (hb : Binds K fd ps []) (hm : mg x = some (.ref C)) : XcI P w K mg base k x C fs := by
  refine ⟨sp, G, fun {X e es p pos ta} hP hw hK hmg hbase hr hg hdb ha he hpl => ?_⟩
  subst hP hw hK hmg hbase
  exact pmk_oex (p := p) (pos := pos) T iC tI F1 hr hb .nil pass0 hg hm ha hdb he hpl
end L2
namespace DL
open PySem L2 PySem.Spec PyProof.Rows
section
variable {X : Cx} {e : Expr} {es : List Expr} {σ : Sd} {M : Mp} {Q : QD} {E : DE} {W : WD} {pos pos2 p : Pos} {x : Str} {k : Nat}
theorem kvs_zip {K : PySem.W.Frag} {H : Hp} : ∀ {fs : List Str} {vs : List V} {ds : List D}, Tps K H vs ds → KVs K H (fs.zip vs) (fs.zip ds)
  | [], _, _, _ => .nil
  | _ :: _, _, _, .nil => .nil
  | _ :: _, _, _, .cons r t => .cons r (kvs_zip t)
theorem kvs_app {K : PySem.W.Frag} {H : Hp} {κ : Type} : ∀ {a b : List (κ × V)} {c d : List (κ × D)}, KVs K H a c → KVs K H b d → KVs K H (a ++ b) (c ++ d)
  | _, _, _, _, .nil, h => h
  | _, _, _, _, .cons r t, h => .cons r (kvs_app t h)
theorem kvs_rev {K : PySem.W.Frag} {H : Hp} {κ : Type} : ∀ {a : List (κ × V)} {c : List (κ × D)}, KVs K H a c → KVs K H a.reverse c.reverse
  | _, _, .nil => .nil
  | _, _, .cons r t => by
    rw [List.reverse_cons, List.reverse_cons]
    exact kvs_app (kvs_rev t) (.cons r .nil)
/-- raise C(e, ..), C an own class whose __init__ lays fields -/
theorem s_raiseI {C : Addr} {fs : List Str} (tk : TkD X W) (xc : XcI X.prog X.w X.K X.mg X.base k x C fs) (hr : Room (k + 1) X.A)
    (h : AS X (e :: es) σ M fun ds M1 => ds.length = fs.length ∧ NewM M1 (.xd (fs.zip ds).reverse) fun d M2 => W (.ref C) (some d) σ M2)
    (hc : X.calm = true := by rfl) (hg : Gl X x := by rfl) (hdb : (x == ("__debug__" : Str)) = false := by decide) (he : starEach (e :: es) X.env = (false, eval e X.env) :: starEach es X.env := by rfl) (hpl : (backTo pos2 (starEach es X.env)).any (·.1) = false := by rfl) :
    SS X (.Raise (some (.Call (.Name x p) (e :: es) [] pos2)) none pos) σ M E := by
  obtain ⟨Wv, tkv, hW⟩ := tk
  obtain ⟨sp, G, mk⟩ := xc.ex
  refine SS.of (ps_raise hc tkv (mk rfl rfl rfl rfl rfl hr hg hdb pa_sem he hpl)) fun σv H S R => h.go S R fun vs H1 ds M1 i1 R1 t1 ⟨hl, q⟩ => ?_
  refine G vs H1 (fun cls d H' => Wv cls d σv H') (by rw [t1.length, hl]) fun d hd => ?_
  have im := Imm.new (o := HO.xd (fs.zip vs).reverse) hd
  exact hW _ _ _ _ _ _ (S.mono (i1.trans im)) (R1.new (m := .xd (fs.zip ds).reverse) hd ⟨_, rfl, kvs_rev (kvs_zip (Tps.mono im _ _ t1))⟩) (NewM.at q (R1.fresh hd))
end
end DL
set_option maxHeartbeats 4000000
namespace PySem.W
open PySem PySem.Spec PySem.Calls PyProof.Rows
/-! ### isinstance of a caught error that has a dict -/
section
variable {prog : Program} {w : World} {A : Around} {E : Value → Shared → Prop} {s : Shared} {K : Frag} {x D : Addr} {ox : Obj} {odx : Option Obj}
theorem dl_findObj {C : Addr} {name : Str} {a g : Value} (hc : (clsIn K C).isSome = true) (ha : findIn K (.ref C) name = some (some a)) (hg : specialIn K a "__get__" = some (some g)) (ht : takesIn K a = some true) : findObj K C odx name = some (.bind g a) := by
  obtain ⟨cd, hc⟩ := Option.isSome_iff_exists.mp hc
  unfold findObj
  rw [hc, Option.bind_some, ha, Option.bind_some]
  simp [hg, ht]
theorem dl_classE {Q : Option Value → Shared → Prop} (hga : findIn K (.ref D) "__getattribute__" = some (some (.builtin "BaseException.__getattribute__"))) (hgt : findIn K (.ref D) "__getattr__" = some none) (hsub : subIn K (.ref D) (.type "BaseException") = some true)
    (hdct : hasDictIn K D = true) (ha : findIn K (.ref D) "__class__" = some (some (.builtin "object.__class__")))
    (hn : specialIn K (.builtin "object.__class__") "__get__" = some (some (.builtin "getset_descriptor.__get__"))) (htk : takesIn K (.builtin "object.__class__") = some true) (hm : mroIn K D (.type "object") = some true)
    (X : K.In s.heap) (I : InstAt s.heap x ox D odx) (h : Q (some (.ref D)) { s with toks := s.toks + 1 }) : wpAny (model prog w) A (getAttr? (.ref x) "__class__") Q E s := by
  have hf : findObj K D odx "__class__" = some (.bind (.builtin "getset_descriptor.__get__") (.builtin "object.__class__")) := dl_findObj (by obtain ⟨cd, hc, _⟩ := any_some hdct; rw [hc]; rfl) ha hn htk
  obtain ⟨hp, g, d, t, os⟩ := s
  have L0 := I.type (M := model prog w)
  have L1 := looks_findIn (M := model prog w) X hga
  have L2 := looks_findIn (M := model prog w) X hgt
  have L3 := looks_find (M := model prog w) X I hf
  have sub : Looks (model prog w) hp (isInstance (.ref x) (.type "BaseException")) true := L0.andThen (looks_subIn X hsub)
  have hx0 : (false && onTheHeap (Value.builtin "BaseException.__getattribute__")) = false := rfl
  have hx2 : (Value.builtin "BaseException.__getattribute__" == Value.builtin "object.__getattribute__") = false := by decide +kernel
  have hx1 : (onTheHeap (Value.ref D) && Value.builtin "BaseException.__getattribute__" == Value.builtin "object.__getattribute__") = false := by rw [hx2]; rfl
  unfold getAttr? getAttrBy? getAttrBy
  refine wpAny_bind (wpAny_mkText (wpAny_bind (wpAny_attempt (wpAny_holding (wpAny_bind (L0.at (wpAny_bind (L1.at ?_))))))))
  show wpAny _ _ (if (onTheHeap (Value.ref D) && Value.builtin "BaseException.__getattribute__" == Value.builtin "object.__getattribute__") = true then _ else _) _ _ _
  rw [hx1, if_neg Bool.false_ne_true]
  unfold getAttrByItsOwn hookBefore
  refine wpAny_bind ?_
  rw [if_pos (show onTheHeap (Value.ref D) = true from rfl)]
  refine L2.at ?_
  refine wpAny_bind (wpAny_attempt (wpAny_holding ?_))
  unfold callGetattribute
  rw [hx0, if_neg Bool.false_ne_true]
  unfold boundAndCalled
  rw [PySem.F.excAttr_ValueError.ga.bind (.ref x)]
  refine wpAny_bind (wpAny_pure ?_)
  show wpAny _ _ (call (.builtin "BaseException.__getattribute__") [.ref x, .str "__class__" t]) _ _ _
  refine wpAny_call (codeAny_call_builtin PySem.F.excAttr_ValueError.ga.plain PySem.F.entry_bexc_ga ?_)
  refine @check_slot (model prog w) _ _ ⟨hp, g, d, t + 1, os⟩ "BaseException.__getattribute__" "BaseException" "__getattribute__" (.ref x) [.str "__class__" t] [] _ (by decide +kernel) (by decide +kernel) sub (PySem.F.args_bexc_ga (.ref x) (.str "__class__" t)) ?_
  unfold Builtin.«object.__getattribute__»
  refine wpAny_bind (wpAny_of_eq (a := ((Value.ref x : Value), [Value.str "__class__" t])) (by first | rfl | (simp only [slotArgs]; rfl)) ?_)
  refine wpAny_bind (wpAny_pure (wpAny_bind (L0.at (wpAny_bind (L3.at ?_)))))
  show wpAny _ _ (holding [Value.builtin "object.__class__"] (call (.builtin "getset_descriptor.__get__") [.builtin "object.__class__", .ref x, .ref D]) >>= ret) _ _ _
  refine wpAny_bind (wpAny_holding (wpAny_call (class_get (s := ⟨hp, g, d, t + 1, os⟩) (ox := ox) (od := odx) X I hm ?_)))
  refine wpAny_pure ?_
  show wpAny _ _ (handedOut (.ref D)) _ _ _
  rw [handedOut_of (v := .ref D) rfl]
  first
    | exact wpAny_pure (wpAny_pure h)
    | exact wpAny_pure h
    | exact wpAny_pure (wpAny_bind (wpAny_pure (wpAny_pure h)))
theorem dl_kitx (hga : findIn K (.ref D) "__getattribute__" = some (some (.builtin "BaseException.__getattribute__"))) (hgt : findIn K (.ref D) "__getattr__" = some none) (hsub : subIn K (.ref D) (.type "BaseException") = some true) (hdct : hasDictIn K D = true) (ha : findIn K (.ref D) "__class__" = some (some (.builtin "object.__class__")))
    (hn : specialIn K (.builtin "object.__class__") "__get__" = some (some (.builtin "getset_descriptor.__get__"))) (htk : takesIn K (.builtin "object.__class__") = some true) (hm : mroIn K D (.type "object") = some true) :
    KitX K (.ref x) (.ref D) (fun h => ∃ odx, InstAt h x ox D odx) where
  ty := fun _ _ _ ⟨_, I⟩ => I.type
  it := fun _ _ X _ => by
    obtain ⟨cdD, hcD, _⟩ := any_some hdct
    unfold clsIn at hcD
    split at hcD
    · rename_i c' d' cd' sl' ho
      intro A' Q' E' s' k q
      unfold isType loadHead
      exact wpAny_bind (wpAny_loadPart (k _ _ (X _ _ ho)) (wpAny_pure q))
    · cases hcD
  ne := fun h tp dd its n sl X htp => by
    obtain ⟨cdD, hcD, _⟩ := any_some hdct
    refine Bool.eq_false_iff.mpr fun q => ?_
    have e : D = tp := Value.ref.inj (beq_iff_eq.mp q)
    subst e
    unfold clsIn at hcD
    split at hcD
    · rename_i c' d' cd' sl' ho
      have z := (X _ _ ho).symm.trans htp
      cases z
    · cases hcD
  ca := fun X ⟨_, I⟩ k => dl_classE hga hgt hsub hdct ha hn htk hm X I k
end
end PySem.W
namespace L2
open PySem PySem.Spec PyProof.Rows
/-- isinstance(e, c), e the exception that the suite holds, its dict at dd -/
def rIsD (K : PySem.W.Frag) (D a dd : Addr) : List V → Hp → VK → Prop := fun xs H Q => ∃ (c : V) (cv : Value) (b : Bool) (fs : List (Str × V)), xs = [.ref a, c] ∧ H dd = some (.xd fs) ∧ (∀ u, RelV c u → u = cv) ∧ PySem.W.kitOne K (.ref D) cv = some b ∧ Q (.bl b) H
theorem inst_d {X : Cx} {pins : List (Addr × Obj)} {σ : St} {H : Hp} {s : Shared} {a D dd : Addr} {oe : Obj} {fs : List (Str × V)} (I : Inv X pins σ H s) (hget : s.heap.get? a = some oe) (hz : Zc (.ref D) (some dd) oe) (hf : ∃ vs, oe.data = .fields vs) (ed : H dd = some (.xd fs)) : ∃ odx, PySem.W.InstAt s.heap a oe D odx := by
  obtain ⟨vs, hd⟩ := hf
  have hx : ObjOk X.prog X.w H s.heap dd (.xd fs) := I.hok dd _ ed
  obtain ⟨mA, hns, hr⟩ := hx
  obtain ⟨od, ho, hl⟩ := lookIn_ns hns
  exact ⟨some od, hget, hz.1, by unfold PySem.W.notCls; rw [hd] <;> rfl, by rw [hz.2]; exact ho⟩
theorem call_isD {X : Cx} {a D dd : Addr} {oe : Obj} {pn : List (Addr × Obj)} (C : ExcC X.K D) (hz : Zc (.ref D) (some dd) oe) (hf : ∃ vs, oe.data = .fields vs) : CallR (X.suite a ((a, oe) :: pn)) (.builtin "isinstance") (rIsD X.K D a dd) := by
  intro pins s σ H xs us Q I r h
  obtain ⟨c, cv, b, fs, rfl, ed, hcv, e, q⟩ := h
  cases r with
  | cons rx rr =>
    cases rr with
    | cons rt rr =>
      cases rr
      cases rx
      have ec := hcv _ rt
      subst ec
      obtain ⟨hget, _⟩ := I.pin (a, oe) (List.mem_append.mpr (.inl List.mem_cons_self))
      have J := inst_d I hget hz hf ed
      exact PySem.W.kia_one (PySem.W.dl_kitx C.hg C.hk C.hs C.hd C.ha C.hn C.ht C.hm) I.kIn J e (fun z => nomatch z) fun tk => ⟨.bl b, H, I.kept (t' := tk) fun _ _ z => z, rfl, q⟩
end L2
namespace DL
open PySem L2 PySem.Spec PyProof.Rows
def RIsD (K : PySem.W.Frag) (D₀ a dd : Addr) : RA3 := fun ds M Q => match ds with
  | [.ref x, c] => x = a ∧ ∃ cv b fs, M dd = some (.xd fs) ∧ clsD c cv ∧ PySem.W.kitOne K (.ref D₀) cv = some b ∧ Q (.bl b) M
  | _ => False
theorem rd_isD {K : PySem.W.Frag} {D₀ a dd : Addr} : RDA K (rIsD K D₀ a dd) (RIsD K D₀ a dd) := by
  intro H0 H M vs ds Q Q' i R t k q
  match ds, t, q with
  | [.ref x, c], t, q =>
    obtain ⟨hx, cv, b, fs, ed, hc, hk, q1⟩ := q
    subst hx
    obtain ⟨v, u, rfl, r, r2⟩ := t.two
    cases r
    obtain ⟨_, eh, gs, rfl, _⟩ := R dd _ ed
    refine ⟨u, cv, b, gs, rfl, eh, fun w hw => ?_, hk, k _ _ _ _ i R (.bl _) q1⟩
    cases r2 <;> first | exact False.elim hc | (cases hc; exact hw)
section
variable {X : Cx} {e a b c o : Expr} {es rest : List Expr} {σ : Sd} {M : Mp} {Q : QD} {E : DE} {W : WD} {pos pos2 pos' p p2 np apos : Pos} {x m f : Str} {k : Nat} {ps : List Str} {sp4 : Sp4} {C : Addr}
theorem e_isD {x0 : Addr} {D₀ dd : Addr} {oe : Obj} {pn : List (Addr × Obj)} {e1 e2 : Expr} (C : ExcC X.K D₀) (hz : Zc (.ref D₀) (some dd) oe) (hf : ∃ vs, oe.data = .fields vs) (hm : X.mg "isinstance" = none)
    (h : AS (X.suite x0 ((x0, oe) :: pn)) [e1, e2] σ M fun ds M1 => RIsD X.K D₀ x0 dd ds M1 Q) (hg : Gl X "isinstance" := by rfl) (he : starEach [e1, e2] X.env = (false, eval e1 X.env) :: starEach [e2] X.env := by rfl) (he2 : (backTo pos (starEach [e2] X.env)).any (·.1) = false := by rfl) :
    ES (X.suite x0 ((x0, oe) :: pn)) (.Call (.Name "isinstance" p) [e1, e2] [] pos) σ M Q := e_cb (X := X.suite x0 ((x0, oe) :: pn)) (call_isD C hz hf) rd_isD hm (by decide +kernel) h hg (by decide) (by decide) he he2
/-- err.f in the suite that holds it -/
theorem e_xf {x0 : Addr} {D₀ dd : Addr} {oe : Obj} {pn : List (Addr × Obj)} (T : XfC X.K D₀) (hno : PySem.W.findIn X.K (.ref D₀) f = some none) (hz : Zc (.ref D₀) (some dd) oe) (hf : ∃ vs, oe.data = .fields vs)
    (h : ES (X.suite x0 ((x0, oe) :: pn)) e σ M fun d M1 => d = .ref x0 ∧ ∃ fs v, M1 dd = some (.xd fs) ∧ fs.lookup f = some v ∧ Q v M1) (hb : attributeBase e f X.env (eval e X.env) = eval e X.env := by rfl) : ES (X.suite x0 ((x0, oe) :: pn)) (.Attribute e f pos) σ M Q := by
  refine ES.of (X := X.suite x0 ((x0, oe) :: pn)) (pe_xf T hno hz hf pe_sem hb) fun σv H S R => h.go (H0 := H) S R fun v H1 d M1 i1 R1 t1 ⟨ed, fs, y, e1, l, q⟩ => ?_
  subst ed
  obtain ⟨_, eh, gs, rfl, hk⟩ := R1 dd _ e1
  obtain ⟨u, lu, tu⟩ := (hk.look (f := f)).1 y l
  cases t1
  exact ⟨rfl, rfl, dd, gs, u, rfl, eh, lu, i1, y, M1, R1, tu, q⟩
end
end DL
namespace L2
open PySem PySem.Spec PyProof.Rows
section
variable {X : Cx} {CX : CXT} {k : Nat} {f C : Addr} {fd : FuncData} {ps : List Str} {sp : Sp} {E : St → XK} {x m : Str} {p pos apos : Pos} {e o : Expr} {es : List Expr} {ta : TE} {t : TA}
def tMethX (C : Addr) (m : Str) (sp : Sp) (E : St → XK) (ta : TE) (t : TA) : TE := fun σ H Q => ta σ H fun x H1 => ∃ a dx fs, x = .ref a ∧ H1 a = some (.ins C dx fs) ∧ fs.lookup m = none ∧ t σ H1 fun vs H2 => sp (.ref a :: vs) H2 Q (E σ)
/-- o.m(e, ..), what is raised wished for at the caller's slots -/
theorem pe_methX {pl : Sem Bool} (he : PE X o ta) (c : Cls X.K C) (hm : Meth X.K C m f) (F : FnOk X.prog X.w X.K X.mg X.base CX k f fd ps sp) (hr : Room k X.A) (hb : Binds X.K fd ps []) (hx : ∀ σ, PassesAt CX X σ (E σ)) (ha : PA X (e :: es) t)
    (hst : starEach (e :: es) X.env = (false, eval e X.env) :: starEach es X.env := by rfl) (hpl : (backTo pos (starEach es X.env)).any (·.1) = false := by rfl)
    (ht : eval (.Call (.Attribute o m apos) (e :: es) [] pos) X.env = (do
      let ov ← eval o X.env
      standAt apos.atName
      let (f, first) ← holding [ov] (getMethod ov m pl)
      callWith pos f first (backTo pos (starEach (e :: es) X.env)) (backToKw pos (keywordEach [] X.env))) := by rfl) :
    PE X (.Call (.Attribute o m apos) (e :: es) [] pos) (tMethX C m sp E ta t) := by
  refine ⟨fun pins s σ H Q I h => ?_⟩
  refine PySem.W.methodCall_KW (pl := pl) (thn (he.run pins s σ H _ I h) fun u s1 ⟨x, H1, I1, rx, a, dx, fs, ex, ea, l, q⟩ => ?_) ht
  subst ex
  obtain rfl : u = Value.ref a := rx
  refine getmeth_ok I1 ea c hm l ?_
  refine PySem.W.callWith_K (first := [.ref a]) (h₀ := X.base) I.ok.mod.kin hm.kp (thn (ha.run pos pins s1 σ H1 _ I1 q) fun us s2 ⟨vs, H2, I2, r, q2⟩ => ⟨I2.kIn, ?_⟩) hst hpl
  exact run_fnS (us := .ref a :: us) (vs := .ref a :: vs) F hr hb (hx σ) I2 (.cons rfl r) q2
theorem pe_methX0 {pl : Sem Bool} (he : PE X o ta) (c : Cls X.K C) (hm : Meth X.K C m f) (F : FnOk X.prog X.w X.K X.mg X.base CX k f fd ps sp) (hr : Room k X.A) (hb : Binds X.K fd ps []) (hx : ∀ σ, PassesAt CX X σ (E σ))
    (ht : eval (.Call (.Attribute o m apos) [] [] pos) X.env = (do
      let ov ← eval o X.env
      standAt apos.atName
      let (f, first) ← holding [ov] (getMethod ov m pl)
      callWith pos f first (backTo pos (starEach [] X.env)) (backToKw pos (keywordEach [] X.env))) := by rfl) :
    PE X (.Call (.Attribute o m apos) [] [] pos) (tMethX C m sp E ta tNil) := by
  refine ⟨fun pins s σ H Q I h => ?_⟩
  refine PySem.W.methodCall_KW (pl := pl) (thn (he.run pins s σ H _ I h) fun u s1 ⟨x, H1, I1, rx, a, dx, fs, ex, ea, l, q⟩ => ?_) ht
  subst ex
  obtain rfl : u = Value.ref a := rx
  refine getmeth_ok I1 ea c hm l ?_
  exact PySem.W.callWith_K0 (first := [.ref a]) I1.kIn hm.kp (run_fnS (us := [.ref a]) (vs := [.ref a]) F hr hb (hx σ) I1 (.cons rfl .nil) q)
end
end L2
namespace DL
open PySem L2 PySem.Spec PyProof.Rows
section
variable {X : Cx} {e a b c o : Expr} {es rest : List Expr} {σ : Sd} {M : Mp} {Q : QD} {E : DE} {W : WD} {pos pos2 pos' p p2 np apos : Pos} {x m f : Str} {k : Nat} {ps : List Str} {sp4 : Sp4} {C : Addr}
/-- o.m(e, ..), a method that may raise -/
theorem e_methX {pl : Sem Bool} (tk : TkD X W) (c : Cls X.K C) (F : CalleeMX X.prog X.w X.K X.mg X.base C m k ps sp4) (hr : Room k X.A)
    (h : ES X o σ M fun x M1 => ∃ a dx fs, x = .ref a ∧ M1 a = some (.ins C dx fs) ∧ fs.lookup m = none ∧ AS X (e :: es) σ M1 fun ds M2 => ∀ N, Mle M2 N → sp4 (x :: ds) N Q fun cls d M' => FixLe N M' ∧ W cls d σ M')
    (hst : starEach (e :: es) X.env = (false, eval e X.env) :: starEach es X.env := by rfl) (hpl : (backTo pos (starEach es X.env)).any (·.1) = false := by rfl)
    (ht : eval (.Call (.Attribute o m apos) (e :: es) [] pos) X.env = (do
      let ov ← eval o X.env
      standAt apos.atName
      let (f, first) ← holding [ov] (getMethod ov m pl)
      callWith pos f first (backTo pos (starEach (e :: es) X.env)) (backToKw pos (keywordEach [] X.env))) := by rfl) : ES X (.Call (.Attribute o m apos) (e :: es) [] pos) σ M Q := by
  obtain ⟨g, fd, F, hm, hb⟩ := F
  obtain ⟨Wv, tkv, hW⟩ := tk
  refine ES.of (pe_methX pe_sem c hm F hr hb (fun σ => passAt tkv σ) pa_sem hst hpl ht) fun σv H S R => h.go (H0 := H) S R fun v H1 x M1 i1 R1 t1 ⟨a, dx, fs, ex, ea, l, q1⟩ => ?_
  subst ex
  obtain ⟨_, eh, gs, rfl, hk⟩ := R1 a _ ea
  cases t1
  refine ⟨a, dx, gs, rfl, eh, (hk.look (f := m)).2 l, q1.go (S.mono i1) R1 fun vs H2 ds M2 i2 R2 t2 q2 => ?_⟩
  exact ⟨.ref a :: ds, plus M2 H2, Q, _, .cons (.ref a) t2, plus_rel R2, q2 _ plus_le, fun v H3 d M3 i3 R3 t3 q3 => ⟨(i1.trans i2).trans i3, d, M3, R3, t3, q3⟩, fun cls d H' M' R' ⟨fx, w⟩ => hW cls d σv H' σ M' (S.mono ((i1.trans i2).trans (imm_of R2 fx R'))) R' w⟩
theorem e_methX0 {pl : Sem Bool} (tk : TkD X W) (c : Cls X.K C) (F : CalleeMX X.prog X.w X.K X.mg X.base C m k ps sp4) (hr : Room k X.A)
    (h : ES X o σ M fun x M1 => ∃ a dx fs, x = .ref a ∧ M1 a = some (.ins C dx fs) ∧ fs.lookup m = none ∧ ∀ N, Mle M1 N → sp4 [x] N Q fun cls d M' => FixLe N M' ∧ W cls d σ M')
    (ht : eval (.Call (.Attribute o m apos) [] [] pos) X.env = (do
      let ov ← eval o X.env
      standAt apos.atName
      let (f, first) ← holding [ov] (getMethod ov m pl)
      callWith pos f first (backTo pos (starEach [] X.env)) (backToKw pos (keywordEach [] X.env))) := by rfl) : ES X (.Call (.Attribute o m apos) [] [] pos) σ M Q := by
  obtain ⟨g, fd, F, hm, hb⟩ := F
  obtain ⟨Wv, tkv, hW⟩ := tk
  refine ES.of (pe_methX0 pe_sem c hm F hr hb (fun σ => passAt tkv σ) ht) fun σv H S R => h.go (H0 := H) S R fun v H1 x M1 i1 R1 t1 ⟨a, dx, fs, ex, ea, l, q1⟩ => ?_
  subst ex
  obtain ⟨_, eh, gs, rfl, hk⟩ := R1 a _ ea
  cases t1
  exact ⟨a, dx, gs, rfl, eh, (hk.look (f := m)).2 l, [.ref a], plus M1 H1, Q, _, .cons (.ref a) .nil, plus_rel R1, q1 _ plus_le, fun v H3 d M3 i3 R3 t3 q3 => ⟨i1.trans i3, d, M3, R3, t3, q3⟩, fun cls d H' M' R' ⟨fx, w⟩ => hW cls d σv H' σ M' (S.mono (i1.trans (imm_of R1 fx R'))) R' w⟩
end
end DL
set_option maxHeartbeats 4000000
namespace DL
open PySem L2 PySem.Spec PyProof.Rows
/-! ### own exception classes with __init__, put together -/
theorem tail_ve : ∀ l : List Value, PySem.W.excTail [.type "ValueError", .type "Exception", .type "BaseException", .type "object"] l = true → PySem.HandSPX.refsVE l = true
  | [], h => by
    revert h
    decide
  | x :: r, h => by
    cases x with
    | ref c => exact tail_ve r h
    | _ => exact h
theorem oexC_of {K : PySem.W.Frag} {C : Addr} (q : PySem.W.excInitIn K C [.type "ValueError", .type "Exception", .type "BaseException", .type "object"] "ValueError.__new__" = true) (hd : PySem.W.hasDictIn K C = true)
    (sa : PySem.W.findIn K (.ref C) "__setattr__" = some (some (.builtin "object.__setattr__"))) (exC : PySem.W.subIn K (.ref C) (.type "BaseException") = some true) (tyC : PySem.W.typeIn K (.ref C) = some (.type "type")) (kC : PySem.W.keepIn K (.ref C) = true) : OexC K C := by
  refine ⟨?_, sa, exC, tyC, kC⟩
  unfold PySem.W.excInitIn at q
  split at q
  · rename_i dd cd sl ho
    split at q
    · rename_i C' bm k0 k1 k2 k3 n k5 hm hs
      simp only [Bool.and_eq_true, beq_iff_eq, Bool.not_eq_true'] at q
      obtain ⟨⟨⟨rfl, rfl⟩, hdel⟩, ht⟩ := q
      have hcl : PySem.W.clsIn K C' = some cd := by unfold PySem.W.clsIn; rw [ho]
      have hdd : cd.hasDict = true := by
        unfold PySem.W.hasDictIn at hd
        rw [hcl] at hd
        exact hd
      obtain ⟨nm, bs, mro, ns, qn, hdc, sn, sub, ab, col, del⟩ := cd
      dsimp only at hm hdel hdd
      subst hm hdel hdd
      have hsl : sl = #[k0, k1, k2, k3, some (.builtin "ValueError.__new__"), k5] := by
        obtain ⟨l⟩ := sl
        simp only at hs
        rw [hs]
      subst hsl
      exact ⟨nm, qn, ns, bs, bm, sn, sub, ab, col, dd, k0, k1, k2, k3, k5, ho, tail_ve _ ht⟩
    · cases q
  · cases q
section
variable {P : Program} {w : World} {K : PySem.W.Frag} {mg : Str → Option Value} {base : Heap} {x : Str} {C fI cc cda : Addr} {st : Stmt} {qual txt f1 f2 l0 l1 l2 : Str} {p0 p1 ap p2 pos p3 pa pb pc pd pe pf pg ph : Pos} {j : Nat} {kV dc pm ct oc : Value} {an od : Option Addr} {sl : Array (Option Value)} {ar : Arg}
theorem xcI_of1 (S : SScope [l0, l1] [l0, l1] (defScope st))
    (hbd : defBody st = [.Expr (.Call (.Attribute (.Call (.Name "super" p0) [] [] p1) "__init__" ap) [.Constant (.str txt) j p2] [] pos) p3, .Assign [.Attribute (.Name l0 pa) f1 pb] (.Name l1 pc) pd])
    (lk : K.lookup fI = some ⟨oc, od, .func (PySem.W.ksFn "__init__" qual (defArgs st) (defBody st) (defScope st) .none kV dc pm an (.ref cda) ct cc), sl⟩) (hcd : PySem.W.codeIn K (.ref cda) qual = true) (SC : SupC P K mg cc C cda) (T : OexC K C)
    (SS : SupSt qual (defScope st) fI (.ref cda) cc txt p0 p1 ap p2 pos p3 j) (hp : ((defArgs st).posonlyargs ++ (defArgs st).args).head? = some ar) (har : ar.arg = l0) (n1 : PySem.W.findIn K (.ref C) f1 = some none)
    (hs : ∀ L, swapsWith (.Name l1 pc) (some (.Attribute (.Name l0 pa) f1 pb)) pd.line (PySem.W.ksEnv qual (defScope st) L fI (.ref cda) cc) = pure false)
    (d0 : (l0 == ("__debug__" : Str)) = false) (d1 : (l1 == ("__debug__" : Str)) = false) (c0 : (l0 == ("__classdict__" : Str)) = false) (c1 : (l1 == ("__classdict__" : Str)) = false)
    (iC : PySem.W.findIn K (.ref C) "__init__" = some (some (.ref fI))) (tI : PySem.W.typeIn K (.ref fI) = some (.type "function"))
    (hb : Binds K (PySem.W.ksFn "__init__" qual (defArgs st) (defBody st) (defScope st) .none kV dc pm an (.ref cda) ct cc) [l0, l1] []) (hm : mg x = some (.ref C)) : XcI P w K mg base 1 x C [f1] := by
  rw [hbd] at lk hb
  refine xcI (give1 C f1) T iC tI (fn_super (k := 0) lk hcd S SC T SS hp (by rw [har]; rfl) (by rw [har]; exact S.par _ (by simp)) (fun vs H Q E ⟨a, y, e, _⟩ => by rw [e]; rfl) fun A outer s H vs Q E q => ?_) hb hm
  exact body1 (X := cxS CX0 P w K mg base [l0, l1] qual (defScope st) fI (.ref cda) cc A outer s H E) T n1 rfl (.inl (S.par _ (by simp))) (.inl (S.par _ (by simp))) d0 d1 c0 c1 (hs _) q
theorem xcI_of2 (S : SScope [l0, l1, l2] [l0, l1, l2] (defScope st))
    (hbd : defBody st = [.Expr (.Call (.Attribute (.Call (.Name "super" p0) [] [] p1) "__init__" ap) [.Constant (.str txt) j p2] [] pos) p3, .Assign [.Attribute (.Name l0 pa) f1 pb] (.Name l1 pc) pd, .Assign [.Attribute (.Name l0 pe) f2 pf] (.Name l2 pg) ph])
    (lk : K.lookup fI = some ⟨oc, od, .func (PySem.W.ksFn "__init__" qual (defArgs st) (defBody st) (defScope st) .none kV dc pm an (.ref cda) ct cc), sl⟩) (hcd : PySem.W.codeIn K (.ref cda) qual = true) (SC : SupC P K mg cc C cda) (T : OexC K C)
    (SS : SupSt qual (defScope st) fI (.ref cda) cc txt p0 p1 ap p2 pos p3 j) (hp : ((defArgs st).posonlyargs ++ (defArgs st).args).head? = some ar) (har : ar.arg = l0) (n1 : PySem.W.findIn K (.ref C) f1 = some none) (n2 : PySem.W.findIn K (.ref C) f2 = some none)
    (hs : ∀ L, swapsWith (.Name l1 pc) (some (.Attribute (.Name l0 pa) f1 pb)) pd.line (PySem.W.ksEnv qual (defScope st) L fI (.ref cda) cc) = pure false) (hs2 : ∀ L, swapsWith (.Name l2 pg) (some (.Attribute (.Name l0 pe) f2 pf)) ph.line (PySem.W.ksEnv qual (defScope st) L fI (.ref cda) cc) = pure false)
    (d0 : (l0 == ("__debug__" : Str)) = false) (d1 : (l1 == ("__debug__" : Str)) = false) (d2 : (l2 == ("__debug__" : Str)) = false) (c0 : (l0 == ("__classdict__" : Str)) = false) (c1 : (l1 == ("__classdict__" : Str)) = false) (c2 : (l2 == ("__classdict__" : Str)) = false)
    (iC : PySem.W.findIn K (.ref C) "__init__" = some (some (.ref fI))) (tI : PySem.W.typeIn K (.ref fI) = some (.type "function"))
    (hb : Binds K (PySem.W.ksFn "__init__" qual (defArgs st) (defBody st) (defScope st) .none kV dc pm an (.ref cda) ct cc) [l0, l1, l2] []) (hm : mg x = some (.ref C)) : XcI P w K mg base 1 x C [f1, f2] := by
  rw [hbd] at lk hb
  refine xcI (give2 C f1 f2) T iC tI (fn_super (k := 0) lk hcd S SC T SS hp (by rw [har]; rfl) (by rw [har]; exact S.par _ (by simp)) (fun vs H Q E ⟨a, y, z, e, _⟩ => by rw [e]; rfl) fun A outer s H vs Q E q => ?_) hb hm
  exact body2 (X := cxS CX0 P w K mg base [l0, l1, l2] qual (defScope st) fI (.ref cda) cc A outer s H E) T n1 n2 rfl (.inl (S.par _ (by simp))) (.inl (S.par _ (by simp))) (.inl (S.par _ (by simp))) d0 d1 d2 c0 c1 c2 (hs _) (hs2 _) q
end
end DL
set_option maxHeartbeats 4000000
namespace DL
open PySem L2 PySem.Spec PyProof.Rows
/-! ### a dict that is walked: it stands locked meanwhile -/
/-- what a value's data rest on -/
structure Imm2 (H H' : Hp) : Prop where
  t : ∀ a xs, H a = some (.tup xs) → H' a = some (.tup xs)
  ft : ∀ a o xs, H a = some (.frz o (.tup xs)) → H' a = some (.frz o (.tup xs))
  fl : ∀ a o xs, H a = some (.frz o (.lst xs)) → H' a = some (.frz o (.lst xs))
  ex : ∀ a φ, H a = some (.ext φ) → H' a = some (.ext φ)
section
variable {K : PySem.W.Frag} {H H' : Hp}
theorem imm2_sqT {a : Addr} {xs : List V} (i : Imm2 H H') (h : SqT K H a xs) : SqT K H' a xs := by
  rcases h with h | h
  · rcases h with h | ⟨o, h⟩
    · exact .inl (.inl (i.t a _ h))
    · exact .inl (.inr ⟨o, i.ft a _ _ h⟩)
  · exact .inr h
theorem imm2_sqF {a : Addr} {xs : List V} (i : Imm2 H H') (h : SqF K H a xs) : SqF K H' a xs := by
  rcases h with ⟨o, h⟩ | h
  · exact .inl ⟨o, i.fl a _ _ h⟩
  · exact .inr h
mutual
theorem Tp.mono2 (i : Imm2 H H') : ∀ (d : D) (v : V), Tp K H v d → Tp K H' v d
  | .non, _, h => by cases h; exact .non
  | .bl b, _, h => by cases h; exact .bl b
  | .int n, _, h => by cases h; exact .int n
  | .str x, _, h => by cases h; exact .str x
  | .ref a, _, h => by cases h; exact .ref a
  | .ty n, _, h => by cases h; exact .ty n
  | .tup ds, _, h => by
    cases h with
    | tup hs ha => exact .tup (imm2_sqT i hs) (Tps.mono2 i ds _ ha)
  | .rol ds, _, h => by
    cases h with
    | rol hs ha => exact .rol (imm2_sqF i hs) (Tps.mono2 i ds _ ha)
theorem Tps.mono2 (i : Imm2 H H') : ∀ (ds : List D) (vs : List V), Tps K H vs ds → Tps K H' vs ds
  | [], _, h => by cases h; exact .nil
  | d :: ds, _, h => by
    cases h with
    | cons h1 h2 => exact .cons (Tp.mono2 i d _ h1) (Tps.mono2 i ds _ h2)
end
theorem KVs.mono2 {κ : Type} (i : Imm2 H H') : ∀ {vs : List (κ × V)} {ds : List (κ × D)}, KVs K H vs ds → KVs K H' vs ds
  | _, _, .nil => .nil
  | _, _, .cons r t => .cons (Tp.mono2 i _ _ r) (KVs.mono2 i t)
theorem RelO.mono2 (i : Imm2 H H') : ∀ {m : MO} {o : HO}, RelO K H m o → RelO K H' m o
  | .dN _ _ _, _, ⟨es, e, e2, h⟩ => ⟨es, e, e2, fun x hx => let ⟨d, a, b, c, t⟩ := h x hx; ⟨d, a, b, c, Tp.mono2 i _ _ t⟩⟩
  | .lst _, _, ⟨xs, e, h⟩ => ⟨xs, e, Tps.mono2 i _ _ h⟩
  | .dK _, _, ⟨xs, e, h⟩ => ⟨xs, e, KVs.mono2 i h⟩
  | .ins _ _ _, _, ⟨gs, e, h⟩ => ⟨gs, e, KVs.mono2 i h⟩
  | .own _, _, e => e
  | .fix _, _, e => e
  | .xd _, _, ⟨gs, e, h⟩ => ⟨gs, e, KVs.mono2 i h⟩
  | .tab _, _, ⟨ps, e, h1, h2⟩ => ⟨ps, e, h1, fun pos cv hc => let ⟨c, a, b⟩ := h2 pos cv hc; ⟨c, a, i.ex _ _ b⟩⟩
theorem Slots.mono2 {σv : L2.St} {σ : Sd} (i : Imm2 H H') (s : Slots K H σv σ) : Slots K H' σv σ := ⟨s.len, fun j d h => let ⟨v, e, r⟩ := s.at_ j d h; ⟨v, e, Tp.mono2 i _ _ r⟩⟩
/-- a dict unlocked -/
theorem imm2_unl {d : Addr} {od : Obj} {xs : List (Key × V)} (h : H d = some (.frz od (.dK xs))) {u : HO} : Imm2 H (upd H d u) := by
  have ne : ∀ a o, H a = some o → o ≠ .frz od (.dK xs) → a ≠ d := fun a o e n z => by rw [z, h] at e; cases e; exact n rfl
  refine ⟨fun a ys e => ?_, fun a o ys e => ?_, fun a o ys e => ?_, fun a φ e => ?_⟩
  · rw [upd_ne (ne a _ e (fun z => nomatch z))]; exact e
  · rw [upd_ne (ne a _ e (fun z => nomatch z))]; exact e
  · rw [upd_ne (ne a _ e (fun z => nomatch z))]; exact e
  · rw [upd_ne (ne a _ e (fun z => nomatch z))]; exact e
/-- the dict at d stands locked: its pairs kvs -/
structure Lk (K : PySem.W.Frag) (M : Mp) (d : Addr) (kvs : List (Key × D)) (od : Obj) (xs : List (Key × V)) (H : Hp) : Prop where
  at_ : M d = some (.fix (.frz od (.dK xs)))
  kv : KVs K H xs kvs
  all : ∀ a o, H a = some o → fixedO o → M a = some (.fix o)
theorem Lk.fix {M M' : Mp} {d : Addr} {kvs : List (Key × D)} {od : Obj} {xs : List (Key × V)} (h : Lk K M d kvs od xs H) (f : FixLe M M') : Lk K M' d kvs od xs H := ⟨f _ _ h.at_, h.kv, fun a o e z => f _ _ (h.all a o e z)⟩
theorem Lk.imm {M : Mp} {d : Addr} {kvs : List (Key × D)} {od : Obj} {xs : List (Key × V)} (h : Lk K M d kvs od xs H) (R : RelM K M H') : Imm H H' := fun a o e f => by
  obtain ⟨_, e2, rfl, _⟩ := R a _ (h.all a o e f)
  exact e2
theorem Lk.here {M : Mp} {d : Addr} {kvs : List (Key × D)} {od : Obj} {xs : List (Key × V)} (h : Lk K M d kvs od xs H) (R : RelM K M H') : H' d = some (.frz od (.dK xs)) ∧ KVs K H' xs kvs := by
  obtain ⟨_, e2, rfl, _⟩ := R d _ h.at_
  exact ⟨e2, KVs.mono (h.imm R) h.kv⟩
theorem RelM.unl {M : Mp} {d : Addr} {kvs : List (Key × D)} {od : Obj} {xs : List (Key × V)} (R : RelM K M H') (e : H' d = some (.frz od (.dK xs))) (hk : KVs K H' xs kvs) : RelM K (updM M d (.dK kvs)) (upd H' d (.dK xs)) := fun a m h => by
  by_cases ha : a = d
  · subst ha
    rw [updM_same] at h
    cases h
    exact ⟨_, upd_same, xs, rfl, KVs.mono2 (imm2_unl e) hk⟩
  · rw [updM_ne ha] at h
    obtain ⟨o, e1, r⟩ := R a m h
    exact ⟨o, by rw [upd_ne ha]; exact e1, RelO.mono2 (imm2_unl e) r⟩
end
section
variable {X : Cx} {e o i iter tg : Expr} {st : Stmt} {σ : Sd} {M : Mp} {Q : QD} {E : DE} {pos p : Pos} {x : Str}
theorem imm_unl {H H' : Hp} {d : Addr} {od : Obj} {xs : List (Key × V)} (e : H d = some (.dK xs)) (i : Imm (upd H d (.frz od (.dK xs))) H') : Imm H (upd H' d (.dK xs)) := fun a o h f => by
  have ha : a ≠ d := fun z => by rw [z, e] at h; cases h; exact f
  rw [upd_ne ha]
  exact i a o (by rw [upd_ne ha]; exact h) f
/-- the statement runs while the dict at d stands locked -/
theorem s_lockD {d : Addr} {kvs : List (Key × D)} (e : M d = some (.dK kvs))
    (h : ∀ M1 od xs Hl, Lk X.K M1 d kvs od xs Hl → Keep d M M1 → SS X st σ M1 { nx := fun σ' M' => FixLe M1 M' ∧ SetM M' d (.dK kvs) (E.nx σ'), rt := fun v M' => FixLe M1 M' ∧ SetM M' d (.dK kvs) (E.rt v), bk := fun σ' M' => FixLe M1 M' ∧ SetM M' d (.dK kvs) (E.bk σ'), ct := fun σ' M' => FixLe M1 M' ∧ SetM M' d (.dK kvs) (E.ct σ') }) : SS X st σ M E :=
  SS.of (ps_lock ps_sem) fun σv H S R => by
    obtain ⟨_, eh, xs, rfl, hk⟩ := R d _ e
    refine ⟨d, .dK xs, eh, trivial, fun od => ?_⟩
    have im : Imm H (upd H d (.frz od (.dK xs))) := Imm.set eh (fun z => z)
    have R0 : RelM X.K (updM M d (.fix (.frz od (.dK xs)))) (upd H d (.frz od (.dK xs))) := R.set (m := .fix (.frz od (.dK xs))) eh (fun z => z) ⟨rfl, trivial⟩
    have k0 : Keep d M (plus (updM M d (.fix (.frz od (.dK xs)))) (upd H d (.frz od (.dK xs)))) := fun b m hb eb => plus_le _ _ (by rw [updM_ne hb]; exact eb)
    have lk : Lk X.K (plus (updM M d (.fix (.frz od (.dK xs)))) (upd H d (.frz od (.dK xs)))) d kvs od xs (upd H d (.frz od (.dK xs))) := ⟨plus_le _ _ updM_same, KVs.mono im hk, fun a o ea f => plus_fix R0 ea f⟩
    have N : ∀ {Q : Sd → Mp → Prop} {σv' : L2.St} {H' : Hp}, DN X.K (upd H d (.frz od (.dK xs))) (fun σ' M' => FixLe (plus (updM M d (.fix (.frz od (.dK xs)))) (upd H d (.frz od (.dK xs)))) M' ∧ SetM M' d (.dK kvs) (Q σ')) σv' H' → H' d = some (.frz od (.dK xs)) ∧ DN X.K H Q σv' (upd H' d (.dK xs)) := by
      rintro Q σv' H' ⟨i1, σ', M', S', R', fx, q⟩
      have ed : H' d = some (.frz od (.dK xs)) := i1 d _ upd_same trivial
      exact ⟨ed, imm_unl eh i1, σ', _, S'.mono2 (imm2_unl ed), R'.unl ed (lk.fix fx |>.here R').2, q.at⟩
    refine ((h _ od xs _ lk k0).run σv _ (S.mono im) (plus_rel R0)).mono ⟨fun _ _ q => N q, fun v H' ⟨i1, dv, M', R', t', fx, q⟩ => ?_, fun _ _ q => N q, fun _ _ q => N q⟩
    have ed : H' d = some (.frz od (.dK xs)) := i1 d _ upd_same trivial
    exact ⟨ed, imm_unl eh i1, dv, _, R'.unl ed (lk.fix fx |>.here R').2, Tp.mono2 (imm2_unl ed) _ _ t', q.at⟩
/-- for k in d, d locked -/
theorem i_keys {R : List D → (Mp → Prop) → Mp → Prop} (h : ES X iter σ M fun v M1 => ∃ d kvs od xs Hl, v = .ref d ∧ Lk X.K M1 d kvs od xs Hl ∧ R (kvs.map fun kv => kD kv.1) (fun M => Lk X.K M d kvs od xs Hl) M1) : IS X tg iter σ M R :=
  IS.of (pi_keys pe_sem) fun σv H S RM => h.go (H0 := H) S RM fun v H1 dv M1 i1 R1 t1 ⟨d, kvs, od, xs, Hl, ev, lk, q⟩ => by
    subst ev
    cases t1
    obtain ⟨ed, hk⟩ := lk.here R1
    refine ⟨d, od, rfl, .inl ⟨xs, ed, i1, _, _, M1, R1, ⟨fun i H M im R g hi => ⟨(Lk.here g R).1, ?_⟩, fun H M im R g => ⟨(Lk.here g R).1, ?_⟩, fun i H M x H' y im R g hd z => ?_⟩, q⟩⟩
    · rw [List.length_map] at hi; rw [hk.length]; exact hi
    · rw [List.length_map, hk.length]; exact Nat.le_refl _
    · obtain ⟨rfl, k, u, hx, rfl⟩ := z
      obtain ⟨v, ev, tv⟩ := (tps_keys hk).get hd
      rw [List.getElem?_map, hx] at ev
      cases ev
      exact ⟨Imm.refl _, R, Tp.mono im _ _ tv⟩
/-- d[k], d locked -/
theorem e_dgetL (hr : ∃ k, Room k X.A) (h : ES X o σ M fun x M1 => ES X i σ M1 fun y M2 => ∃ d kvs od xs Hl k v, x = .ref d ∧ Lk X.K M2 d kvs od xs Hl ∧ y = kD k ∧ valD kvs k = some v ∧ Q v M2) (hs : NoSl i := by exact fun _ _ => rfl) : ES X (.Subscript o i pos) σ M Q :=
  ES.of (pe_dget (by have := hr.choose_spec.units; omega) pe_sem pe_sem hs) fun σv H S R => h.go (H0 := H) S R fun v H1 x M1 i1 R1 t1 q1 => q1.go (H0 := H1) (S.mono i1) R1 fun u H2 y M2 i2 R2 t2 ⟨d, kvs, od, xs, Hl, k, dv, ex, lk, ey, ev, q⟩ => by
    subst ex ey
    cases t1
    obtain ⟨ed, hk⟩ := lk.here R2
    obtain ⟨v, evv, tv⟩ := (hk.val (k := k)).1 dv ev
    obtain rfl := tp_kD t2
    exact ⟨d, v, rfl, .inl ⟨xs, k, .inr ⟨od, ed⟩, rfl, by rw [evv]⟩, i1.trans i2, dv, M2, R2, tv, q⟩
end
end DL
set_option maxHeartbeats 1000000
namespace DL
open PySem L2 PySem.Spec PyProof.Rows RT
/-! ### list(reversed(a list)) -/
section
variable {prog : Program} {w : World} {A : Around} {E : Value → Shared → Prop} {s : Shared} {R : Result → Shared → Prop}
theorem extend_lri {it l S : Addr} {items : Array Value} (c₀ : Nat) (res : Value) (hh : A.handled = none) (hit : s.heap.IsRevIter it l ((items.size : Int) - 1)) (hl : s.heap.IsList l items) (hne : l ≠ it) (hSi : S ≠ it) (hSl : S ≠ l) (hn : items.size ≤ sizeLine)
    (hS : s.heap.get? S = some { cls := .type "list", data := .seq #[] c₀ })
    (hR : ∀ s' acc' c', Moved [S, it] (fun a b => b = a) s s' → s'.heap.get? S = some { cls := .type "list", dict := none, data := .seq acc' c', slots := #[] } → ItemsOf (fun i v => items[items.size - 1 - i]? = some v) acc' items.size → R (.ok (.ret res)) s') :
    wpAny (model prog w) A.in1 (Builtin.List.listExtendWith (.ref S) (.ref it) res)
      (fun fin s' => match fin with | .done f => R (.ok f) s' | .again c' => c'.quiet = true ∧ codeAny (model prog w) A c' R s') (fun e s' => R (.error e) s') s := by
  have hh1 : A.in1.handled = none := hh
  have W := (Walks.listRev (prog := prog) (w := w) (A := A.in1) hh1 it l hne items).toS
  have hSf : S ∉ [it, l] := by simp only [List.mem_cons, List.not_mem_nil, or_false, not_or]; exact ⟨hSi, hSl⟩
  have hT : s.TypeIs (.ref it) "list_reverseiterator" := hit.typeIs
  have h1 : Builtin.List.listSameRef (.ref S) (.ref it) = false := by simp [Builtin.List.listSameRef, hSi]
  unfold Builtin.List.listExtendWith
  refine wpAny_bind (wpAny_typeOf hT ?_)
  rw [if_neg (by rw [h1]; decide)]
  refine wpAny_bind (wpAny_pyIter_revIter hit ?_)
  refine wpAny_bind (wpAny_holding ?_)
  unfold Builtin.List.listLengthHint
  refine wpAny_bind (wpAny_specialOf hT nolen_lri ?_)
  show wpAny _ A.in1 (specialOf (Value.ref it) (Str.ofString "__length_hint__") >>= _) _ _ _
  refine wpAny_bind (wpAny_specialOf hT hint_lri ?_)
  generalize hid : ("list_reverseiterator.__length_hint__" : String) = id0
  wp_delta
  rw [show splitId id0 = some ("list_reverseiterator", "__length_hint__") from by subst hid; decide +kernel]
  subst hid
  refine wpAny_bind (wpAny_isInstance (b := true) hT (by rw [isSubtype_type]; kernel_rfl) ?_)
  refine wpAny_pure ?_
  rw [if_neg (by decide)]
  have e0 : ((items.size : Nat) : Int) - 1 - ((0 : Nat) : Int) = (items.size : Int) - 1 := by omega
  refine wpAny_pure ⟨plainId_quiet F.plain_extend_loop _, codeAny_extend_loopS W hn _ hSf _ items.size 0 _ _ _ rfl (Nat.zero_le _) ⟨Nat.zero_le _, by rw [e0]; exact hit, hl⟩ hS (ItemsOf.nil _) fun s' acc' c' hm hS' hacc => ?_⟩
  exact hR s' acc' c' hm hS' hacc
theorem init_lri {it l S : Addr} {items : Array Value} (hh : A.handled = none) (hit : s.heap.IsRevIter it l ((items.size : Int) - 1)) (hl : s.heap.IsList l items) (hne : l ≠ it) (hSi : S ≠ it) (hSl : S ≠ l) (hn : items.size ≤ sizeLine)
    (hS : s.heap.get? S = some { cls := .type "list", data := .seq #[] })
    (hR : ∀ s' acc' c', Moved [S, it] (fun a b => b = a) s s' → s'.heap.get? S = some { cls := .type "list", dict := none, data := .seq acc' c', slots := #[] } → ItemsOf (fun i v => items[items.size - 1 - i]? = some v) acc' items.size → R (.ok (.ret .none)) s') :
    wpAny (model prog w) A.in1 (Builtin.«list.__init__» ⟨[.ref S, .ref it], []⟩)
      (fun fin s' => match fin with | .done f => R (.ok f) s' | .again c' => c'.quiet = true ∧ codeAny (model prog w) A c' R s') (fun e s' => R (.error e) s') s := by
  show wpAny _ A.in1 (do let old ← Builtin.List.listItems (.ref S); Builtin.List.listUpdate (.ref S) (fun _ => #[]); letGo old.toList.reverse; Builtin.List.listExtendWith (.ref S) (.ref it) .none) _ _ s
  refine wpAny_bind ?_
  unfold Builtin.List.listItems
  refine wpAny_bind (wpAny_seqItems hS rfl (wpAny_pure ?_))
  show wpAny _ A.in1 (updateSeq S (fun _ => #[]) >>= fun _ => letGo (#[] : Array Value).toList.reverse >>= fun _ => Builtin.List.listExtendWith (.ref S) (.ref it) .none) _ _ s
  refine wpAny_bind (wpAny_updateSeq hS rfl ?_)
  have hS₂ := Heap.get?_update_self (Obj.mapSeq (fun _ => (#[] : Array Value))) hS rfl
  have oth : ∀ b o, b ≠ S → s.heap.get? b = some o → (s.heap.update S (Obj.mapSeq (fun _ => (#[] : Array Value)))).get? b = some o :=
    fun b o hb e => (Heap.get?_update_other _ _ (Ne.symm hb)).trans e
  refine wpAny_bind (wpAny_letGo ?_)
  refine extend_lri _ .none hh (hit.at fun o e => oth it o (Ne.symm hSi) e) (hl.at fun o e => oth l o (Ne.symm hSl) e) hne hSi hSl hn hS₂ fun s' acc' c' hm hS' hacc => ?_
  refine hR s' acc' c' ⟨fun b o hb e => hm.heap b o hb (oth b o (fun h => hb (h ▸ List.mem_cons_self)) e), hm.gens, hm.drawn, hm.os, hm.toks⟩ hS' hacc
theorem call_list_lri {it l : Addr} {items : Array Value} {Q : Value → Shared → Prop} (hh : A.handled = none) (hit : s.heap.IsRevIter it l ((items.size : Int) - 1)) (hl : s.heap.IsList l items) (hne : l ≠ it) (hn : items.size ≤ sizeLine)
    (hQ : ∀ (h' : Heap) (tk : Nat) (acc : Array Value) (c : Nat), (∀ b o, b ≠ it → s.heap.get? b = some o → h'.get? b = some o) → h'.get? s.heap.objs.size = some { cls := .type "list", dict := none, data := .seq acc c, slots := #[] } → ItemsOf (fun i v => items[items.size - 1 - i]? = some v) acc items.size →
      Q (.ref s.heap.objs.size) { s with heap := h', toks := tk }) :
    wpAny (model prog w) A (call (.type "list") [.ref it]) Q E s := by
  obtain ⟨oi, hoi, _⟩ := id hit
  obtain ⟨ol, hol, _⟩ := id hl
  have hSi : s.heap.objs.size ≠ it := Nat.ne_of_gt (Heap.lt_size hoi)
  have hSl : s.heap.objs.size ≠ l := Nat.ne_of_gt (Heap.lt_size hol)
  refine callType_codes (Q₁ := fun obj s₁ => obj = .ref s.heap.objs.size ∧ s₁ = { s with heap := s.heap.push { cls := .type "list", data := .seq #[] } }) F.called_list (F.typeCall_list_1 _) F.entry_list_init
    (code_list_new _ ⟨rfl, rfl⟩) fun obj s₁ h₁ => ?_
  obtain ⟨rfl, rfl⟩ := h₁
  have hS : (s.heap.push { cls := .type "list", data := .seq #[] }).get? s.heap.objs.size = some { cls := .type "list", data := .seq #[] } := Heap.get?_push_size _ rfl
  refine ⟨⟨_, hS, rfl⟩, F.args_list_init_2 _ _, init_lri (A := A.in1) hh (hit.at fun o e => Heap.get?_push_of_some _ e) (hl.at fun o e => Heap.get?_push_of_some _ e) hne hSi hSl hn hS fun s' acc' c' hm hS' hacc => ?_⟩
  have := hQ s'.heap s'.toks acc' c' (fun b o hb e => hm.heap b o (by
    simp only [List.mem_cons, List.not_mem_nil, or_false, not_or]
    exact ⟨Nat.ne_of_lt (Heap.lt_size e), hb⟩) (Heap.get?_push_of_some _ e)) hS' hacc
  refine ⟨rfl, ?_⟩
  rw [Moved.eq_with hm]
  exact this
end
def tListRev (K : PySem.W.Frag) (te : TE) : TE := fun σ H Q => te σ H fun v H1 => ∃ (a : Addr) (xs : List V), v = .ref a ∧ SqL K H1 a xs ∧ ∀ q, H1 q = none → Q (.ref q) (upd H1 q (.lst xs.reverse))
section
variable {X : Cx}
theorem pe_listRev {e : Expr} {te : TE} {p p2 pos pos2 : Pos} (hc : X.calm = true) (hg : Gl X "list") (hm : X.mg "list" = none) (hg2 : Gl X "reversed") (hm2 : X.mg "reversed" = none) (he : PE X e te)
    (hs : starEach [e] X.env = (false, eval e X.env) :: starEach [] X.env := by rfl)
    (hs2 : starEach [.Call (.Name "reversed" p2) [e] [] pos2] X.env = (false, eval (.Call (.Name "reversed" p2) [e] [] pos2) X.env) :: starEach [] X.env := by rfl) :
    PE X (.Call (.Name "list" p) [.Call (.Name "reversed" p2) [e] [] pos2] [] pos) (tListRev X.K te) := by
  refine ⟨fun pins s σ H Q I h => ?_⟩
  refine Call_ (ld_blt I hg hm (show bootBuiltins "list" = some (.type "list") by decide +kernel) (PyProof.Rows.callWith_type1 (args_cons (Call_ (ld_blt I hg2 hm2 PyProof.Rows.boot_reversed (PyProof.Rows.callWith_type1 (args_cons (thn (he.run pins s σ H _ I h) fun u s1 ⟨v, H1, I1, r1, q1⟩ => args_nil ?_) hs) hs rfl))) hs2) hs2 rfl))
  obtain ⟨a, xs, ev, hq, q⟩ := q1
  subst ev
  obtain rfl : u = Value.ref a := r1
  obtain ⟨its, rv, p', hz⟩ := I1.list hq
  refine call_reversed_list p'.isList (args_nil ?_)
  have k0 : ∀ b o, s1.heap.get? b = some o → (s1.heap.push (revObj a ((its.toArray.size : Int) - 1))).get? b = some o := fun b o e => Heap.get?_push_of_some _ e
  have I2 : Inv X pins σ H1 { s1 with heap := s1.heap.push (revObj a ((its.toArray.size : Int) - 1)) } := I1.kept (t' := s1.toks) k0
  have hf := I1.fpOk (H' := H1) (b := s1.heap.objs.size) (Nat.le_refl _) (I1.hok.fresh (Nat.le_refl _))
  have hl := p'.isList
  obtain ⟨ol, hol, _⟩ := id hl
  have hne : a ≠ s1.heap.objs.size := Nat.ne_of_lt (Heap.lt_size hol)
  have hn : its.toArray.size ≤ sizeLine := by rw [List.size_toArray, ← rv.length]; exact hz
  refine call_list_lri (s := { s1 with heap := s1.heap.push (revObj a ((its.toArray.size : Int) - 1)) }) (I1.ok.hd hc) ⟨_, Heap.get?_push_size _ rfl, rfl, rfl⟩ (hl.push _) hne hn fun h' tk acc c hk hS hi => ?_
  have I3 := I2.turnedNew (t' := tk) (h' := h') (ch := [s1.heap.objs.size]) (T := (s1.heap.push (revObj a ((its.toArray.size : Int) - 1))).objs.size) (ob := .lst xs.reverse) (fun b o hb e => hk b o (fun z => hb (by rw [z]; exact List.mem_cons_self)) e) (fun b hb => by rw [List.mem_singleton.mp hb]; exact hf) (Nat.le_refl _) ⟨by rw [List.length_reverse]; exact hz, acc.toList, c, vals_rev rv hi, by rw [Array.toArray_toList]; exact hS⟩
  exact ⟨.ref _, _, I3, rfl, q _ (I2.hok.fresh (Nat.le_refl _))⟩
/-- list(reversed(e)), e a list -/
theorem e_listRev {e : Expr} {σ : Sd} {M : Mp} {Q : QD} {p p2 pos pos2 : Pos} (hm : X.mg "list" = none) (hm2 : X.mg "reversed" = none) (h : ES X e σ M fun d M1 => ∃ a ds, d = .ref a ∧ M1 a = some (.lst ds) ∧ NewM M1 (.lst ds.reverse) fun q M' => Q (.ref q) M') (hc : X.calm = true := by rfl) (hg : Gl X "list" := by rfl) (hg2 : Gl X "reversed" := by rfl)
    (hs : starEach [e] X.env = (false, eval e X.env) :: starEach [] X.env := by rfl)
    (hs2 : starEach [.Call (.Name "reversed" p2) [e] [] pos2] X.env = (false, eval (.Call (.Name "reversed" p2) [e] [] pos2) X.env) :: starEach [] X.env := by rfl) :
    ES X (.Call (.Name "list" p) [.Call (.Name "reversed" p2) [e] [] pos2] [] pos) σ M Q :=
  ES.of (pe_listRev hc hg hm hg2 hm2 pe_sem hs hs2) fun σv H S R => h.go (H0 := H) S R fun v H1 d M1 i1 R1 t1 ⟨a, ds, ed, ea, q⟩ => by
    subst ed
    cases t1
    obtain ⟨_, eo, us, rfl, ha⟩ := R1 a _ ea
    refine ⟨a, us, rfl, SqL.of eo, fun p hp => ?_⟩
    have im := Imm.new (o := .lst us.reverse) hp
    exact ⟨i1.trans im, _, _, R1.new (m := .lst ds.reverse) hp ⟨_, rfl, (Tps.mono im _ _ ha).reverse⟩, .ref p, NewM.at q (R1.fresh hp)⟩
end
theorem wk_V {K : PySem.W.Frag} {H1 : Hp} {p : Addr} {ds : List D} : WalkD K H1 (Itv K p ds.length) ds.reverse (fun M => M p = some (.lst ds)) where
  goes := fun i H M im R g hi => by
    rw [List.length_reverse] at hi
    obtain ⟨_, ea, us, rfl, ha⟩ := R p _ g
    obtain ⟨v, ev, _⟩ := ha.get (List.getElem?_eq_getElem (show ds.length - 1 - i < ds.length by omega))
    exact ⟨hi, us, v, SqL.of ea, ev⟩
  stops := fun H M im R g => by
    show ds.length ≤ ds.reverse.length
    rw [List.length_reverse]
    exact Nat.le_refl _
  yields := fun i H M x H' d im R g hd y => by
    obtain ⟨e, y⟩ := y
    subst e
    obtain ⟨_, ea, us, rfl, ha⟩ := R p _ g
    have hi := (List.getElem?_eq_some_iff.mp hd).1
    rw [List.length_reverse] at hi
    rw [List.getElem?_reverse hi] at hd
    obtain ⟨v, ev, tv⟩ := ha.get hd
    have := y us (SqL.of ea)
    rw [ev] at this
    cases this
    exact ⟨Imm.refl _, R, tv⟩
/-- for x in reversed(a list) -/
theorem i_rev {X : Cx} {a tg : Expr} {σ : Sd} {M : Mp} {pos p : Pos} {R : List D → (Mp → Prop) → Mp → Prop} (hm : X.mg "reversed" = none) (h : ES X a σ M fun d M1 => ∃ l ds, d = .ref l ∧ M1 l = some (.lst ds) ∧ R ds.reverse (fun M => M l = some (.lst ds)) M1)
    (hg : Gl X "reversed" := by rfl) (hs : starEach [a] X.env = [(false, eval a X.env)] := by rfl) : IS X tg (.Call (.Name "reversed" p) [a] [] pos) σ M R :=
  IS.of (pi_reversed hg hm pa_sem hs) fun σv H S RM => (a_cons (QA := fun ds M1 => ∃ l l', ds = [.ref l] ∧ M1 l = some (.lst l') ∧ R l'.reverse (fun M => M l = some (.lst l')) M1) (h.imp fun d M1 ⟨l, ds, e, q⟩ => a_nil ⟨l, ds, by rw [e], q⟩) hs).go S RM fun vs H1 ds M1 i1 R1 t1 ⟨l, l', ed, el, q1⟩ => by
    subst ed
    obtain ⟨v, rfl, r⟩ := t1.one
    obtain ⟨_, ea, us, rfl, ha⟩ := R1 l _ el
    cases r
    refine ⟨l, us, rfl, SqL.of ea, i1, _, _, M1, R1, ?_, q1⟩
    rw [ha.length]
    exact wk_V
end DL
set_option maxHeartbeats 1000000
namespace DL
open PySem L2 PySem.Spec PyProof.Rows
/-! f"..{an int}"; fields by their place -/
theorem empty_app (x : Str) : Str.empty ++ x = x := TL.ext_tl (by rw [TL.tl_append]; rfl)
section
variable {X : Cx} {e : Expr} {σ : Sd} {M : Mp} {Q : QD} {pos p1 p2 : Pos} {j : Nat} {a : Str}
theorem e_fstrI (h : ES X e σ M fun d M1 => ∃ i, d = .int i ∧ i.natAbs < 10 ^ 15 ∧ Q (.str (a ++ Str.ofString (toString i))) M1) (ha : a.length ≤ 1000 := by decide +kernel) : ES X (.JoinedStr [.Constant (.str a) j p1, .FormattedValue e (-1) none p2] pos) σ M Q :=
  ES.of (pe_joined (.cons pe_str (.cons (pe_fmt pe_sem) .nil))) fun σv H S R => by
    refine ⟨a, rfl, ?_, h.go (H0 := H) S R fun v H1 d M1 i1 R1 t1 ⟨i, ed, hl, q⟩ => ?_⟩
    · rw [empty_app]
      exact sz (by omega)
    · subst ed
      cases t1
      have hl2 : i.natAbs.log2 < 1920 := by
        by_cases hz : i.natAbs = 0
        · rw [hz]; decide
        · exact Nat.lt_of_lt_of_le ((Nat.log2_lt hz).mpr (Nat.lt_trans hl (by decide : 10 ^ 15 < 2 ^ 60))) (by decide)
      refine .inr ⟨i, rfl, hl2, _, rfl, ?_, ?_⟩
      · rw [empty_app]
        have := int_text_length_le10 (a := i) (k := 15) (by decide) hl
        have e : (Str.ofString (toString i)).length = (toString i).length := by
          rw [TL.len_tl, TL.tl_ofString, List.length_map, String.length_toList]
        show (a.cps ++ (Str.ofString (toString i)).cps).size ≤ sizeLine
        rw [Array.size_append]
        exact sz (show a.length + (Str.ofString (toString i)).length ≤ _ by omega)
      · rw [empty_app]
        exact ⟨i1, _, M1, R1, .str _, q⟩
end
theorem putFD_new {f : Str} {v : D} : ∀ {l : List (Str × D)}, (l.map (·.1)).contains f = false → putFD f v l = l ++ [(f, v)]
  | [], _ => rfl
  | p :: r, h => by
    simp only [List.map_cons, List.contains_cons, Bool.or_eq_false_iff, beq_eq_false_iff_ne] at h
    simp only [putFD]
    rw [if_neg (Ne.symm h.1), putFD_new h.2]
    rfl
theorem look_at {f : Str} {v : D} {names : List Str} : ∀ {l : List (Str × D)} {i : Nat}, l.map (·.1) = names → names.findIdx? (fun x => f == x) = some i → l[i]? = some (f, v) → l.lookup f = some v
  | [], i, h, h1, h2 => by simp at h2
  | p :: r, i, h, h1, h2 => by
    subst h
    rw [List.map_cons, List.findIdx?_cons] at h1
    rw [List.lookup_cons]
    cases e : (f == p.1) with
    | true =>
      rw [e] at h1
      simp only [if_true] at h1
      cases h1
      cases h2
      rfl
    | false =>
      rw [e] at h1
      simp only [Bool.false_eq_true, if_false] at h1
      cases i with
      | zero => cases e2 : (r.map (·.1)).findIdx? (fun x => f == x) <;> rw [e2] at h1 <;> cases h1
      | succ i =>
        cases e2 : (r.map (·.1)).findIdx? (fun x => f == x) with
        | none => rw [e2] at h1; cases h1
        | some k => rw [e2] at h1; cases h1; exact look_at rfl e2 h2
theorem look_none {f : Str} {names : List Str} : ∀ {l : List (Str × D)}, l.map (·.1) = names → names.contains f = false → l.lookup f = none
  | [], _, _ => rfl
  | p :: r, h, h1 => by
    subst h
    simp only [List.map_cons, List.contains_cons, Bool.or_eq_false_iff] at h1
    rw [List.lookup_cons, h1.1]
    exact look_none rfl h1.2
theorem putFD_set {f : Str} {v : D} {names : List Str} : ∀ {l : List (Str × D)} {i : Nat}, l.map (·.1) = names → names.findIdx? (fun x => f == x) = some i → putFD f v l = l.set i (f, v)
  | [], i, h, h1 => by subst h; cases h1
  | p :: r, i, h, h1 => by
    subst h
    rw [List.map_cons, List.findIdx?_cons] at h1
    simp only [putFD]
    cases e : (f == p.1) with
    | true =>
      rw [e] at h1
      simp only [if_true] at h1
      cases h1
      have := eq_of_beq e
      rw [if_pos this.symm, this]
      rfl
    | false =>
      rw [e] at h1
      simp only [Bool.false_eq_true, if_false] at h1
      have hne : ¬ p.1 = f := fun z => by rw [z, beq_self_eq_true] at e; cases e
      rw [if_neg hne]
      cases e2 : (r.map (·.1)).findIdx? (fun x => f == x) with
      | none => rw [e2] at h1; cases h1
      | some k => rw [e2] at h1; cases h1; rw [putFD_set rfl e2]; rfl
end DL
set_option maxHeartbeats 1000000
namespace DL
open PySem PySem.Spec PyProof.Rows L2
/-! sorted(list of integers) -/
section
variable {X : Cx} {e : Expr} {σ : Sd} {M : Mp} {Q : QD} {pos p : Pos}
def RSorted : RA3 := fun ds M Q => match ds with
  | [.ref a] => ∃ ns : List Int, M a = some (.lst (ns.map D.int)) ∧ ∀ ns' : List Int, ns'.Perm ns → ns'.Pairwise (· ≤ ·) → NewM M (.lst (ns'.map D.int)) fun p M' => Q (.ref p) M'
  | _ => False
theorem ints_tps {K : PySem.W.Frag} {H : Hp} : ∀ ns : List Int, Tps K H (ns.map V.int) (ns.map D.int)
  | [] => .nil
  | n :: ns => .cons (.int n) (ints_tps ns)
theorem rd_sorted {K : PySem.W.Frag} : RDA K (rSortedI K) RSorted := by
  intro H0 H M vs ds Q Q' i R t k q
  match ds, t, q with
  | [.ref a], t, q =>
    obtain ⟨v, rfl, r⟩ := t.one
    obtain ⟨ns, e, q⟩ := q
    obtain ⟨_, ea, us, rfl, ha⟩ := R a _ e
    cases r
    obtain rfl := tps_ints ha
    exact ⟨a, ns, rfl, SqL.of ea, fun ns' p h1 h2 hp => new_lst i R (ints_tps ns') k (q ns' h1 h2) p hp⟩
theorem e_sorted (hm : X.mg "sorted" = none) (h : AS X [e] σ M fun ds M1 => RSorted ds M1 Q) (hg : Gl X "sorted" := by rfl) (he : starEach [e] X.env = (false, eval e X.env) :: starEach [] X.env := by rfl) : ES X (.Call (.Name "sorted" p) [e] [] pos) σ M Q := e_cb cr_sortedI rd_sorted hm (by decide +kernel) h hg (by decide) (by decide) he rfl
/-- two sorted lists with the same members are alike -/
theorem sorted_uniq : ∀ {l m : List Int}, l.Perm m → l.Pairwise (· ≤ ·) → m.Pairwise (· ≤ ·) → l = m
  | [], m, h, _, _ => by rw [List.nil_perm.mp h]
  | x :: l, [], h, _, _ => by have := h.length_eq; cases this
  | x :: l, y :: m, h, h1, h2 => by
    have e : x = y := by
      have hx : x ∈ y :: m := h.mem_iff.mp List.mem_cons_self
      have hy : y ∈ x :: l := h.mem_iff.mpr List.mem_cons_self
      have a1 : x ≤ y := by
        rcases List.mem_cons.mp hy with e | hy
        · omega
        · exact (List.pairwise_cons.mp h1).1 y hy
      have a2 : y ≤ x := by
        rcases List.mem_cons.mp hx with e | hx
        · omega
        · exact (List.pairwise_cons.mp h2).1 x hx
      omega
    subst e
    rw [sorted_uniq ((List.perm_cons x).mp h) (List.pairwise_cons.mp h1).2 (List.pairwise_cons.mp h2).2]
end
section
variable {X : Cx} {a b c : Expr} {σ : Sd} {M : Mp} {pos : Pos} {Q : QD} {op op' : CmpOp} {r r' : R2} {R R' : R3}
/-- a op b op' c, as a value -/
theorem e_chain (ho : OpR X (compareOp op) r) (hR : RD X.K r R) (ho' : OpR X (compareOp op') r') (hR' : RD X.K r' R') (hm : lastMarks [op, op'] [b, c] = false)
    (h : ES X a σ M fun x M1 => ES X b σ M1 fun y M2 => R x y M2 fun d M3 => ∃ k, d = .bl k ∧ BQ k (ES X c σ M3 fun z M4 => R' y z M4 Q) (Q (.bl false) M3)) : ES X (.Compare a [op, op'] [b, c] pos) σ M Q :=
  ES.of (pe_chain ho ho' pe_sem pe_sem pe_sem hm) fun σv H S RM => h.go (H0 := H) S RM fun v H1 x M1 i1 R1 t1 q1 => q1.go (H0 := H) (S.mono i1) R1 fun u H2 y M2 i2 R2 t2 q2 => by
    refine hR H2 H2 M2 v u x y _ _ (Imm.refl _) R2 (Tp.mono i2 _ _ t1) t2 (fun w H3 d M3 i3 R3 t3 q3 => ?_) q2
    obtain ⟨k, rfl, q4⟩ := q3
    cases t3
    refine ⟨k, rfl, ?_⟩
    cases k with
    | true =>
      rw [if_pos rfl]
      refine (q4.1 rfl).go (H0 := H3) (S.mono ((i1.trans i2).trans i3)) R3 fun z H4 dz M4 i4 R4 t4 q5 => ?_
      exact hR' H H4 M4 u z y dz _ _ (((i1.trans i2).trans i3).trans i4) R4 (Tp.mono (i3.trans i4) _ _ t2) t4 To.dq q5
    | false =>
      rw [if_neg Bool.false_ne_true]
      exact To.dq (.bl false) H3 (.bl false) M3 ((i1.trans i2).trans i3) R3 (.bl false) (q4.2 rfl)
theorem e_leLt (h : ES X a σ M fun x M1 => ES X b σ M1 fun y M2 => RInt0 (fun i j => .bl (decide (i ≤ j))) x y M2 fun d M3 => ∃ k, d = .bl k ∧ BQ k (ES X c σ M3 fun z M4 => RInt0 (fun i j => .bl (decide (i < j))) y z M4 Q) (Q (.bl false) M3)) (hm : lastMarks [.LtE, .Lt] [b, c] = false := by with_unfolding_all rfl) : ES X (.Compare a [.LtE, .Lt] [b, c] pos) σ M Q :=
  e_chain op_le rd_cmp0 op_lt rd_cmp0 hm h
theorem e_ltLt (h : ES X a σ M fun x M1 => ES X b σ M1 fun y M2 => RInt0 (fun i j => .bl (decide (i < j))) x y M2 fun d M3 => ∃ k, d = .bl k ∧ BQ k (ES X c σ M3 fun z M4 => RInt0 (fun i j => .bl (decide (i < j))) y z M4 Q) (Q (.bl false) M3)) (hm : lastMarks [.Lt, .Lt] [b, c] = false := by with_unfolding_all rfl) : ES X (.Compare a [.Lt, .Lt] [b, c] pos) σ M Q :=
  e_chain op_lt rd_cmp0 op_lt rd_cmp0 hm h
end
end DL
set_option maxHeartbeats 1000000
namespace DL
open PySem PySem.Spec PyProof.Rows L2
/-! list.remove of a text -/
def eqks (k : Str) (v : Value) : Bool := match v with
  | .str n _ => n.cps.toList == k.cps.toList
  | _ => false
theorem eqks_gives {k : Str} {t : Tok} : ∀ {us : List Value} {ns : List Str}, StrsAre us ns → ∀ y ∈ us, MeetsSeq.EqGives y (.str k t) (eqks k y)
  | _, _, .nil => fun y hy => by cases hy
  | _, _, .cons n t' h => fun y hy => by
    rcases List.mem_cons.mp hy with e | e
    · rw [e]
      exact SeqRoads2.EqGives.str n k t' t
    · exact eqks_gives h y e
theorem strs_get : ∀ {us : List Value} {ns : List Str}, StrsAre us ns → ∀ (j : Nat) (k : Str), ns[j]? = some k → ∃ t, us[j]? = some (.str k t)
  | _, _, .nil, j, k, h => by simp at h
  | _, _, .cons n t' h, 0, k, e => by simp at e; subst e; exact ⟨t', rfl⟩
  | _, _, .cons n t' h, j + 1, k, e => strs_get h j k e
theorem erase_mapS : ∀ (l : List Str) (j : Nat), (l.map V.str).eraseIdx j = (l.eraseIdx j).map V.str
  | [], j => by simp
  | a :: r, 0 => by simp
  | a :: r, j + 1 => by
    have ih := erase_mapS r j
    simp [ih]
section
variable {X : Cx}
def rRemS : V → List V → Hp → VK → Prop := fun x xs H Q => ∃ (l : Addr) (ns : List Str) (k : Str) (j : Nat), x = .ref l ∧ xs = [.str k] ∧ H l = some (.lst (ns.map V.str)) ∧ ns[j]? = some k ∧ (∀ m : Nat, m < j → ns[m]? ≠ some k) ∧ Q .non (upd H l (.lst ((ns.eraseIdx j).map V.str)))
theorem mt_removeS : MtM X "list.remove" rRemS := by
  intro pins s σ H x xs v us Q I rx rxs h
  obtain ⟨l, ns, k, j, rfl, rfl, hH, hj, hno, q⟩ := h
  cases rx
  obtain ⟨u, rfl, ru⟩ := rxs.one
  obtain ⟨t, rfl⟩ := ru
  obtain ⟨z, its, n, r, hl, e⟩ := I.lstM hH
  have hi := strs_of_vals r
  rw [List.length_map] at hl z
  have hjn : j < ns.length := (List.getElem?_eq_some_iff.mp hj).1
  have hjl : j < its.toArray.size := by rw [List.size_toArray]; omega
  refine call_meets PySem.F.slot_list_remove ⟨_, e, rfl⟩ PySem.F.entry_list_remove (PySem.F.args_list_remove_2 _ _)
    (MeetsSeq.list_remove l its.toArray n (.str k t) (eqks k) (fun y hy => eqks_gives hi y (by simpa using hy)) j hjl ?_ ?_ (by rw [List.size_toArray]; omega)) ⟨e, ?_⟩
  · obtain ⟨tj, hjt⟩ := strs_get hi j k hj
    obtain ⟨h1, h2⟩ := List.getElem?_eq_some_iff.mp hjt
    have e1 : its.toArray[j] = .str k tj := by simpa using h2
    rw [e1]
    exact beq_self_eq_true k.cps.toList
  · intro m hm hmj
    have hmn : m < ns.length := by omega
    obtain ⟨tm, hmt⟩ := strs_get hi m _ (List.getElem?_eq_getElem hmn)
    obtain ⟨h1, h2⟩ := List.getElem?_eq_some_iff.mp hmt
    have e1 : its.toArray[m] = .str ns[m] tm := by simpa using h2
    rw [e1]
    refine beq_eq_false_iff_ne.mpr fun e2 => hno m hmj ?_
    rw [List.getElem?_eq_getElem hmn, TL.ext_tl e2]
  · have rr := r.eraseIdx j
    rw [erase_mapS] at rr
    refine ⟨.non, _, I.lset (its' := its.eraseIdx j) (t' := s.toks) hH e ?_ rr ?_, rfl, q⟩
    · show its.toArray.eraseIdxIfInBounds j = (its.eraseIdx j).toArray
      rw [List.eraseIdxIfInBounds_toArray]
    · have z2 : (ns.eraseIdx j).length ≤ ns.length := by rw [List.length_eraseIdx]; split <;> omega
      rw [List.length_map]
      omega
def RRemS : RM3 := fun x ds M Q => match x, ds with
  | .ref a, [.str n] => ∃ (ns : List Str) (j : Nat), M a = some (.lst (ns.map D.str)) ∧ ns[j]? = some n ∧ (∀ m : Nat, m < j → ns[m]? ≠ some n) ∧ SetM M a (.lst ((ns.eraseIdx j).map D.str)) (Q .non)
  | _, _ => False
theorem tps_strsD {K : PySem.W.Frag} {H : Hp} : ∀ {ns : List Str} {us : List V}, Tps K H us (ns.map D.str) → us = ns.map V.str
  | [], _, t => by cases t; rfl
  | n :: ns, _, t => by
    cases t with
    | cons r t => cases r; rw [tps_strsD t]; rfl
theorem strs_tpsD {K : PySem.W.Frag} {H : Hp} : ∀ ns : List Str, Tps K H (ns.map V.str) (ns.map D.str)
  | [] => .nil
  | n :: ns => .cons (.str n) (strs_tpsD ns)
theorem rd_remS {K : PySem.W.Frag} : RDM K rRemS RRemS := by
  intro H0 H M vx vs x ds Q Q' i R tx t k q
  match x, ds, tx, t, q with
  | .ref a, [.str n], tx, t, q =>
    obtain ⟨ns, j, e, hj, hno, q⟩ := q
    obtain ⟨_, ea, us, rfl, ha⟩ := R a _ e
    obtain ⟨v1, rfl, r1⟩ := t.one
    cases tx
    cases r1
    obtain rfl := tps_strsD ha
    have im : Imm H (upd H a (.lst ((ns.eraseIdx j).map V.str))) := Imm.set ea (fun z => z)
    exact ⟨a, ns, n, j, rfl, rfl, ea, hj, hno, k _ _ _ _ (i.trans im) (R.set (m := .lst ((ns.eraseIdx j).map D.str)) ea (fun z => z) ⟨_, rfl, strs_tpsD _⟩) .non (SetM.at q)⟩
end
end DL
set_option maxHeartbeats 1000000
namespace DL
open PySem L2 PySem.Spec PyProof.Rows
/-! displays of dicts: {k: v, ..} -/
section
variable {X : Cx}
def trsOf (X : Cx) : List (Option Expr) → List Expr → List (TE × TE)
  | some k :: ks, v :: vs => (tE X k, tE X v) :: trsOf X ks vs
  | _, _ => []
theorem trsOf_mono : ∀ (ks : List (Option Expr)) (vs : List Expr) {σ : L2.St} {H : Hp} {Q Q' : List (V × V) → Hp → Prop}, tPairs (trsOf X ks vs) σ H Q → (∀ ps H', Q ps H' → Q' ps H') → tPairs (trsOf X ks vs) σ H Q'
  | some k :: ks, v :: vs, σ, H, Q, Q', h, m => by
    have h : tE X k σ H fun x H1 => tE X v σ H1 fun y H2 => tPairs (trsOf X ks vs) σ H2 fun ps H3 => Q ((x, y) :: ps) H3 := h
    show tE X k σ H fun x H1 => tE X v σ H1 fun y H2 => tPairs (trsOf X ks vs) σ H2 fun ps H3 => Q' ((x, y) :: ps) H3
    exact h.mono fun x H1 q1 => q1.mono fun y H2 q2 => trsOf_mono ks vs q2 fun ps H3 q3 => m _ _ q3
  | [], vs, σ, H, Q, Q', h, m => m _ _ h
  | none :: ks, vs, σ, H, Q, Q', h, m => m _ _ h
  | some k :: ks, [], σ, H, Q, Q', h, m => m _ _ h
theorem pps_all {pos : Pos} : ∀ (ks : List (Option Expr)) (vs : List Expr), ks.all (·.isSome) = true → ks.length = vs.length → PPs X pos ks vs (trsOf X ks vs)
  | [], [], _, _ => pps_nil
  | [], _ :: _, _, h => by cases h
  | some k :: ks, v :: vs, h1, h2 => pps_cons pe_sem pe_sem (pps_all ks vs h1 (Nat.succ.inj h2))
  | none :: ks, _, h1, _ => by cases h1
  | some _ :: _, [], _, h => by cases h
structure KVD (X : Cx) (pos : Pos) (keys : List (Option Expr)) (values : List Expr) (σ : Sd) (M : Mp) (Q : List (D × D) → Mp → Prop) : Prop where
  run : ∀ σv H, Slots X.K H σv σ → RelM X.K M H → tPairs (trsOf X keys values) σv H fun ps H1 => Imm H H1 ∧ ∃ ds M1, RelM X.K M1 H1 ∧ Tps X.K H1 (ps.map (·.1)) (ds.map (·.1)) ∧ Tps X.K H1 (ps.map (·.2)) (ds.map (·.2)) ∧ Q ds M1
variable {σ : Sd} {M : Mp} {pos : Pos} {keys : List (Option Expr)} {values : List Expr} {k v : Expr}
theorem kv_nil {Q : List (D × D) → Mp → Prop} (q : Q [] M) : KVD X pos [] [] σ M Q := ⟨fun σv H S R => ⟨Imm.refl H, [], M, R, .nil, .nil, q⟩⟩
theorem kv_cons {Q : List (D × D) → Mp → Prop} (h : ES X k σ M fun x M1 => ES X v σ M1 fun y M2 => KVD X pos keys values σ M2 fun ds M3 => Q ((x, y) :: ds) M3) : KVD X pos (some k :: keys) (v :: values) σ M Q :=
  ⟨fun σv H S R => by
    show tE X k σv H fun x H1 => tE X v σv H1 fun y H2 => tPairs (trsOf X keys values) σv H2 fun ps H3 => _
    refine h.go (H0 := H) S R fun x H1 d M1 i1 R1 t1 q1 => ?_
    refine q1.go (H0 := H1) (S.mono i1) R1 fun y H2 e M2 i2 R2 t2 q2 => ?_
    refine trsOf_mono keys values (q2.run σv H2 ((S.mono i1).mono i2) R2) fun ps H3 ⟨i3, ds, M3, R3, t3, t4, q3⟩ => ?_
    exact ⟨(i1.trans i2).trans i3, (d, e) :: ds, M3, R3, .cons (Tp.mono (i2.trans i3) _ _ t1) t3, .cons (Tp.mono i3 _ _ t2) t4, q3⟩⟩
def mergeD (kvs more : List (Key × D)) : List (Key × D) := more.foldl (fun acc kv => putD acc kv.1 kv.2) kvs
theorem kvs_of {K : PySem.W.Frag} {H : Hp} : ∀ {ps : List (V × V)} {kvs : List (Key × D)}, Tps K H (ps.map (·.1)) ((kvs.map fun kv => (kD kv.1, kv.2)).map (·.1)) → Tps K H (ps.map (·.2)) ((kvs.map fun kv => (kD kv.1, kv.2)).map (·.2)) → ∃ xs : List (Key × V), ps = xs.map (fun kv => (kV kv.1, kv.2)) ∧ KVs K H xs kvs
  | [], [], _, _ => ⟨[], rfl, .nil⟩
  | [], _ :: _, h, _ => by cases h
  | _ :: _, [], h, _ => by cases h
  | (p, q) :: ps, (k, d) :: kvs, h, g => by
    cases h with
    | cons h1 h2 =>
      cases g with
      | cons g1 g2 =>
        obtain ⟨xs, e, r⟩ := kvs_of h2 g2
        obtain rfl := tp_kD h1
        exact ⟨(k, q) :: xs, by rw [e]; rfl, .cons g1 r⟩
theorem kvs_merge {K : PySem.W.Frag} {H : Hp} : ∀ {more : List (Key × V)} {es : List (Key × D)} {kvs : List (Key × V)} {ds : List (Key × D)}, KVs K H more es → KVs K H kvs ds → KVs K H (mergeK kvs more) (mergeD ds es)
  | _, _, _, _, .nil, h => h
  | _, _, _, _, .cons (k := k) r t, h => by
    have z := kvs_merge t (h.put (k := k) r)
    exact z
/-- {k: v, ..} -/
theorem e_disp {Q : QD} (hall : keys.all (·.isSome) = true) (hl : keys.length = values.length) (h0 : keys ≠ []) (h15 : keys.length ≤ 15)
    (h : ∀ p M1, M p = none → M1 p = some (.dK []) → Mle M M1 → KVD X pos keys values σ M1 fun ds M2 => ∃ kvs : List (Key × D), ds = kvs.map (fun kv => (kD kv.1, kv.2)) ∧ kvs.length ≤ 15 ∧ M2 p = some (.dK []) ∧ SetM M2 p (.dK (mergeD [] kvs)) fun M3 => Q (.ref p) M3) : ES X (.Dict keys values pos) σ M Q :=
  ES.of (pe_disp (pps_all keys values hall hl) hall hl h0 h15) fun σv H S R p hp => by
    have im := Imm.new (o := .dK []) hp
    have R1 := R.new (m := .dK []) hp ⟨_, rfl, .nil⟩
    refine trsOf_mono keys values ((h p _ (R.fresh hp) updM_same (Mle.new (R.fresh hp))).run σv _ (S.mono im) R1) fun ps H2 ⟨i2, ds, M2, R2, t1, t2, kvs, ed, hk, e2, q⟩ => ?_
    subst ed
    obtain ⟨xs, ex, rx⟩ := kvs_of t1 t2
    obtain ⟨_, eh, us, rfl, hu⟩ := R2 p _ e2
    cases hu
    refine ⟨eh, xs, ex, by rw [rx.length]; exact hk, ?_⟩
    have im2 : Imm H2 (upd H2 p (.dK (mergeK [] xs))) := Imm.set eh (fun z => z)
    exact ⟨(im.trans i2).trans im2, _, _, R2.set (m := .dK (mergeD [] kvs)) eh (fun z => z) ⟨_, rfl, (kvs_merge rx .nil).mono im2⟩, .ref p, SetM.at q⟩
end
end DL
set_option maxHeartbeats 2000000
namespace DL
open PySem L2 PySem.Spec PyProof.Rows
/-! ### lambdas: the function object, its making -/
/-- a lambda's words, the cells that it captured, its code object -/
structure LmW where
  qual : Str
  params : Arguments
  body : Expr
  scope : Scope
  cl : List (Str × Addr)
  c : Addr
abbrev LmW.fd (F : LmW) (pm ctv : Value) : FuncData := PySem.W.kla_fn "<lambda>" F.qual F.params F.body F.scope F.cl pm (.ref F.c) ctv
/-- the object at f is the lambda F -/
def LmO (f : Addr) (F : LmW) : HO := .ext fun g => ∃ (od : Option Addr) (sl : Array (Option Value)) (pm ctv : Value), g.get? f = some (⟨.type "function", od, .func (F.fd pm ctv), sl⟩ : Obj)
def TabR (H : Hp) (P : Addr) (nm : Nat → Nat → Str) : Prop := ∃ ts : Array Value, H P = some (.tbl ts) ∧ TriplesOk ts.toList ∧ ∀ (pos : Pos) (cv : Value), codeAmong pos ts.toList = some cv → ∃ c, cv = .ref c ∧ H c = some (LamX.CodeO c (nm pos.line pos.col))
section
variable {X : Cx} {pins : List (Addr × Obj)} {σ : L2.St} {H : Hp} {s : Shared}
theorem inv_lm {F : LmW} {tk : Nat} {pm ctv : Value} (I : Inv X pins σ H s) : Inv X pins σ (upd H s.heap.objs.size (LmO s.heap.objs.size F)) { s with heap := s.heap.push { cls := .type "function", data := .func (F.fd pm ctv) }, toks := tk } := by
  have hf : (s.heap.push ({ cls := .type "function", data := .func (F.fd pm ctv) } : Obj)).get? s.heap.objs.size = some ({ cls := .type "function", data := .func (F.fd pm ctv) } : Obj) := Heap.get?_push_size _ rfl
  exact I.laid (a := s.heap.objs.size) (fun b u z => Heap.get?_push_of_some _ z) (Nat.le_refl _) ⟨⟨_, _, pm, ctv, hf⟩, ⟨_, hf⟩, fun g1 g2 ⟨od, sl, p, t, z⟩ st => ⟨od, sl, p, t, st _ z⟩⟩
/-- a lambda is made: its code object is new, or found in the table -/
theorem lm_make {nm : Nat → Nat → Str} {c P : Addr} {params : Arguments} {body : Expr} {scope : Scope} {pos : Pos} {E : Value → Shared → Prop} {Q : Value → Shared → Prop} (I : Inv X pins σ H s) (TB : LamX.TabB X.base X.mg c P) (hcode : X.env.code = .ref c)
    (hT : TabR H P nm) (hn : nm pos.line pos.col = X.env.qual ++ "<lambda>") (hdef : defaultsOf params X.env = ([], [])) (hfree : ∀ y ∈ scope.names, y.2 = .free → ∃ c, X.env.cells.lookup y.1 = some c)
    (q : ∀ (f c' : Addr) (H1 : Hp) (s1 : Shared), Inv X pins σ H1 s1 → (∀ b o, b ≠ P → H b = some o → H1 b = some o) → TabR H1 P nm → H f = none → H1 f = some (LmO f ⟨X.env.qual ++ "<lambda>", params, body, scope, cloFrom X.env.cells scope.names [], c'⟩) → H1 c' = some (LamX.CodeO c' (X.env.qual ++ "<lambda>")) → Q (.ref f) s1) :
    wpAny (model X.prog X.w) X.A (eval (.Lambda params body scope pos) X.env) Q E s := by
  obtain ⟨ts, hP, htr, hall⟩ := hT
  refine PySem.W.kla_eval hdef ?_
  have tP : s.heap.get? P = some { cls := .none, data := .fields ts } := I.hok P _ hP
  have bP := TB.bm.keeps I.bk
  have kC := TB.code.keeps I.bk
  have kG := I.mod.glob.keeps I.bk
  cases hc : codeAmong pos ts.toList with
  | none =>
    refine PySem.W.kla_makeFunction (mg := X.mg) (c := c) (P := P) (ps := ts) (closure_ok hfree) I.ok.glob kG hcode kC tP htr hc TB.gP bP ?_
    intro c' ctv g tk hx hge hlt hrec htb
    obtain ⟨c2, oc, vs, t, e2, hoc, hd, hv⟩ := hrec
    cases e2
    have nC : H c' = none := I.hok.fresh hge
    have J := LamX.inv_table (t' := tk) (more := #[rawInt pos.line, rawInt pos.col, .ref c']) (h' := g) I hP (fun b o hb z => hx b o hb z) htb hge ⟨oc, vs, t, hoc, hd, hv⟩
    have nPc : P ≠ c' := ne_of_none hP nC
    have hlist : (ts ++ #[rawInt pos.line, rawInt pos.col, Value.ref c']).toList = ts.toList ++ [rawInt pos.line, rawInt pos.col, Value.ref c'] := by simp
    have nF : ∀ b o, H b = some o → b ≠ g.objs.size := fun b o z w => by
      rw [w, I.hok.fresh (Nat.le_trans hge (Nat.le_of_lt hlt))] at z
      cases z
    have nPf : P ≠ g.objs.size := nF _ _ hP
    have kb : ∀ b o, b ≠ P → H b = some o → (upd (upd (upd H P (.tbl (ts ++ #[rawInt pos.line, rawInt pos.col, Value.ref c']))) c' (LamX.CodeO c' (X.env.qual ++ "<lambda>"))) g.objs.size (LmO g.objs.size ⟨X.env.qual ++ "<lambda>", params, body, scope, cloFrom X.env.cells scope.names [], c'⟩)) b = some o := fun b o hb z => by
      rw [upd_ne (nF b o z), upd_ne (ne_of_none z nC), upd_ne hb]
      exact z
    have cc : (upd (upd (upd H P (.tbl (ts ++ #[rawInt pos.line, rawInt pos.col, Value.ref c']))) c' (LamX.CodeO c' (X.env.qual ++ "<lambda>"))) g.objs.size (LmO g.objs.size ⟨X.env.qual ++ "<lambda>", params, body, scope, cloFrom X.env.cells scope.names [], c'⟩)) c' = some (LamX.CodeO c' (X.env.qual ++ "<lambda>")) := by
      rw [upd_ne (Nat.ne_of_lt hlt), upd_same]
    refine q g.objs.size c' _ _ (inv_lm (tk := tk) (pm := (X.mg "__name__").getD .none) (ctv := ctv) J) kb ⟨ts ++ #[rawInt pos.line, rawInt pos.col, Value.ref c'], ?_, ?_, fun p' cv hcv => ?_⟩ (I.hok.fresh (Nat.le_trans hge (Nat.le_of_lt hlt))) upd_same cc
    · rw [upd_ne nPf, upd_ne nPc, upd_same]
    · rw [hlist]
      exact PySem.TriplesOk_snoc _ _ _ _ htr
    · rw [hlist] at hcv
      rcases NdefX.among_app2 _ htr hcv with z | ⟨z, z1, z2⟩
      · obtain ⟨c0, u1, u2⟩ := hall p' cv z
        refine ⟨c0, u1, kb _ _ ?_ u2⟩
        rintro rfl
        rw [hP] at u2
        exact LamX.codeO_ne ts (Option.some.inj u2).symm
      · refine ⟨c', z, ?_⟩
        rw [← z1, ← z2, hn]
        exact cc
  | some cv =>
    obtain ⟨c', e, hco⟩ := hall pos cv hc
    subst e
    rw [hn] at hco
    refine PySem.W.kla_makeFunctionHit (mg := X.mg) (c := c) (P := P) (ps := ts) (closure_ok hfree) I.ok.glob kG hcode kC tP htr hc bP ?_
    intro ctv g tk hx hsz
    have J : Inv X pins σ H { s with heap := g, toks := tk } := I.kept hx
    have fr : H g.objs.size = none := I.hok.fresh hsz
    have kb : ∀ b o, H b = some o → (upd H g.objs.size (LmO g.objs.size ⟨X.env.qual ++ "<lambda>", params, body, scope, cloFrom X.env.cells scope.names [], c'⟩)) b = some o := fun b o z => by
      rw [upd_ne (ne_of_none z fr)]
      exact z
    exact q g.objs.size c' _ _ (inv_lm (tk := tk) (pm := (X.mg "__name__").getD .none) (ctv := ctv) J) (fun b o _ z => kb b o z) ⟨ts, kb _ _ hP, htr, fun p' cv z => by
      obtain ⟨c0, u1, u2⟩ := hall p' cv z
      exact ⟨c0, u1, kb _ _ u2⟩⟩ fr upd_same (kb _ _ hco)
end
section
variable {X : Cx} {σ : Sd} {M : Mp} {Q : QD} {pos : Pos}
theorem fixed_lm {f : Addr} {F : LmW} : fixedO (LmO f F) :=
  fixed_ext (⟨.type "function", none, .func (F.fd .none .none), #[]⟩ : Obj) (f + 1) (fun _ _ h => nomatch h) ⟨none, #[], .none, .none, get_repl (Nat.lt_succ_self f) (fun _ _ _ h => nomatch h)⟩
theorem relO_ext {K : PySem.W.Frag} {H : Hp} {m : MO} {φ : Heap → Prop} (hf : fixedO (.ext φ)) (h : RelO K H m (.ext φ)) : m = .fix (.ext φ) := by
  cases m with
  | fix u => obtain ⟨rfl, _⟩ := h; rfl
  | lst _ => obtain ⟨_, e, _⟩ := h; cases e
  | dK _ => obtain ⟨_, e, _⟩ := h; cases e
  | ins _ _ _ => obtain ⟨_, e, _⟩ := h; cases e
  | own _ => cases h
  | xd _ => obtain ⟨_, e, _⟩ := h; cases e
  | tab _ => obtain ⟨_, e, _⟩ := h; cases e
  | dN w a ks => obtain ⟨es, e, _⟩ := h; exact absurd (show φ = noP w a es from HO.ext.inj e) (hf w a es)
/-- lambda ..: body -/
theorem e_lam {nm : Nat → Nat → Str} {c P : Addr} {params : Arguments} {body : Expr} {scope : Scope} (TB : LamX.TabB X.base X.mg c P) (hcode : X.env.code = .ref c) (et : M P = some (.tab nm)) (hn : nm pos.line pos.col = X.env.qual ++ "<lambda>") (hdef : defaultsOf params X.env = ([], []))
    (hfree : ∀ y ∈ scope.names, y.2 = .free → X.env.scope.names.lookup y.1 = some .cell ∨ X.env.scope.names.lookup y.1 = some .free)
    (q : ∀ (f c' : Addr) M', M f = none → M' f = some (.fix (LmO f ⟨X.env.qual ++ "<lambda>", params, body, scope, cloFrom X.env.cells scope.names [], c'⟩)) → M' c' = some (.fix (LamX.CodeO c' (X.env.qual ++ "<lambda>"))) → Mle M M' → Q (.ref f) M') : ES X (.Lambda params body scope pos) σ M Q := ⟨fun σv H S R pins s I => by
  obtain ⟨_, eP, ts, rfl, htr, hall⟩ := R P _ et
  have hfr : ∀ y ∈ scope.names, y.2 = .free → ∃ c, X.env.cells.lookup y.1 = some c := fun y hy e => (hfree y hy e).elim (fun z => I.ok.has _ (.inl z)) fun z => I.ok.has _ (.inr z)
  refine lm_make I TB hcode ⟨ts, eP, htr, hall⟩ hn hdef hfr ?_
  intro f c' H1 s1 I1 kb hT f0 f1 c1
  have nfc : f ≠ c' := fun z => by
    subst z
    obtain ⟨⟨od, sl, pm, ctv, h1⟩, _, _⟩ := I1.hok f _ f1
    obtain ⟨⟨oc, vs, t, h2, h3, _⟩, _, _⟩ := I1.hok f _ c1
    rw [h1] at h2
    cases h2
    cases h3
  have im : Imm H H1 := fun a o e hf => kb a o (fun z => by rw [z, eP] at e; cases e; exact hf) e
  have hMf : M f = none := R.fresh f0
  let M' : Mp := fun b => if b = f then some (.fix (LmO f ⟨X.env.qual ++ "<lambda>", params, body, scope, cloFrom X.env.cells scope.names [], c'⟩)) else if b = c' then some (.fix (LamX.CodeO c' (X.env.qual ++ "<lambda>"))) else M b
  have hl : Mle M M' := fun b m e => by
    have hbf : b ≠ f := fun z => by rw [z, hMf] at e; cases e
    show (if b = f then _ else if b = c' then _ else M b) = some m
    rw [if_neg hbf]
    by_cases hb : b = c'
    · rw [if_pos hb]
      obtain ⟨o, e1, r⟩ := R b m e
      have hbP : b ≠ P := fun z => by
        obtain ⟨ts2, z2, _⟩ := hT
        rw [hb.symm.trans z, z2] at c1
        exact LamX.codeO_ne ts2 (Option.some.inj c1).symm
      have e2 := kb b o hbP e1
      rw [hb, c1] at e2
      rw [← Option.some.inj e2] at r
      rw [relO_ext fixed_code r]
      rfl
    · rw [if_neg hb]
      exact e
  refine ⟨.ref f, H1, I1, rfl, im, .ref f, M', fun b m e => ?_, .ref f, q f c' M' hMf (if_pos rfl) ?_ hl⟩
  · have e : (if b = f then _ else if b = c' then _ else M b) = some m := e
    by_cases hbf : b = f
    · rw [if_pos hbf] at e
      cases e
      rw [hbf]
      exact ⟨_, f1, rfl, fixed_lm⟩
    · rw [if_neg hbf] at e
      by_cases hb : b = c'
      · rw [if_pos hb] at e
        cases e
        rw [hb]
        exact ⟨_, c1, rfl, fixed_code⟩
      · rw [if_neg hb] at e
        obtain ⟨o, e1, r⟩ := R b m e
        by_cases hbP : b = P
        · subst hbP
          rw [et] at e
          cases e
          obtain ⟨ts2, z1, z2, z3⟩ := hT
          exact ⟨_, z1, ts2, rfl, z2, z3⟩
        · exact ⟨o, kb b o hbP e1, r.mono im⟩
  · show (if c' = f then _ else if c' = c' then _ else M c') = _
    rw [if_neg (Ne.symm nfc), if_pos rfl]⟩
end
end DL
set_option maxHeartbeats 2000000
namespace DL
open PySem L2 PySem.Spec PyProof.Rows
/-! ### sorted(xs, key=lambda x: x[0]), x[0] a text; sorted of texts -/
structure First0 (F : LmW) : Prop where
  ex : ∃ (x : Str) (p1 p2 p3 : Pos) (j : Nat), F.body = .Subscript (.Name x p1) (.Constant (.int 0) j p2) p3 ∧ F.scope.names.lookup x = some .local ∧ (x == ("__debug__" : Str)) = false ∧ ∀ (pm ctv v : Value), bindArgs (F.fd pm ctv) ⟨[v], []⟩ = pure [(x, v)]
  kind : F.scope.kind = .function
  co : F.scope.isCoroutine = false
  gen : F.scope.isGenerator = false
  nc : ∀ y ∈ F.scope.names, y.2 ≠ .cell
section
variable {prog : Program} {w : World} {A : Around} {s : Shared}
theorem key_call {f t : Addr} {F : LmW} {od : Option Addr} {sl : Array (Option Value)} {pm ctv : Value} {its : Array Value} {k : Str} {tk0 : Tok} (h0 : First0 F) (hf : s.heap.get? f = some (⟨.type "function", od, .func (F.fd pm ctv), sl⟩ : Obj)) (hc : s.heap.CodeRec (.ref F.c) F.qual)
    (hd : A.depth < recursionLimit) (ht : IsTup s.heap t its) (hk : its[0]? = some (.str k tk0)) (lim : s.heap.NoLimit) : wpAny (model prog w) A (call (.ref f) [.ref t]) (PySem.W.KeyPure (.str k) s) (fun _ _ => False) s := by
  obtain ⟨x, p1, p2, p3, j, hb, hx, hdb, hbind⟩ := h0.ex
  refine wpAny_call (PySem.W.kla_callFunE (body := F.body) hd hf rfl h0.co h0.gen rfl hc ?_)
  rw [hbind pm ctv (.ref t)]
  refine wpAny_pure (wpAny_newFunctionEnv h0.nc (fun y hy => by rw [List.mem_singleton.mp hy]; exact hx) (fun g hns hsb => ⟨lim.fresh _ hsb, ?_⟩) h0.kind)
  have keep : ∀ b o, s.heap.get? b = some o → g.get? b = some o := fun b o e => hsb.extBut b o (Nat.ne_of_lt (Heap.lt_size e)) (Heap.get?_push_of_some _ e)
  refine PySem.W.kla_codeExpr ?_
  rw [hb]
  have ht' : IsTup g t its := by
    obtain ⟨o, e, r⟩ := ht
    exact ⟨o, keep _ _ e, r⟩
  have hsz : 0 < its.size := by
    rw [Array.getElem?_eq_some_iff] at hk
    exact hk.1
  refine Subscript_ (wpAny_Name (wpAny_loadName_local h0.kind hx hns (v := .ref t) (by simp [List.lookup]) ?_) hdb)
  refine wpAny_Constant_int ?_
  refine subscriptTail_builtinR (x := .str k tk0) ht'.typeIs slot_tuple_getitem.lookup (getItem_tuple (j := 0) ht' (by decide) (by decide) ?_ hk ⟨rfl, ?_⟩) rfl
  · unfold seqIndex?
    simp [hsz]
  · exact ⟨g, _, rfl, keep, .str k tk0⟩
end
abbrev leVK (b c : V × (Str × List D)) : Bool := PySem.W.dataLe false (fun (b : V × (Str × List D)) => PyData.str b.2.1) b c
abbrev leSK (b c : Str × List D) : Bool := PySem.W.dataLe false (fun (b : Str × List D) => PyData.str b.1) b c
theorem leVK_eq (b c : V × (Str × List D)) : leVK b c = leSK b.2 c.2 := rfl
def rSortK (K : PySem.W.Frag) : List V → List V → Hp → VK → Prop := fun vs zs H Q => ∃ (a : Addr) (xs : List V) (l : List (Str × List D)) (f : Addr) (F : LmW), vs = [V.ref a] ∧ zs = [V.ref f] ∧ SqL K H a xs ∧ xs.length = l.length ∧ H f = some (LmO f F) ∧ H F.c = some (LamX.CodeO F.c F.qual) ∧ First0 F ∧
  (∀ b ∈ xs.zip l, ∃ t ys, b.1 = .ref t ∧ SqT K H t ys ∧ ys[0]? = some (.str b.2.1)) ∧ ∀ p, H p = none → Q (.ref p) (upd H p (.lst (((xs.zip l).mergeSort leVK).map (·.1))))
section
variable {X : Cx}
theorem each_zip {R : Value → V × (Str × List D) → Prop} : ∀ {xs : List V} {its : List Value} {l : List (Str × List D)}, Vals xs its → xs.length = l.length → (∀ b ∈ xs.zip l, ∀ v, RelV b.1 v → R v b) → PySem.W.EachIs R its (xs.zip l)
  | _, _, [], .nil, _, _ => .nil
  | _, _, _ :: _, .nil, h, _ => by cases h
  | _, _, [], .cons _ _, h, _ => by cases h
  | _, _, b :: l, .cons r t, h, q => .cons (q _ List.mem_cons_self _ r) (each_zip t (Nat.succ.inj h) fun b hb v hv => q b (List.mem_cons_of_mem _ hb) v hv)
theorem vals_each {R : Value → V × (Str × List D) → Prop} (hR : ∀ v b, R v b → RelV b.1 v) : ∀ {out : List Value} {bs : List (V × (Str × List D))}, PySem.W.EachIs R out bs → Vals (bs.map (·.1)) out
  | _, _, .nil => .nil
  | _, _, .cons r t => .cons (hR _ _ r) (vals_each hR t)
theorem cr_sortK (hr : ∃ k, Room k X.A) : CallRK X (.builtin "sorted") [Str.ofString "key"] (rSortK X.K) := by
  intro pins s σ H vs zs us ws Q I r rz h
  obtain ⟨a, xs, l, f, F, rfl, rfl, hs, hlen, hf, hc, h0, hit, q⟩ := h
  obtain rfl := Vals.ref1 r
  obtain ⟨w1, rfl, e1⟩ := vals1 rz
  obtain rfl : w1 = Value.ref f := e1
  obtain ⟨k, hroom⟩ := hr
  have hun := hroom.un
  have hdp := hroom.dp
  obtain ⟨its, rv, hl, hz⟩ := I.list hs
  obtain ⟨⟨od, sl, pm, ctv, hfo⟩, _, _⟩ := I.hok f _ hf
  obtain ⟨⟨oc, vs', tt, hco, hcd, hcv⟩, _, _⟩ := I.hok F.c _ hc
  have lim := I.nolimit
  have hbl : (xs.zip l).length = xs.length := by rw [List.length_zip, hlen, Nat.min_self]
  refine PySem.W.sorted_key_data (b := false) (R := fun v b => RelV b.1 v ∧ ∃ t its tk0, v = .ref t ∧ IsTup s.heap t its ∧ its[0]? = some (.str b.2.1 tk0)) (bs := xs.zip l) (fun b => PyData.str b.2.1) hl.isList (each_zip rv hlen fun b hb v hv => ⟨hv, ?_⟩) (PySem.W.AllAlike.of fun _ _ => by simp [PySem.W.alike]) (PySem.W.Sortable.others fun _ => ⟨(fun z => nomatch z), fun _ z => nomatch z⟩) (by rw [hbl]; exact hz) (fun b _ => ?_) (PyProof.Rows.ksk_s1 _ _) (fun _ => PyProof.Rows.ksk_l1 _ _) (fun _ => PyProof.Rows.ksk_t1 _ _) (fun v b hR _ g tk kp => ?_) fun out c g tk kp fr hg hol eo => ?_
  · obtain ⟨t, ys, e, hq, hy⟩ := hit b hb
    rw [e] at hv
    cases hv
    obtain ⟨jts, rj, pj, _⟩ := I.tuple hq
    obtain ⟨u, eu, ru⟩ := rj.get hy
    obtain ⟨tk0, rfl⟩ := ru
    exact ⟨t, jts.toArray, tk0, rfl, pj, by simpa using eu⟩
  · have : (PyData.str b.2.1).depth = 0 := by simp [PyData.depth]
    omega
  · obtain ⟨_, t, jts, tk0, rfl, ⟨o, eo, ro⟩, hk⟩ := hR
    exact key_call (s := { s with heap := g, toks := tk }) h0 (kp _ _ hfo) ⟨F.c, oc, vs', tt, rfl, kp _ _ hco, hcd, hcv⟩ (by show X.A.depth < _; omega) ⟨o, kp _ _ eo, ro⟩ hk (lim.keeps kp)
  · have rel := vals_each (fun v b hR => hR.1) eo
    refine ⟨.ref _, upd H (s.heap.objs.size + 1) (.lst (((xs.zip l).mergeSort leVK).map (·.1))), I.laid (t' := tk) kp (Nat.le_succ _) ⟨?_, out, c, rel, hg⟩, rfl, q _ (I.hok.fresh (Nat.le_succ _))⟩
    rw [List.length_map, List.length_mergeSort, hbl]
    exact hz
variable {σ : Sd} {M : Mp} {Q : QD} {p pos kpos : Pos} {e lam : Expr}
def keyD (b : Str × List D) : D := .tup (.str b.1 :: b.2)
theorem tps_zip {K : PySem.W.Frag} {H : Hp} : ∀ {xs : List V} {l : List (Str × List D)}, Tps K H xs (l.map keyD) → xs.length = l.length ∧ ∀ b ∈ xs.zip l, Tp K H b.1 (keyD b.2)
  | [], [], _ => ⟨rfl, fun b hb => absurd hb List.not_mem_nil⟩
  | [], _ :: _, h => by cases h
  | _ :: _, [], h => by cases h
  | x :: xs, b :: l, h => by
    cases h with
    | cons r t =>
      obtain ⟨h1, h2⟩ := tps_zip t
      refine ⟨by rw [List.length_cons, List.length_cons, h1], fun c hc => ?_⟩
      rcases List.mem_cons.mp hc with rfl | hc
      · exact r
      · exact h2 c hc
theorem tps_of_all {K : PySem.W.Frag} {H : Hp} : ∀ {bs : List (V × (Str × List D))}, (∀ b ∈ bs, Tp K H b.1 (keyD b.2)) → Tps K H (bs.map (·.1)) ((bs.map (·.2)).map keyD)
  | [], _ => .nil
  | b :: bs, h => .cons (h b List.mem_cons_self) (tps_of_all fun c hc => h c (List.mem_cons_of_mem _ hc))
theorem zip_snd {α β : Type} : ∀ {xs : List α} {l : List β}, xs.length = l.length → (xs.zip l).map (·.2) = l
  | [], [], _ => rfl
  | [], _ :: _, h => by cases h
  | _ :: _, [], h => by cases h
  | x :: xs, b :: l, h => by rw [List.zip_cons_cons, List.map_cons, zip_snd (Nat.succ.inj h)]
/-- sorted(e, key=lambda x: x[0]) -/
theorem e_sortK (hm : X.mg "sorted" = none) (hr : ∃ k, Room k X.A) (h : ES X e σ M fun x M1 => ES X lam σ M1 fun y M2 => ∃ (a f : Addr) (l : List (Str × List D)) (F : LmW), x = .ref a ∧ y = .ref f ∧ M2 a = some (.lst (l.map keyD)) ∧ M2 f = some (.fix (LmO f F)) ∧ M2 F.c = some (.fix (LamX.CodeO F.c F.qual)) ∧ First0 F ∧
      NewM M2 (.lst ((l.mergeSort leSK).map keyD)) fun q M3 => Q (.ref q) M3) (hg : Gl X "sorted" := by rfl) (hse : starEach [e] X.env = (false, eval e X.env) :: starEach [] X.env := by rfl)
    (he : backTo pos (starEach [e] X.env) = (false, eval e X.env) :: backTo pos (starEach [] X.env) := by rfl) (hpl : (backTo pos (starEach [e] X.env)).any (·.1) = false := by rfl)
    (hall : (backToKw pos (keywordEach [⟨some "key", lam, kpos⟩] X.env)).all (·.1.isSome) = true := by rfl) (hnone : (backToKw pos (keywordEach [⟨some "key", lam, kpos⟩] X.env)).any (·.1.isNone) = false := by rfl) (hks : (backToKw pos (keywordEach [⟨some "key", lam, kpos⟩] X.env)).filterMap (·.1) = [Str.ofString "key"] := by rfl) :
    ES X (.Call (.Name "sorted" p) [e] [⟨some "key", lam, kpos⟩] pos) σ M Q :=
  ES.of (pe_callBK (cr_sortK hr) hg hm (by decide +kernel) (pa_cons pe_sem pa_nil hse) (pk_cons pe_sem pk_nil) (by decide) (by decide) he hpl hall hnone hks) fun σv H S R => by
    refine h.go (H0 := H) S R fun v H1 x M1 i1 R1 t1 q1 => ?_
    refine q1.go (H0 := H1) (S.mono i1) R1 fun u H2 y M2 i2 R2 t2 ⟨a, f, l, F, ex, ey, ea, ef, ec, h0, q⟩ => ?_
    subst ex
    subst ey
    cases Tp.mono i2 _ _ t1
    cases t2
    obtain ⟨_, eh, xs, rfl, tx⟩ := R2 a _ ea
    obtain ⟨_, fh, rfl, _⟩ := R2 f _ ef
    obtain ⟨_, ch, rfl, _⟩ := R2 F.c _ ec
    obtain ⟨hlen, hall2⟩ := tps_zip tx
    refine ⟨a, xs, l, f, F, rfl, rfl, .inl (.inl eh), hlen, fh, ch, h0, fun b hb => ?_, fun q' hq => ?_⟩
    · have := hall2 b hb
      cases hbv : b.1 with
      | ref t =>
        rw [hbv] at this
        unfold keyD at this
        cases this with
        | tup hs ha =>
          cases ha with
          | cons r t' =>
            cases r
            exact ⟨t, _, rfl, hs, rfl⟩
      | _ => rw [hbv] at this; unfold keyD at this; cases this
    · have im := Imm.new (o := .lst (((xs.zip l).mergeSort leVK).map (·.1))) hq
      have hsnd : ((xs.zip l).mergeSort leVK).map (·.2) = l.mergeSort leSK := by
        rw [List.map_mergeSort (s := leSK) (fun b _ c _ => leVK_eq b c), zip_snd hlen]
      refine ⟨(i1.trans i2).trans im, _, _, R2.new (m := .lst ((l.mergeSort leSK).map keyD)) hq ⟨_, rfl, ?_⟩, .ref q', NewM.at q (R2.fresh hq)⟩
      rw [← hsnd]
      exact Tps.mono im _ _ (tps_of_all fun b hb => hall2 b ((List.mergeSort_perm _ _).mem_iff.mp hb))
abbrev leS (b c : Str) : Bool := PySem.W.dataLe false (fun (b : Str) => PyData.str b) b c
def rSortS (K : PySem.W.Frag) : List V → Hp → VK → Prop := fun vs H Q => ∃ (a : Addr) (ns : List Str), vs = [V.ref a] ∧ SqL K H a (ns.map V.str) ∧ ∀ p, H p = none → Q (.ref p) (upd H p (.lst ((ns.mergeSort leS).map V.str)))
theorem each_strs {R : Value → Str → Prop} (hR : ∀ v x, RelV (.str x) v → R v x) : ∀ {ns : List Str} {us : List Value}, Vals (ns.map V.str) us → PySem.W.EachIs R us ns
  | [], _, h => by cases h; exact .nil
  | x :: ns, _, h => by
    cases h with
    | cons r t => exact .cons (hR _ _ r) (each_strs hR t)
theorem strs_each : ∀ {ns : List Str} {us : List Value}, PySem.W.EachIs (fun v x => RelV (.str x) v) us ns → Vals (ns.map V.str) us
  | [], _, h => by cases h; exact .nil
  | x :: ns, _, h => by
    cases h with
    | cons r t => exact .cons r (strs_each t)
theorem cr_sortS (hr : ∃ k, Room k X.A) : CallR X (.builtin "sorted") (rSortS X.K) := by
  intro pins s σ H vs us Q I r h
  obtain ⟨a, ns, rfl, hs, q⟩ := h
  obtain rfl := Vals.ref1 r
  obtain ⟨k, hroom⟩ := hr
  have hun := hroom.un
  obtain ⟨its, rv, hl, hz⟩ := I.list hs
  rw [List.length_map] at hz
  refine PySem.W.sorted_data (R := fun v x => RelV (.str x) v) (enc := fun x => PyData.str x) hl.isList (each_strs (fun v x h => h) rv) (each_strs (fun v x h => by obtain ⟨t, rfl⟩ := h; exact ⟨[], .str x t⟩) rv) (PySem.W.AllAlike.of fun _ _ => by simp [PySem.W.alike]) (PySem.W.Sortable.others fun _ => ⟨(fun z => nomatch z), fun _ z => nomatch z⟩) hz (fun b _ => ?_) fun out hol eo => ?_
  · have : (PyData.str b).depth = 0 := by simp [PyData.depth]
    omega
  · have rel := strs_each eo
    obtain ⟨ep, hg⟩ := PyProof.Rows.sortedAll_at s.heap its out.toArray
    refine ⟨.ref _, upd H (s.heap.objs.size + 1) (.lst ((ns.mergeSort leS).map V.str)), I.laid (t' := s.toks) (fun _ _ => PyProof.Rows.sortedAll_old) (Nat.le_succ _) ⟨?_, out, ep, rel, hg⟩, rfl, q _ (I.hok.fresh (Nat.le_succ _))⟩
    rw [List.length_map, List.length_mergeSort]
    exact hz
def RSortS : RA3 := fun ds M Q => match ds with
  | [.ref a] => ∃ ns : List Str, M a = some (.lst (ns.map D.str)) ∧ NewM M (.lst ((ns.mergeSort leS).map D.str)) fun p M' => Q (.ref p) M'
  | _ => False
theorem rd_sortS {K : PySem.W.Frag} : RDA K (rSortS K) RSortS := by
  intro H0 H M vs ds Q Q' i R t k q
  unfold RSortS at q
  split at q
  · obtain ⟨v, rfl, tv⟩ := Tps.one t
    cases tv
    obtain ⟨ns, ea, q⟩ := q
    obtain ⟨_, eh, us, rfl, tu⟩ := R _ _ ea
    rw [tps_strs tu] at eh
    exact ⟨_, ns, rfl, .inl (.inl eh), fun p hp => new_lst i R (Tps.strs _) k q p hp⟩
  · exact False.elim q
/-- sorted(a list of texts) -/
theorem e_sortS (hm : X.mg "sorted" = none) (hr : ∃ k, Room k X.A) (h : AS X [e] σ M fun ds M1 => RSortS ds M1 Q) (hg : Gl X "sorted" := by rfl) (he : starEach [e] X.env = (false, eval e X.env) :: starEach [] X.env := by rfl) : ES X (.Call (.Name "sorted" p) [e] [] pos) σ M Q := e_cb (cr_sortS hr) rd_sortS hm (by decide +kernel) h hg (by decide) (by decide) he rfl
/-- the names of a sorted list are sorted -/
theorem sortS_of (l : List (Str × List D)) : (((l.mergeSort leSK).map (·.1)).mergeSort leS) = (l.mergeSort leSK).map (·.1) := by
  refine List.mergeSort_of_pairwise (List.pairwise_map.mpr ?_)
  exact PySem.W.sort_pairwise (le := leSK) (PySem.W.sortLe_total _ _ _) l
end
end DL
set_option maxHeartbeats 1000000
namespace DL
open PySem L2 PySem.Spec PyProof.Rows
/-- a def whose code object is known (it makes lambdas) -/
theorem fnC {P : Program} {w : World} {K : PySem.W.Frag} {mg : Str → Option Value} {base : Heap} {N ps : List Str} {x qual : Str} {st : Stmt} {f c : Addr} {fd : FuncData} {k : Nat} {sp3 : Sp3}
    (F : Fun K x qual st f fd) (hc : fd.code = .ref c) (S : FnScope N ps (defScope st)) (len : ∀ ds M Q, sp3 ds M Q → ds.length = ps.length)
    (body : ∀ (A : Around) (outer : List Env) (s : Shared) (H : Hp) (E : XK), Room k (A.deeper (envOfC qual (defScope st) s.heap.objs.size f (.ref c))) → ∀ ds M Q, sp3 ds M Q →
      SSs (cxOf CX0 P w K mg base N qual (defScope st) f (.ref c) A outer s H E).nox (defBody st) (startD N ds) M { nx := fun _ M' => Wk Q .non M', rt := Wk Q }) : FnOk P w K mg base CX0 (k + 1) f fd ps (spD K sp3) := by
  obtain ⟨oc, od, kV, doc, pm, an, cdv, ct, osl, rfl, lk, hcd⟩ := F.ex
  obtain rfl : cdv = .ref c := hc
  refine fn_of lk hcd S (fun vs H Q E ⟨ds, M, Q3, t, r, q, to⟩ => ?_) fun A outer s H vs Q E hr ⟨ds, M, Q3, t, r, q, to⟩ => ?_
  · rw [t.length]
    exact len ds M Q3 q
  · refine ⟨_, pss_sem.nox, tSs.mono ((body A outer s H E hr ds M Q3 q).run (start N vs) H (Slots.start t) r) ⟨fun σ' H' h => ?_, fun v H' h => ?_, fun _ _ h => ?_, fun _ _ h => ?_⟩⟩
    · obtain ⟨i, σ'', M', S', R', M1, l, q'⟩ := h
      exact to _ _ _ _ i (R'.le l) .non q'
    · obtain ⟨i, d, M', R', t', M1, l, q'⟩ := h
      exact to _ _ _ _ i (R'.le l) t' q'
    · obtain ⟨i, σ'', M', S', R', z⟩ := h
      exact z
    · obtain ⟨i, σ'', M', S', R', z⟩ := h
      exact z
theorem calleeC {P : Program} {w : World} {K : PySem.W.Frag} {mg : Str → Option Value} {base : Heap} {N ps : List Str} {x qual : Str} {st : Stmt} {f c : Addr} {fd : FuncData} {k : Nat} {sp3 : Sp3}
    (F : Fun K x qual st f fd) (hc : fd.code = .ref c) (S : FnScope N ps (defScope st)) (hm : mg x = some (.ref f)) (hb : Binds K fd ps []) (len : ∀ ds M Q, sp3 ds M Q → ds.length = ps.length)
    (body : ∀ (A : Around) (outer : List Env) (s : Shared) (H : Hp) (E : XK), Room k (A.deeper (envOfC qual (defScope st) s.heap.objs.size f (.ref c))) → ∀ ds M Q, sp3 ds M Q →
      SSs (cxOf CX0 P w K mg base N qual (defScope st) f (.ref c) A outer s H E).nox (defBody st) (startD N ds) M { nx := fun _ M' => Wk Q .non M', rt := Wk Q }) : Callee P w K mg base x (k + 1) ps sp3 := ⟨f, fd, fnC F hc S len body, hm, F.kp, hb⟩
def lam0B (sc : Scope) (x : Str) : Bool := decide (sc.names.lookup x = some NameKind.local) && decide (sc.kind = .function) && !sc.isCoroutine && !sc.isGenerator && sc.names.all (fun y => !decide (y.2 = NameKind.cell)) && !(x == ("__debug__" : Str))
theorem first0_by {q : Str} {params : Arguments} {body : Expr} {scope : Scope} {cl : List (Str × Addr)} {c : Addr} {x : Str} {p1 p2 p3 : Pos} {j : Nat} (hb : body = .Subscript (.Name x p1) (.Constant (.int 0) j p2) p3) (h : lam0B scope x = true)
    (hbind : ∀ (pm ctv v : Value), bindArgs (PySem.W.kla_fn "<lambda>" q params body scope cl pm (.ref c) ctv) ⟨[v], []⟩ = pure [(x, v)]) : First0 ⟨q, params, body, scope, cl, c⟩ := by
  unfold lam0B at h
  simp only [Bool.and_eq_true, Bool.not_eq_true', decide_eq_true_eq, decide_eq_false_iff_not, List.all_eq_true] at h
  obtain ⟨⟨⟨⟨⟨h1, h2⟩, h3⟩, h4⟩, h5⟩, h6⟩ := h
  exact ⟨⟨x, p1, p2, p3, j, hb, h1, h6, hbind⟩, h2, h3, h4, h5⟩
end DL
set_option maxHeartbeats 4000000
namespace DL
open PySem L2 PySem.Spec PyProof.Rows
section
variable {X : Cx} {elt iter c : Expr} {scope : Scope} {σ : Sd} {M : Mp} {Q : QD} {pos p1 p2 tpos : Pos} {x1 x2 : Str} {kk : Nat}
theorem lc2If_read (j1 j2 : Nat)
    (h : IS X (.Tuple [.Name x1 p1, .Name x2 p2] kk tpos) iter σ M fun its G M1 => ∀ q, M1 q = none → ∃ Pv : Nat → Mp → Prop, (∀ M', M' q = some (.lst []) → Mle M1 M' → Pv 0 M') ∧ (∀ i M', i ≤ its.length → Pv i M' → G M') ∧
      (∀ i d M', its[i]? = some d → Pv i M' → ∃ d1 d2, d = .tup [d1, d2] ∧ ∀ (s : Shared) (H0 : Hp) (C : Addr) (cl : List (Str × Addr)) (fp : List Addr),
        TT3 (X.blk s H0 scope (compEnvC scope cl C X.env) fp) c ((((σ.set j2 none).set j1 none).set j1 (some d1)).set j2 (some d2)) M' fun k M1 => BQ k
          (∀ (s : Shared) (H0 : Hp) (C : Addr) (cl : List (Str × Addr)) (fp : List Addr), ES (X.blk s H0 scope (compEnvC scope cl C X.env) fp) elt ((((σ.set j2 none).set j1 none).set j1 (some d1)).set j2 (some d2)) M1 fun y M2 => ∃ acc, M2 q = some (.lst acc) ∧ acc.length < sizeLine ∧ SetM M2 q (.lst (acc ++ [y])) (Pv (i + 1)))
          (Pv (i + 1) M1)) ∧
      ∀ M', Pv its.length M' → Q (.ref q) M')
    : ∀ σv H, Slots X.K H σv σ → RelM X.K M H → ∀ Q', To X.K H Q Q' → tLc (tI X (.Tuple [.Name x1 p1, .Name x2 p2] kk tpos) iter) (gTup X.K 2 (gCons (gName j1) (gCons (gName j2) gNil))) (tTB X scope c) (tEB X scope elt) ([(x1, j1), (x2, j2)].map (·.2)) σv H Q' := fun σv H S R Q' to => (h.run σv H S R).mono fun J H1 ⟨i1, its, G, M1, R1, wk, k⟩ q hq => by
    obtain ⟨Pv, p0, pG, ps, pe⟩ := k q (R1.fresh hq)
    have imq := Imm.new (o := .lst []) hq
    refine ⟨fun i m H' => m = its.length - i ∧ i ≤ its.length ∧ Imm H1 H' ∧ ∃ M', RelM X.K M' H' ∧ Pv i M', ⟨its.length, by simp, Nat.zero_le _, imq, _, R1.new (m := .lst []) hq ⟨_, rfl, .nil⟩, p0 _ updM_same (Mle.new (R1.fresh hq))⟩, ?_⟩
    rintro i m H2 ⟨rfl, hi, i2, M2, R2, p2⟩
    by_cases hlt : i < its.length
    · refine .inr ⟨wk.goes i H2 M2 i2 R2 (pG i M2 hi p2) hlt, fun H' => Imm H1 H' ∧ ∃ M', RelM X.K M' H' ∧ Pv (i + 1) M', fun H' ⟨a, b⟩ => ⟨its.length - (i + 1), by omega, rfl, hlt, a, b⟩, fun xv H3 y => ?_⟩
      have hd : its[i]? = some its[i] := List.getElem?_eq_getElem hlt
      obtain ⟨i3, R3, t3⟩ := wk.yields i H2 M2 xv H3 _ i2 R2 (pG i M2 hi p2) hd y
      obtain ⟨d1, d2, ed, pe2⟩ := ps i _ M2 hd p2
      rw [ed] at t3
      cases t3 with
      | @tup a xs _ hs ha =>
        obtain ⟨v1, v2, rfl, t1, t2⟩ := ha.two
        refine ⟨a, _, rfl, hs, rfl, v1, [v2], rfl, ?_⟩
        show ∃ x r, [v2] = x :: r ∧ _
        refine ⟨v2, [], rfl, ?_⟩
        show [] = [] ∧ _
        refine ⟨rfl, ?_⟩
        refine ⟨wipe2, ?_⟩
        intro s0 H0 C cl fp
        have S3 : Slots X.K H3 (((L2.wipe σv [j1, j2]).set j1 (some v1)).set j2 (some v2)) ((((σ.set j2 none).set j1 none).set j1 (some d1)).set j2 (some d2)) := ((((S.mono ((i1.trans i2).trans i3)).wipe1 j2).wipe1 j1).set t1 j1).set t2 j2
        refine (pe2 s0 H0 C cl fp).go S3 R3 fun b H5 M5 i5 R5 q5 => ?_
        cases b with
        | true =>
          rw [if_pos rfl]
          intro s0 H0 C cl fp
          refine (q5.1 rfl s0 H0 C cl fp).go (H0 := H5) (S3.mono i5) R5 fun yv H4 yd M4 i4 R4 t4 ⟨acc, ea, hz, p4⟩ => ?_
          obtain ⟨_, eh, us, rfl, ha⟩ := R4 q _ ea
          have im4 : Imm H4 (upd H4 q (.lst (us ++ [yv]))) := Imm.set eh (fun z => z)
          exact ⟨us, eh, by rw [ha.length]; exact hz, (((i2.trans i3).trans i5).trans i4).trans im4, _, R4.set (m := .lst (acc ++ [yd])) eh (fun z => z) ⟨_, rfl, (Tps.mono im4 _ _ ha).append (.cons (Tp.mono im4 _ _ t4) .nil)⟩, SetM.at p4⟩
        | false =>
          rw [if_neg Bool.false_ne_true]
          exact ⟨(i2.trans i3).trans i5, M5, R5, q5.2 rfl⟩
    · have e : i = its.length := by omega
      subst e
      exact .inl ⟨wk.stops H2 M2 i2 R2 (pG _ M2 hi p2), to _ _ _ _ (i1.trans i2) R2 (.ref q) (pe M2 p2)⟩
theorem e_lc2If (j1 j2 : Nat) (hN : X.N.Nodup) (ok : BlkOk X.N X.env.scope scope [(x1, j1), (x2, j2)])
    (h : IS X (.Tuple [.Name x1 p1, .Name x2 p2] kk tpos) iter σ M fun its G M1 => ∀ q, M1 q = none → ∃ Pv : Nat → Mp → Prop, (∀ M', M' q = some (.lst []) → Mle M1 M' → Pv 0 M') ∧ (∀ i M', i ≤ its.length → Pv i M' → G M') ∧
      (∀ i d M', its[i]? = some d → Pv i M' → ∃ d1 d2, d = .tup [d1, d2] ∧ ∀ (s : Shared) (H0 : Hp) (C : Addr) (cl : List (Str × Addr)) (fp : List Addr),
        TT3 (X.blk s H0 scope (compEnvC scope cl C X.env) fp) c ((((σ.set j2 none).set j1 none).set j1 (some d1)).set j2 (some d2)) M' fun k M1 => BQ k
          (∀ (s : Shared) (H0 : Hp) (C : Addr) (cl : List (Str × Addr)) (fp : List Addr), ES (X.blk s H0 scope (compEnvC scope cl C X.env) fp) elt ((((σ.set j2 none).set j1 none).set j1 (some d1)).set j2 (some d2)) M1 fun y M2 => ∃ acc, M2 q = some (.lst acc) ∧ acc.length < sizeLine ∧ SetM M2 q (.lst (acc ++ [y])) (Pv (i + 1)))
          (Pv (i + 1) M1)) ∧
      ∀ M', Pv its.length M' → Q (.ref q) M')
    (h1 : X.N[j1]? = some x1 := by rfl) (h2 : X.N[j2]? = some x2 := by rfl) (hc : X.calm = true := by rfl)
    (hl1 : ∀ cl C, Loc (compEnvC scope cl C X.env).scope x1 := by exact fun _ _ => Or.inl rfl) (hl2 : ∀ cl C, Loc (compEnvC scope cl C X.env).scope x2 := by exact fun _ _ => Or.inl rfl)
    (hf1 : ∀ (s : Shared) (H0 : Hp) (C : Addr) (cl : List (Str × Addr)) (fp : List Addr), (X.blk s H0 scope (compEnvC scope cl C X.env) fp).fn x1 = true ∨ (compEnvC scope cl C X.env).scope.names.lookup x1 = some .local := by exact fun _ _ _ _ _ => Or.inr rfl)
    (hf2 : ∀ (s : Shared) (H0 : Hp) (C : Addr) (cl : List (Str × Addr)) (fp : List Addr), (X.blk s H0 scope (compEnvC scope cl C X.env) fp).fn x2 = true ∨ (compEnvC scope cl C X.env).scope.names.lookup x2 = some .local := by exact fun _ _ _ _ _ => Or.inr rfl)
    (hs : ∀ x, foldedSetIterable iter X.env x = pure x := by intro _; rfl) : ES X (.ListComp elt [⟨.Tuple [.Name x1 p1, .Name x2 p2] kk tpos, iter, [c], 0⟩] scope pos) σ M Q :=
  ES.of (pe_lc (own := [(x1, j1), (x2, j2)]) (g := gTup X.K 2 (gCons (gName j1) (gCons (gName j2) gNil))) (tt := tTB X scope c) (te := tEB X scope elt) hc hN pi_sem ok
      (fun s H0 C cl fp => pg_tup (X := X.blk s H0 scope (compEnvC scope cl C X.env) fp) hc (pgs_cons (pg_name (X := X.blk s H0 scope (compEnvC scope cl C X.env) fp) (i := j1) hN h1 (hl1 cl C) (hf1 s H0 C cl fp)) (pgs_cons (pg_name (X := X.blk s H0 scope (compEnvC scope cl C X.env) fp) (i := j2) hN h2 (hl2 cl C) (hf2 s H0 C cl fp)) pgs_nil rfl) rfl) rfl rfl) (fun s H0 C cl fp => pts_one ⟨fun pins s1 σ H Q I hw => hw s H0 C cl fp pins s1 I⟩)
      (fun s H0 C cl fp => ⟨fun pins s1 σ H Q I hw => hw s H0 C cl fp pins s1 I⟩) hs) fun σv H S R => lc2If_read j1 j2 h σv H S R _ To.dq
end
end DL
set_option maxHeartbeats 4000000
namespace DL
open PySem L2 PySem.Spec PyProof.Rows
section
variable {X : Cx} {kx vx iter : Expr} {scope : Scope} {σ : Sd} {M : Mp} {Q : QD} {pos p1 p2 tpos : Pos} {x1 x2 : Str} {kk : Nat}
theorem dc2_read (j1 j2 : Nat)
    (h : IS X (.Tuple [.Name x1 p1, .Name x2 p2] kk tpos) iter σ M fun its G M1 => ∀ q, M1 q = none → ∃ Pv : Nat → Mp → Prop, (∀ M', M' q = some (.dK []) → Mle M1 M' → Pv 0 M') ∧ (∀ i M', i ≤ its.length → Pv i M' → G M') ∧
      (∀ i d M', its[i]? = some d → Pv i M' → ∃ d1 d2, d = .tup [d1, d2] ∧ ∀ (s : Shared) (H0 : Hp) (C : Addr) (cl : List (Str × Addr)) (fp : List Addr),
        ES (X.blk s H0 scope (compEnvC scope cl C X.env) fp) kx ((((σ.set j2 none).set j1 none).set j1 (some d1)).set j2 (some d2)) M' fun y M2 => ∃ k, y = kD k ∧ ∀ (s : Shared) (H0 : Hp) (C : Addr) (cl : List (Str × Addr)) (fp : List Addr),
          ES (X.blk s H0 scope (compEnvC scope cl C X.env) fp) vx ((((σ.set j2 none).set j1 none).set j1 (some d1)).set j2 (some d2)) M2 fun z M3 => ∃ acc, M3 q = some (.dK acc) ∧ acc.length < sizeLine ∧ SetM M3 q (.dK (putD acc k z)) (Pv (i + 1))) ∧
      ∀ M', Pv its.length M' → Q (.ref q) M')
    : ∀ σv H, Slots X.K H σv σ → RelM X.K M H → ∀ Q', To X.K H Q Q' → tDc (tI X (.Tuple [.Name x1 p1, .Name x2 p2] kk tpos) iter) (gTup X.K 2 (gCons (gName j1) (gCons (gName j2) gNil))) tYes (tEB X scope kx) (tEB X scope vx) ([(x1, j1), (x2, j2)].map (·.2)) σv H Q' := fun σv H S R Q' to => (h.run σv H S R).mono fun J H1 ⟨i1, its, G, M1, R1, wk, k⟩ q hq => by
    obtain ⟨Pv, p0, pG, ps, pe⟩ := k q (R1.fresh hq)
    have imq := Imm.new (o := .dK []) hq
    refine ⟨fun i m H' => m = its.length - i ∧ i ≤ its.length ∧ Imm H1 H' ∧ ∃ M', RelM X.K M' H' ∧ Pv i M', ⟨its.length, by simp, Nat.zero_le _, imq, _, R1.new (m := .dK []) hq ⟨_, rfl, .nil⟩, p0 _ updM_same (Mle.new (R1.fresh hq))⟩, ?_⟩
    rintro i m H2 ⟨rfl, hi, i2, M2, R2, p2⟩
    by_cases hlt : i < its.length
    · refine .inr ⟨wk.goes i H2 M2 i2 R2 (pG i M2 hi p2) hlt, fun H' => Imm H1 H' ∧ ∃ M', RelM X.K M' H' ∧ Pv (i + 1) M', fun H' ⟨a, b⟩ => ⟨its.length - (i + 1), by omega, rfl, hlt, a, b⟩, fun xv H3 y => ?_⟩
      have hd : its[i]? = some its[i] := List.getElem?_eq_getElem hlt
      obtain ⟨i3, R3, t3⟩ := wk.yields i H2 M2 xv H3 _ i2 R2 (pG i M2 hi p2) hd y
      obtain ⟨d1, d2, ed, pe2⟩ := ps i _ M2 hd p2
      rw [ed] at t3
      cases t3 with
      | @tup a xs _ hs ha =>
        obtain ⟨v1, v2, rfl, t1, t2⟩ := ha.two
        refine ⟨a, _, rfl, hs, rfl, v1, [v2], rfl, ?_⟩
        show ∃ x r, [v2] = x :: r ∧ _
        refine ⟨v2, [], rfl, ?_⟩
        show [] = [] ∧ _
        refine ⟨rfl, ?_⟩
        refine ⟨wipe2, ?_⟩
        intro s0 H0 C cl fp
        have S3 : Slots X.K H3 (((L2.wipe σv [j1, j2]).set j1 (some v1)).set j2 (some v2)) ((((σ.set j2 none).set j1 none).set j1 (some d1)).set j2 (some d2)) := ((((S.mono ((i1.trans i2).trans i3)).wipe1 j2).wipe1 j1).set t1 j1).set t2 j2
        refine (pe2 s0 H0 C cl fp).go (H0 := H3) S3 R3 fun yv H4 yd M4 i4 R4 t4 ⟨k, ey, pe3⟩ => ?_
        subst ey
        obtain rfl := tp_kD t4
        intro s0 H0 C cl fp
        refine (pe3 s0 H0 C cl fp).go (H0 := H4) (S3.mono i4) R4 fun zv H5 zd M5 i5 R5 t5 ⟨acc, ea, hz, p5⟩ => ?_
        obtain ⟨_, eh, us, rfl, hk⟩ := R5 q _ ea
        have im5 : Imm H5 (upd H5 q (.dK (putK us k zv))) := Imm.set eh (fun z => z)
        exact ⟨us, k, rfl, eh, by rw [hk.length]; exact hz, (((i2.trans i3).trans i4).trans i5).trans im5, _, R5.set (m := .dK (putD acc k zd)) eh (fun z => z) ⟨_, rfl, (hk.mono im5).put (Tp.mono im5 _ _ t5)⟩, SetM.at p5⟩
    · have e : i = its.length := by omega
      subst e
      exact .inl ⟨wk.stops H2 M2 i2 R2 (pG _ M2 hi p2), to _ _ _ _ (i1.trans i2) R2 (.ref q) (pe M2 p2)⟩
theorem e_dc2 (j1 j2 : Nat) (hN : X.N.Nodup) (ok : BlkOk X.N X.env.scope scope [(x1, j1), (x2, j2)])
    (h : IS X (.Tuple [.Name x1 p1, .Name x2 p2] kk tpos) iter σ M fun its G M1 => ∀ q, M1 q = none → ∃ Pv : Nat → Mp → Prop, (∀ M', M' q = some (.dK []) → Mle M1 M' → Pv 0 M') ∧ (∀ i M', i ≤ its.length → Pv i M' → G M') ∧
      (∀ i d M', its[i]? = some d → Pv i M' → ∃ d1 d2, d = .tup [d1, d2] ∧ ∀ (s : Shared) (H0 : Hp) (C : Addr) (cl : List (Str × Addr)) (fp : List Addr),
        ES (X.blk s H0 scope (compEnvC scope cl C X.env) fp) kx ((((σ.set j2 none).set j1 none).set j1 (some d1)).set j2 (some d2)) M' fun y M2 => ∃ k, y = kD k ∧ ∀ (s : Shared) (H0 : Hp) (C : Addr) (cl : List (Str × Addr)) (fp : List Addr),
          ES (X.blk s H0 scope (compEnvC scope cl C X.env) fp) vx ((((σ.set j2 none).set j1 none).set j1 (some d1)).set j2 (some d2)) M2 fun z M3 => ∃ acc, M3 q = some (.dK acc) ∧ acc.length < sizeLine ∧ SetM M3 q (.dK (putD acc k z)) (Pv (i + 1))) ∧
      ∀ M', Pv its.length M' → Q (.ref q) M')
    (h1 : X.N[j1]? = some x1 := by rfl) (h2 : X.N[j2]? = some x2 := by rfl) (hc : X.calm = true := by rfl)
    (hl1 : ∀ cl C, Loc (compEnvC scope cl C X.env).scope x1 := by exact fun _ _ => Or.inl rfl) (hl2 : ∀ cl C, Loc (compEnvC scope cl C X.env).scope x2 := by exact fun _ _ => Or.inl rfl)
    (hf1 : ∀ (s : Shared) (H0 : Hp) (C : Addr) (cl : List (Str × Addr)) (fp : List Addr), (X.blk s H0 scope (compEnvC scope cl C X.env) fp).fn x1 = true ∨ (compEnvC scope cl C X.env).scope.names.lookup x1 = some .local := by exact fun _ _ _ _ _ => Or.inr rfl)
    (hf2 : ∀ (s : Shared) (H0 : Hp) (C : Addr) (cl : List (Str × Addr)) (fp : List Addr), (X.blk s H0 scope (compEnvC scope cl C X.env) fp).fn x2 = true ∨ (compEnvC scope cl C X.env).scope.names.lookup x2 = some .local := by exact fun _ _ _ _ _ => Or.inr rfl)
    (hs : ∀ x, foldedSetIterable iter X.env x = pure x := by intro _; rfl) : ES X (.DictComp kx vx [⟨.Tuple [.Name x1 p1, .Name x2 p2] kk tpos, iter, [], 0⟩] scope pos) σ M Q :=
  ES.of (pe_dc (own := [(x1, j1), (x2, j2)]) (g := gTup X.K 2 (gCons (gName j1) (gCons (gName j2) gNil))) (tt := tYes) (tk := tEB X scope kx) (tv := tEB X scope vx) hc hN pi_sem ok
      (fun s H0 C cl fp => pg_tup (X := X.blk s H0 scope (compEnvC scope cl C X.env) fp) hc (pgs_cons (pg_name (X := X.blk s H0 scope (compEnvC scope cl C X.env) fp) (i := j1) hN h1 (hl1 cl C) (hf1 s H0 C cl fp)) (pgs_cons (pg_name (X := X.blk s H0 scope (compEnvC scope cl C X.env) fp) (i := j2) hN h2 (hl2 cl C) (hf2 s H0 C cl fp)) pgs_nil rfl) rfl) rfl rfl) (fun _ _ _ _ _ => pts_nil)
      (fun s H0 C cl fp => ⟨fun pins s1 σ H Q I hw => hw s H0 C cl fp pins s1 I⟩) (fun s H0 C cl fp => ⟨fun pins s1 σ H Q I hw => hw s H0 C cl fp pins s1 I⟩) hs) fun σv H S R => dc2_read j1 j2 h σv H S R _ To.dq
end
section
variable {X : Cx} {e : Expr} {σ : Sd} {M : Mp} {apos cpos tpos : Pos} {elts : List Expr} {kk : Nat}
theorem tps_items2 {K : PySem.W.Frag} {H : Hp} : ∀ {xs : List (Key × V)} {kvs : List (Key × D)}, KVs K H xs kvs → ∀ {i : Nat} {p : Key × V}, xs[i]? = some p → ∃ d, kvs[i]? = some (p.1, d) ∧ Tp K H p.2 d
  | _, _, .nil, i, p, h => by simp at h
  | _, _, .cons t r, 0, p, h => by
    simp only [List.getElem?_cons_zero, Option.some.injEq] at h
    subst h
    exact ⟨_, rfl, t⟩
  | _, _, .cons t r, i + 1, p, h => by
    rw [List.getElem?_cons_succ] at h
    obtain ⟨d, e, t⟩ := tps_items2 r h
    exact ⟨d, by rw [List.getElem?_cons_succ]; exact e, t⟩
/-- for k, v in d.items(), d locked -/
theorem i_items {R : List D → (Mp → Prop) → Mp → Prop} (h : ES X e σ M fun v M1 => ∃ d kvs od xs Hl, v = .ref d ∧ Lk X.K M1 d kvs od xs Hl ∧ R (kvs.map fun kv => .tup [kD kv.1, kv.2]) (fun M => Lk X.K M d kvs od xs Hl) M1)
    (hbase : attributeBase e "items" X.env (eval e X.env) = eval e X.env := by rfl) (hline : (apos.endLine == cpos.line) = true := by rfl) : IS X (.Tuple elts kk tpos) (.Call (.Attribute e "items" apos) [] [] cpos) σ M R :=
  IS.of (pi_items pe_sem hbase hline) fun σv H S RM => h.go (H0 := H) S RM fun v H1 dv M1 i1 R1 t1 ⟨d, kvs, od, xs, Hl, ev, lk, q⟩ => by
    subst ev
    cases t1
    obtain ⟨ed, hk⟩ := lk.here R1
    refine ⟨d, od, xs, rfl, ed, i1, _, _, M1, R1, ⟨fun i H M im R g hi => ⟨(Lk.here g R).1, ?_⟩, fun H M im R g => ⟨(Lk.here g R).1, ?_⟩, fun i H M x H' y im R g hd z => ?_⟩, q⟩
    · rw [List.length_map] at hi; rw [hk.length]; exact hi
    · rw [List.length_map, hk.length]; exact Nat.le_refl _
    · obtain ⟨T, k, u, hx, rfl, hT, rfl⟩ := z
      obtain ⟨d', ed', tu⟩ := tps_items2 (Lk.here g R).2 hx
      rw [List.getElem?_map, ed'] at hd
      cases hd
      have im2 : Imm H (upd H T (.tup [kV k, u])) := Imm.new hT
      exact ⟨im2, R.skip hT, .tup (SqT.of upd_same) (.cons (tp_kV k) (.cons (Tp.mono im2 _ _ tu) .nil))⟩
end
end DL
set_option maxHeartbeats 4000000
/-! dicts whose keys are any nested data (None, ints, texts, tuples of these), of mixed kinds: «in», «not in», d[k] = v for a new key -/
namespace NK
open PySem
open Sem (wp)
section
variable {prog : Program} {w : World} {A : Around} {E : Value → Shared → Prop} {s : Shared}
/-- the value v is the key k, and asking for == tells nothing -/
def NIs (h : Heap) (k : NestedKey) (v : Value) : Prop := NestedIs h k v ∧ k.depth ≤ 8
abbrev NEnt := NestedKey × Value × Value
def entN (w : World) (x : NEnt) : DictEntry := ⟨x.1.hash w, x.2.1, x.2.2⟩
theorem eqBool_N {x y : NestedKey} {u v : Value} {Q : Bool → Shared → Prop} (hu : A.units + 8 < cLine) (hx : NIs s.heap x u) (hy : NIs s.heap y v) (h : Q (decide (x = y)) s) : wpAny (model prog w) A (PySem.eqBool u v) Q E s :=
  eqAt_key x y A s _ _ hx.1 hy.1 (by have := hx.2; omega) _ _ _ _ (by rw [← NestedKey.decide_eq]; exact h)
theorem pyHash_N {k : NestedKey} {v : Value} {Q : Int → Shared → Prop} (hu : A.units + 8 < cLine) (hk : NIs s.heap k v) (h : Q (k.hash w) { s with toks := s.toks + k.draws }) : wpAny (model prog w) A (pyHash v) Q E s :=
  pyHash_key _ _ _ _ _ hk.1 (by have := hk.2; omega) h
theorem quiet_N {k : NestedKey} {v : Value} {Q : Bool → Shared → Prop} (hk : NIs s.heap k v) (h : Q true s) : wpAny (model prog w) A (eqIsQuiet 8 v) Q E s := quiet_key k _ 8 s hk.1 hk.2 A E Q h
theorem tells_N {key : Value} {k : NestedKey} {stored : List Value} {Q : Bool → Shared → Prop} (hkey : NIs s.heap k key) (hst : ∀ v ∈ stored, ∃ k', NIs s.heap k' v) (h : Q false s) : wpAny (model prog w) A (tableMayTell key stored) Q E s := by
  unfold tableMayTell
  split
  · exact wpAny_pure h
  · refine wpAny_bind (quiet_N hkey ?_)
    simp only [Bool.not_true, Bool.false_eq_true, if_false]
    refine wpAny_bind ?_
    refine wpAny_forIn_list _ (fun rest r s' => s' = s ∧ r = (none, ()) ∧ ∀ v ∈ rest, ∃ k', NIs s.heap k' v) _ ?_ ?_ _ _ ⟨rfl, rfl, hst⟩
    · rintro x rest r s' ⟨rfl, rfl, hr⟩
      obtain ⟨k', hb⟩ := hr x List.mem_cons_self
      refine wpAny_bind (quiet_N hb ?_)
      simp only [Bool.not_true, Bool.false_eq_true, if_false]
      exact wpAny_pure ⟨rfl, rfl, fun v hv => hr v (List.mem_cons_of_mem _ hv)⟩
    · rintro r s' ⟨rfl, rfl, _⟩
      exact wpAny_pure h
theorem inj_N {h : Heap} {x y : NestedKey} {v : Value} (a : NIs h x v) (b : NIs h y v) : x = y := NestedIs.inj _ _ _ a.1 b.1
theorem uniq_N {xs : List NEnt} (hn : (xs.map (·.1)).Nodup) {i j : Nat} {k : NestedKey} {p q : Value × Value} (hi : xs[i]? = some (k, p)) (hj : xs[j]? = some (k, q)) : i = j := by
  have hi' : (xs.map (·.1))[i]? = some k := by rw [List.getElem?_map, hi]; rfl
  have hj' : (xs.map (·.1))[j]? = some k := by rw [List.getElem?_map, hj]; rfl
  exact (List.getElem?_inj (List.getElem?_eq_some_iff.mp hi').1 hn).mp (hi'.trans hj'.symm)
variable {d : Addr} {o : Obj} {es : Array DictEntry} {ep : Nat} {xs : List NEnt} {k : NestedKey} {key : Value} {Q : Option Nat → Shared → Prop}
theorem at_N (he : es.toList = xs.map (entN w)) (j : Nat) : es[j]? = (xs[j]?).map (entN w) := by rw [← Array.getElem?_toList, he, List.getElem?_map]
theorem size_N (he : es.toList = xs.map (entN w)) : es.size = xs.length := by rw [← Array.length_toList, he, List.length_map]
/-- all keys carried by value -/
theorem walk_N (hu : A.units + 8 < cLine) (hkey : NIs s.heap k key) (ho : s.heap.get? d = some o) (hd : o.data = .dict es ep) (he : es.toList = xs.map (entN w)) (his : ∀ x ∈ xs, NIs s.heap x.1 x.2.1)
    (hnone : (∀ (j : Nat) (p : Value × Value), xs[j]? ≠ some (k, p)) → Q none s) (hsome : ∀ (j : Nat) (p : Value × Value), xs[j]? = some (k, p) → Q (some j) s) :
    wpAny (model prog w) A (dictWalkPlain d key (k.hash w) es (placesWithHash es.size (fun i => es[i]?.map (·.hash)) (k.hash w))) Q E s := by
  have hat := at_N he
  have hsz := size_N he
  have haskey : ∀ (j : Nat) (p : Value × Value), xs[j]? = some (k, p) → ((es[j]?.map (·.hash)) == some (k.hash w)) = true := by
    intro j p hj
    rw [hat j, hj]
    simp [entN]
  refine wpAny_bind ?_
  refine wpAny_forIn_list _
    (fun rest b s' => s' = s ∧ b = (none, ()) ∧ ∃ i, rest = (List.range' i (es.size - i)).filter (fun i => (es[i]?.map (·.hash)) == some (k.hash w)) ∧ i ≤ es.size ∧
      ∀ (j : Nat) (p : Value × Value), j < i → xs[j]? ≠ some (k, p)) _ ?_ ?_ _ _
    ⟨rfl, rfl, 0, by rw [placesWithHash, List.range_eq_range', Nat.sub_zero], Nat.zero_le _, fun _ _ h => absurd h (Nat.not_lt_zero _)⟩
  · rintro x rest b s' ⟨rfl, rfl, i, hr, hi, hno⟩
    obtain ⟨hix, hxn, hpx, hskip, hrest⟩ := filter_range'_cons _ _ _ _ _ hr.symm
    have hlt : x < es.size := by omega
    have hrest' : rest = (List.range' (x + 1) (es.size - (x + 1))).filter (fun i => (es[i]?.map (·.hash)) == some (k.hash w)) := by rw [hrest]; congr 2; omega
    obtain ⟨⟨k', v', u'⟩, hkv⟩ : ∃ y, xs[x]? = some y := ⟨xs[x]'(by rw [← hsz]; exact hlt), List.getElem?_eq_getElem _⟩
    have hib : NIs s'.heap k' v' := his _ (List.mem_of_getElem? hkv)
    have hex : es[x]? = some ⟨k'.hash w, v', u'⟩ := by rw [hat x, hkv]; rfl
    have hstay : ¬ k' = k → ∀ (j : Nat) (p : Value × Value), j < x + 1 → xs[j]? ≠ some (k, p) := by
      intro hne j p hjx hj
      rcases Nat.lt_or_ge j i with h | h
      · exact hno j p h hj
      · rcases Nat.lt_or_ge j x with h' | h'
        · have := hskip j h h'
          rw [haskey j p hj] at this
          exact absurd this (by decide)
        · have hjx' : j = x := by omega
          subst hjx'
          rw [hkv] at hj
          injection hj with hj
          injection hj with hj
          exact hne hj
    rw [hex]
    dsimp only
    by_cases hh : (k'.hash w == k.hash w) = true
    · rw [if_pos hh]
      refine wpAny_bind (wpAny_dictEpoch ho hd (wpAny_bind (eqBool_N (x := k') (y := k) hu hib hkey (wpAny_bind (wpAny_dictEpoch ho hd ?_)))))
      show wpAny _ _ (if (ep != ep) = true then _ else _) _ E _
      rw [if_neg (by simp)]
      by_cases hkk : k' = k
      · rw [decide_eq_true hkk]
        subst hkk
        exact wpAny_bind (wpAny_rule (wpAny_pure (wpAny_pure (hsome x _ hkv))))
      · rw [decide_eq_false hkk]
        exact wpAny_bind (wpAny_rule (wpAny_pure ⟨rfl, rfl, x + 1, hrest', hlt, hstay hkk⟩))
    · rw [if_neg hh]
      refine wpAny_pure ⟨rfl, rfl, x + 1, hrest', hlt, hstay ?_⟩
      intro hkk
      rw [hkk] at hh; simp at hh
  · rintro b s' ⟨rfl, rfl, i, hr, hi, hno⟩
    have hall : ∀ j, i ≤ j → j < es.size → ((es[j]?.map (·.hash)) == some (k.hash w)) = false := by
      intro j h1 h2
      have := List.filter_eq_nil_iff.mp hr.symm j (List.mem_range'_1.mpr ⟨h1, by omega⟩)
      simpa using this
    refine wpAny_pure (hnone fun j p hj => ?_)
    rcases Nat.lt_or_ge j i with h | h
    · exact hno j p h hj
    · have hjl : j < es.size := by
        rw [hsz]
        rcases Nat.lt_or_ge j xs.length with h' | h'
        · exact h'
        · rw [List.getElem?_eq_none h'] at hj; exact nomatch hj
      have := hall j h hjl
      rw [haskey j p hj] at this
      exact absurd this (by decide)
/-- all keys exact texts -/
theorem byVal_N {x : Str} {t : Tok} (hu : A.units + 8 < cLine) (hkey : NIs s.heap k (.str x t)) (ho : s.heap.get? d = some o) (hd : o.data = .dict es ep) (he : es.toList = xs.map (entN w)) (his : ∀ x ∈ xs, NIs s.heap x.1 x.2.1)
    (hnone : (∀ (j : Nat) (p : Value × Value), xs[j]? ≠ some (k, p)) → Q none s) (hsome : ∀ (j : Nat) (p : Value × Value), xs[j]? = some (k, p) → Q (some j) s) :
    wpAny (model prog w) A (foundByValue d (.str x t) es x) Q E s := by
  have hat := at_N he
  have hk : k = .text x := by
    have := hkey.1
    cases this
    rfl
  subst hk
  unfold foundByValue
  cases hf : es.findIdx? (fun e => e.key.isStr x) with
  | none =>
    refine wpAny_pure (hnone fun j p hj => ?_)
    have hm : es[j]? = some (entN w (.text x, p)) := by rw [hat j, hj]; rfl
    have := Array.findIdx?_eq_none_iff.mp hf _ (Array.mem_of_getElem? hm)
    have hi := (his _ (List.mem_of_getElem? hj)).1
    obtain ⟨v, u⟩ := p
    cases hi
    simp [entN, Value.isStr] at this
  | some i =>
    obtain ⟨hlt, hi, _⟩ := Array.findIdx?_eq_some_iff_getElem.mp hf
    have hm : es[i]? = some es[i] := Array.getElem?_eq_getElem hlt
    obtain ⟨⟨k', v', u'⟩, hkv⟩ : ∃ y, xs[i]? = some y := by
      have := hat i
      rw [hm] at this
      cases e : xs[i]? with
      | none => rw [e] at this; cases this
      | some y => exact ⟨y, rfl⟩
    have hex : es[i] = entN w (k', v', u') := by
      have := hat i
      rw [hm, hkv] at this
      exact Option.some.inj this
    have hib : NIs s.heap k' v' := his _ (List.mem_of_getElem? hkv)
    rw [hex] at hi
    have hv : ∃ t', v' = .str x t' := by
      have hi : Value.isStr v' x = true := hi
      cases v' <;> simp [Value.isStr] at hi
      exact ⟨_, by rw [hi]⟩
    obtain ⟨t', rfl⟩ := hv
    have hk' : k' = .text x := by
      have := hib.1
      cases this
      rfl
    subst hk'
    simp only [hm]
    rw [hex]
    refine wpAny_bind (wpAny_dictEpoch ho hd (wpAny_bind (eqBool_N (x := .text x) (y := .text x) hu hib hkey (wpAny_bind (wpAny_dictEpoch ho hd ?_)))))
    show wpAny _ _ (if (ep != ep) = true then _ else _) _ E _
    rw [if_neg (by simp), decide_eq_true rfl]
    exact wpAny_bind (wpAny_rule (wpAny_pure (hsome i _ hkv)))
theorem find_N (hu : A.units + 8 < cLine) (hkey : NIs s.heap k key) (ho : s.heap.get? d = some o) (hd : o.data = .dict es ep) (he : es.toList = xs.map (entN w)) (his : ∀ x ∈ xs, NIs s.heap x.1 x.2.1) (hn : (xs.map (·.1)).Nodup)
    (hnone : (∀ (j : Nat) (p : Value × Value), xs[j]? ≠ some (k, p)) → Q none s) (hsome : ∀ (j : Nat) (p : Value × Value), xs[j]? = some (k, p) → Q (some j) s) :
    wpAny (model prog w) A (dictFind d key (k.hash w)) Q E s := by
  have hat := at_N he
  have hsz := size_N he
  have haskey : ∀ (j : Nat) (p : Value × Value), xs[j]? = some (k, p) → ((es[j]?.map (·.hash)) == some (k.hash w)) = true := by
    intro j p hj
    rw [hat j, hj]
    simp [entN]
  have hmem : ∀ e ∈ es, ∃ x ∈ xs, e = entN w x := by
    intro e hin
    have : e ∈ xs.map (entN w) := he ▸ Array.mem_toList_iff.mpr hin
    obtain ⟨x, hx, rfl⟩ := List.mem_map.mp this
    exact ⟨x, hx, rfl⟩
  have hany : ¬ (es.any fun e => e.key == key && e.hash != k.hash w) = true := by
    rw [← Array.any_toList, List.any_eq_true]
    rintro ⟨e, hin, hc⟩
    obtain ⟨x, hx, rfl⟩ := hmem e (Array.mem_toList_iff.mp hin)
    simp only [entN, Bool.and_eq_true, beq_iff_eq, bne_iff_ne, ne_eq] at hc
    obtain ⟨hxa, hne⟩ := hc
    have := his x hx
    rw [hxa] at this
    exact hne (by rw [inj_N this hkey])
  have hst : ∀ v ∈ (placesWithHash es.size (fun i => es[i]?.map (·.hash)) (k.hash w)).filterMap (fun i => es[i]?.map (·.key)), ∃ k', NIs s.heap k' v := by
    intro v hv
    obtain ⟨i, _, hi⟩ := List.mem_filterMap.mp hv
    cases hei : es[i]? with
    | none => rw [hei] at hi; cases hi
    | some e =>
      rw [hei] at hi
      obtain rfl : e.key = v := by simpa using hi
      obtain ⟨x, hx, rfl⟩ := hmem e (Array.mem_of_getElem? hei)
      exact ⟨x.1, his x hx⟩
  unfold dictFind
  try with_reducible refine wpAny_holding ?_
  refine wpAny_bind (wpAny_dictEntries ho hd ?_)
  dsimp only
  by_cases hall : ((key :: (placesWithHash es.size (fun i => es[i]?.map (·.hash)) (k.hash w)).filterMap fun i => es[i]?.map (·.key)).all carriedByValue) = true
  · have old := walk_N (prog := prog) (A := A) (E := E) hu hkey ho hd he his hnone hsome
    cases key with
    | str x t =>
      dsimp only
      by_cases hst : (es.all fun e => isExactStrKey e.key) = true
      · rw [if_pos hst]
        exact byVal_N hu hkey ho hd he his hnone hsome
      · rw [if_neg hst, if_pos hall]
        exact old
    | _ =>
      dsimp only
      rw [if_pos hall]
      exact old
  · clear hmem
    cases key with
    | str x t =>
      dsimp only
      by_cases hse : (es.all fun e => isExactStrKey e.key) = true
      · rw [if_pos hse]
        exact byVal_N hu hkey ho hd he his hnone hsome
      · rw [if_neg hse, if_neg hall]
        by_cases hone : ((List.filterMap (fun i => es[i]?.map (·.key)) (placesWithHash es.size (fun i => es[i]?.map (·.hash)) (k.hash w))) == [Value.str x t]) = true <;>
        (first | rw [if_pos hone] | rw [if_neg hone]) <;> (first | refine wpAny_bind (wpAny_pure ?_) | refine wpAny_bind (tells_N hkey hst ?_)) <;> (
          rw [if_neg (by simp)]
          refine wpAny_bind ?_
          refine wpAny_forIn_list _
            (fun rest b s' => s' = s ∧ ∃ i hit, b = (none, hit) ∧ rest = (List.range' i (es.size - i)).filter (fun i => (es[i]?.map (·.hash)) == some (k.hash w)) ∧ i ≤ es.size ∧
              ((hit = none ∧ ∀ (j : Nat) (p : Value × Value), j < i → xs[j]? ≠ some (k, p)) ∨ ∃ (j : Nat) (p : Value × Value), hit = some j ∧ j < i ∧ xs[j]? = some (k, p))) _ ?_ ?_ _ _
            ⟨rfl, 0, none, rfl, by rw [placesWithHash, List.range_eq_range', Nat.sub_zero], Nat.zero_le _, .inl ⟨rfl, fun _ _ h => absurd h (Nat.not_lt_zero _)⟩⟩
          · rintro x rest b s' ⟨rfl, i, hit, rfl, hr, hi, hH⟩
            obtain ⟨hix, hxn, hpx, hskip, hrest⟩ := filter_range'_cons _ _ _ _ _ hr.symm
            have hlt : x < es.size := by omega
            have hrest' : rest = (List.range' (x + 1) (es.size - (x + 1))).filter (fun i => (es[i]?.map (·.hash)) == some (k.hash w)) := by rw [hrest]; congr 2; omega
            obtain ⟨⟨k', b, v'⟩, hkv⟩ : ∃ y, xs[x]? = some y := ⟨xs[x]'(by rw [← hsz]; exact hlt), List.getElem?_eq_getElem _⟩
            have hib : NIs s'.heap k' b := his _ (List.mem_of_getElem? hkv)
            have hex : es[x]? = some ⟨k'.hash w, b, v'⟩ := by rw [hat x, hkv]; rfl
            have hHx : (hit = none ∧ ∀ (j : Nat) (p : Value × Value), j < x → xs[j]? ≠ some (k, p)) ∨ ∃ (j : Nat) (p : Value × Value), hit = some j ∧ j < x ∧ xs[j]? = some (k, p) := by
              rcases hH with ⟨h0, hno⟩ | ⟨j, p, h1, hji, hj⟩
              · refine .inl ⟨h0, fun j p hjx hj => ?_⟩
                rcases Nat.lt_or_ge j i with h | h
                · exact hno j p h hj
                · have := hskip j h hjx
                  rw [haskey j p hj] at this
                  exact absurd this (by decide)
              · exact .inr ⟨j, p, h1, by omega, hj⟩
            have hstay : ¬ k' = k → ((hit = none ∧ ∀ (j : Nat) (p : Value × Value), j < x + 1 → xs[j]? ≠ some (k, p)) ∨ ∃ (j : Nat) (p : Value × Value), hit = some j ∧ j < x + 1 ∧ xs[j]? = some (k, p)) := by
              intro hne
              rcases hHx with ⟨h0, hno⟩ | ⟨j, p, h1, hjx, hj⟩
              · refine .inl ⟨h0, fun j p hjx hj => ?_⟩
                rcases Nat.lt_or_ge j x with h | h
                · exact hno j p h hj
                · have hjx' : j = x := by omega
                  subst hjx'
                  rw [hkv] at hj
                  injection hj with hj
                  injection hj with hj
                  exact hne hj
              · exact .inr ⟨j, p, h1, by omega, hj⟩
            rw [hex]
            dsimp only
            by_cases hh : (k'.hash w == k.hash w) = true
            · rw [if_pos hh]
              refine wpAny_bind (wpAny_dictEpoch ho hd (wpAny_bind (eqBool_N (x := k') (y := k) hu hib hkey (wpAny_bind (wpAny_dictEpoch ho hd ?_)))))
              show wpAny _ _ (if (ep != ep) = true then _ else _) _ E _
              rw [if_neg (by simp)]
              by_cases hkk : k' = k
              · rw [decide_eq_true hkk]
                subst hkk
                rcases hHx with ⟨rfl, _⟩ | ⟨j, p, _, hjx, hj⟩
                · first | rw [if_pos rfl] | skip
                  simp only [Option.isSome_none, Bool.false_eq_true, if_false]
                  first | refine wpAny_bind (wpAny_pure ?_) | skip
                  refine wpAny_bind (wpAny_rule ?_)
                  split
                  · exact wpAny_pure (wpAny_pure (hsome x _ hkv))
                  · exact wpAny_pure ⟨rfl, x + 1, some x, rfl, hrest', hlt, .inr ⟨x, _, rfl, Nat.lt_succ_self x, hkv⟩⟩
                · exact absurd (uniq_N hn hj hkv) (by omega)
              · rw [decide_eq_false hkk]
                simp only [Bool.false_eq_true, if_false]
                refine wpAny_bind (wpAny_rule ?_)
                first | rw [if_neg (by simp)] | skip
                first
                  | exact wpAny_pure ⟨rfl, x + 1, hit, rfl, hrest', hlt, hstay hkk⟩
                  | exact wpAny_bind (wpAny_pure (wpAny_pure ⟨rfl, x + 1, hit, rfl, hrest', hlt, hstay hkk⟩))
            · rw [if_neg hh]
              refine wpAny_pure ⟨rfl, x + 1, hit, rfl, hrest', hlt, hstay ?_⟩
              intro hkk
              rw [hkk] at hh; simp at hh
          · rintro b s' ⟨rfl, i, hit, rfl, hr, hi, hH⟩
            have hall : ∀ j, i ≤ j → j < es.size → ((es[j]?.map (·.hash)) == some (k.hash w)) = false := by
              intro j h1 h2
              have := List.filter_eq_nil_iff.mp hr.symm j (List.mem_range'_1.mpr ⟨h1, by omega⟩)
              simpa using this
            rcases hH with ⟨rfl, hno⟩ | ⟨j, p, rfl, _, hj⟩
            · refine wpAny_pure (hnone fun j p hj => ?_)
              rcases Nat.lt_or_ge j i with h | h
              · exact hno j p h hj
              · have hjl : j < es.size := by
                  rw [hsz]
                  rcases Nat.lt_or_ge j xs.length with h' | h'
                  · exact h'
                  · rw [List.getElem?_eq_none h'] at hj; exact nomatch hj
                have := hall j h hjl
                rw [haskey j p hj] at this
                exact absurd this (by decide)
            · exact wpAny_pure (hsome j p hj))
    | ref a =>
      dsimp only
      rw [if_neg hall, if_neg hany]
      by_cases hone : ((List.filterMap (fun i => es[i]?.map (·.key)) (placesWithHash es.size (fun i => es[i]?.map (·.hash)) (k.hash w))) == [Value.ref a]) = true <;>
      (first | rw [if_pos hone] | rw [if_neg hone]) <;> (first | refine wpAny_bind (wpAny_pure ?_) | refine wpAny_bind (tells_N hkey hst ?_)) <;> (
        rw [if_neg (by simp)]
        refine wpAny_bind ?_
        refine wpAny_forIn_list _
          (fun rest b s' => s' = s ∧ ∃ i hit, b = (none, hit) ∧ rest = (List.range' i (es.size - i)).filter (fun i => (es[i]?.map (·.hash)) == some (k.hash w)) ∧ i ≤ es.size ∧
            ((hit = none ∧ ∀ (j : Nat) (p : Value × Value), j < i → xs[j]? ≠ some (k, p)) ∨ ∃ (j : Nat) (p : Value × Value), hit = some j ∧ j < i ∧ xs[j]? = some (k, p))) _ ?_ ?_ _ _
          ⟨rfl, 0, none, rfl, by rw [placesWithHash, List.range_eq_range', Nat.sub_zero], Nat.zero_le _, .inl ⟨rfl, fun _ _ h => absurd h (Nat.not_lt_zero _)⟩⟩
        · rintro x rest b s' ⟨rfl, i, hit, rfl, hr, hi, hH⟩
          obtain ⟨hix, hxn, hpx, hskip, hrest⟩ := filter_range'_cons _ _ _ _ _ hr.symm
          have hlt : x < es.size := by omega
          have hrest' : rest = (List.range' (x + 1) (es.size - (x + 1))).filter (fun i => (es[i]?.map (·.hash)) == some (k.hash w)) := by rw [hrest]; congr 2; omega
          obtain ⟨⟨k', b, v'⟩, hkv⟩ : ∃ y, xs[x]? = some y := ⟨xs[x]'(by rw [← hsz]; exact hlt), List.getElem?_eq_getElem _⟩
          have hib : NIs s'.heap k' b := his _ (List.mem_of_getElem? hkv)
          have hex : es[x]? = some ⟨k'.hash w, b, v'⟩ := by rw [hat x, hkv]; rfl
          have hHx : (hit = none ∧ ∀ (j : Nat) (p : Value × Value), j < x → xs[j]? ≠ some (k, p)) ∨ ∃ (j : Nat) (p : Value × Value), hit = some j ∧ j < x ∧ xs[j]? = some (k, p) := by
            rcases hH with ⟨h0, hno⟩ | ⟨j, p, h1, hji, hj⟩
            · refine .inl ⟨h0, fun j p hjx hj => ?_⟩
              rcases Nat.lt_or_ge j i with h | h
              · exact hno j p h hj
              · have := hskip j h hjx
                rw [haskey j p hj] at this
                exact absurd this (by decide)
            · exact .inr ⟨j, p, h1, by omega, hj⟩
          have hstay : ¬ k' = k → ((hit = none ∧ ∀ (j : Nat) (p : Value × Value), j < x + 1 → xs[j]? ≠ some (k, p)) ∨ ∃ (j : Nat) (p : Value × Value), hit = some j ∧ j < x + 1 ∧ xs[j]? = some (k, p)) := by
            intro hne
            rcases hHx with ⟨h0, hno⟩ | ⟨j, p, h1, hjx, hj⟩
            · refine .inl ⟨h0, fun j p hjx hj => ?_⟩
              rcases Nat.lt_or_ge j x with h | h
              · exact hno j p h hj
              · have hjx' : j = x := by omega
                subst hjx'
                rw [hkv] at hj
                injection hj with hj
                injection hj with hj
                exact hne hj
            · exact .inr ⟨j, p, h1, by omega, hj⟩
          rw [hex]
          dsimp only
          by_cases hh : (k'.hash w == k.hash w) = true
          · rw [if_pos hh]
            refine wpAny_bind (wpAny_dictEpoch ho hd (wpAny_bind (eqBool_N (x := k') (y := k) hu hib hkey (wpAny_bind (wpAny_dictEpoch ho hd ?_)))))
            show wpAny _ _ (if (ep != ep) = true then _ else _) _ E _
            rw [if_neg (by simp)]
            by_cases hkk : k' = k
            · rw [decide_eq_true hkk]
              subst hkk
              rcases hHx with ⟨rfl, _⟩ | ⟨j, p, _, hjx, hj⟩
              · first | rw [if_pos rfl] | skip
                simp only [Option.isSome_none, Bool.false_eq_true, if_false]
                first | refine wpAny_bind (wpAny_pure ?_) | skip
                refine wpAny_bind (wpAny_rule ?_)
                split
                · exact wpAny_pure (wpAny_pure (hsome x _ hkv))
                · exact wpAny_pure ⟨rfl, x + 1, some x, rfl, hrest', hlt, .inr ⟨x, _, rfl, Nat.lt_succ_self x, hkv⟩⟩
              · exact absurd (uniq_N hn hj hkv) (by omega)
            · rw [decide_eq_false hkk]
              simp only [Bool.false_eq_true, if_false]
              refine wpAny_bind (wpAny_rule ?_)
              first | rw [if_neg (by simp)] | skip
              first
                | exact wpAny_pure ⟨rfl, x + 1, hit, rfl, hrest', hlt, hstay hkk⟩
                | exact wpAny_bind (wpAny_pure (wpAny_pure ⟨rfl, x + 1, hit, rfl, hrest', hlt, hstay hkk⟩))
          · rw [if_neg hh]
            refine wpAny_pure ⟨rfl, x + 1, hit, rfl, hrest', hlt, hstay ?_⟩
            intro hkk
            rw [hkk] at hh; simp at hh
        · rintro b s' ⟨rfl, i, hit, rfl, hr, hi, hH⟩
          have hall : ∀ j, i ≤ j → j < es.size → ((es[j]?.map (·.hash)) == some (k.hash w)) = false := by
            intro j h1 h2
            have := List.filter_eq_nil_iff.mp hr.symm j (List.mem_range'_1.mpr ⟨h1, by omega⟩)
            simpa using this
          rcases hH with ⟨rfl, hno⟩ | ⟨j, p, rfl, _, hj⟩
          · refine wpAny_pure (hnone fun j p hj => ?_)
            rcases Nat.lt_or_ge j i with h | h
            · exact hno j p h hj
            · have hjl : j < es.size := by
                rw [hsz]
                rcases Nat.lt_or_ge j xs.length with h' | h'
                · exact h'
                · rw [List.getElem?_eq_none h'] at hj; exact nomatch hj
              have := hall j h hjl
              rw [haskey j p hj] at this
              exact absurd this (by decide)
          · exact wpAny_pure (hsome j p hj))
    | none =>
      dsimp only
      rw [if_neg hall]
      by_cases hone : ((List.filterMap (fun i => es[i]?.map (·.key)) (placesWithHash es.size (fun i => es[i]?.map (·.hash)) (k.hash w))) == [Value.none]) = true <;>
      (first | rw [if_pos hone] | rw [if_neg hone]) <;> (first | refine wpAny_bind (wpAny_pure ?_) | refine wpAny_bind (tells_N hkey hst ?_)) <;> (
        rw [if_neg (by simp)]
        refine wpAny_bind ?_
        refine wpAny_forIn_list _
          (fun rest b s' => s' = s ∧ ∃ i hit, b = (none, hit) ∧ rest = (List.range' i (es.size - i)).filter (fun i => (es[i]?.map (·.hash)) == some (k.hash w)) ∧ i ≤ es.size ∧
            ((hit = none ∧ ∀ (j : Nat) (p : Value × Value), j < i → xs[j]? ≠ some (k, p)) ∨ ∃ (j : Nat) (p : Value × Value), hit = some j ∧ j < i ∧ xs[j]? = some (k, p))) _ ?_ ?_ _ _
          ⟨rfl, 0, none, rfl, by rw [placesWithHash, List.range_eq_range', Nat.sub_zero], Nat.zero_le _, .inl ⟨rfl, fun _ _ h => absurd h (Nat.not_lt_zero _)⟩⟩
        · rintro x rest b s' ⟨rfl, i, hit, rfl, hr, hi, hH⟩
          obtain ⟨hix, hxn, hpx, hskip, hrest⟩ := filter_range'_cons _ _ _ _ _ hr.symm
          have hlt : x < es.size := by omega
          have hrest' : rest = (List.range' (x + 1) (es.size - (x + 1))).filter (fun i => (es[i]?.map (·.hash)) == some (k.hash w)) := by rw [hrest]; congr 2; omega
          obtain ⟨⟨k', b, v'⟩, hkv⟩ : ∃ y, xs[x]? = some y := ⟨xs[x]'(by rw [← hsz]; exact hlt), List.getElem?_eq_getElem _⟩
          have hib : NIs s'.heap k' b := his _ (List.mem_of_getElem? hkv)
          have hex : es[x]? = some ⟨k'.hash w, b, v'⟩ := by rw [hat x, hkv]; rfl
          have hHx : (hit = none ∧ ∀ (j : Nat) (p : Value × Value), j < x → xs[j]? ≠ some (k, p)) ∨ ∃ (j : Nat) (p : Value × Value), hit = some j ∧ j < x ∧ xs[j]? = some (k, p) := by
            rcases hH with ⟨h0, hno⟩ | ⟨j, p, h1, hji, hj⟩
            · refine .inl ⟨h0, fun j p hjx hj => ?_⟩
              rcases Nat.lt_or_ge j i with h | h
              · exact hno j p h hj
              · have := hskip j h hjx
                rw [haskey j p hj] at this
                exact absurd this (by decide)
            · exact .inr ⟨j, p, h1, by omega, hj⟩
          have hstay : ¬ k' = k → ((hit = none ∧ ∀ (j : Nat) (p : Value × Value), j < x + 1 → xs[j]? ≠ some (k, p)) ∨ ∃ (j : Nat) (p : Value × Value), hit = some j ∧ j < x + 1 ∧ xs[j]? = some (k, p)) := by
            intro hne
            rcases hHx with ⟨h0, hno⟩ | ⟨j, p, h1, hjx, hj⟩
            · refine .inl ⟨h0, fun j p hjx hj => ?_⟩
              rcases Nat.lt_or_ge j x with h | h
              · exact hno j p h hj
              · have hjx' : j = x := by omega
                subst hjx'
                rw [hkv] at hj
                injection hj with hj
                injection hj with hj
                exact hne hj
            · exact .inr ⟨j, p, h1, by omega, hj⟩
          rw [hex]
          dsimp only
          by_cases hh : (k'.hash w == k.hash w) = true
          · rw [if_pos hh]
            refine wpAny_bind (wpAny_dictEpoch ho hd (wpAny_bind (eqBool_N (x := k') (y := k) hu hib hkey (wpAny_bind (wpAny_dictEpoch ho hd ?_)))))
            show wpAny _ _ (if (ep != ep) = true then _ else _) _ E _
            rw [if_neg (by simp)]
            by_cases hkk : k' = k
            · rw [decide_eq_true hkk]
              subst hkk
              rcases hHx with ⟨rfl, _⟩ | ⟨j, p, _, hjx, hj⟩
              · first | rw [if_pos rfl] | skip
                simp only [Option.isSome_none, Bool.false_eq_true, if_false]
                first | refine wpAny_bind (wpAny_pure ?_) | skip
                refine wpAny_bind (wpAny_rule ?_)
                split
                · exact wpAny_pure (wpAny_pure (hsome x _ hkv))
                · exact wpAny_pure ⟨rfl, x + 1, some x, rfl, hrest', hlt, .inr ⟨x, _, rfl, Nat.lt_succ_self x, hkv⟩⟩
              · exact absurd (uniq_N hn hj hkv) (by omega)
            · rw [decide_eq_false hkk]
              simp only [Bool.false_eq_true, if_false]
              refine wpAny_bind (wpAny_rule ?_)
              first | rw [if_neg (by simp)] | skip
              first
                | exact wpAny_pure ⟨rfl, x + 1, hit, rfl, hrest', hlt, hstay hkk⟩
                | exact wpAny_bind (wpAny_pure (wpAny_pure ⟨rfl, x + 1, hit, rfl, hrest', hlt, hstay hkk⟩))
          · rw [if_neg hh]
            refine wpAny_pure ⟨rfl, x + 1, hit, rfl, hrest', hlt, hstay ?_⟩
            intro hkk
            rw [hkk] at hh; simp at hh
        · rintro b s' ⟨rfl, i, hit, rfl, hr, hi, hH⟩
          have hall : ∀ j, i ≤ j → j < es.size → ((es[j]?.map (·.hash)) == some (k.hash w)) = false := by
            intro j h1 h2
            have := List.filter_eq_nil_iff.mp hr.symm j (List.mem_range'_1.mpr ⟨h1, by omega⟩)
            simpa using this
          rcases hH with ⟨rfl, hno⟩ | ⟨j, p, rfl, _, hj⟩
          · refine wpAny_pure (hnone fun j p hj => ?_)
            rcases Nat.lt_or_ge j i with h | h
            · exact hno j p h hj
            · have hjl : j < es.size := by
                rw [hsz]
                rcases Nat.lt_or_ge j xs.length with h' | h'
                · exact h'
                · rw [List.getElem?_eq_none h'] at hj; exact nomatch hj
              have := hall j h hjl
              rw [haskey j p hj] at this
              exact absurd this (by decide)
          · exact wpAny_pure (hsome j p hj))
    | bool b0 =>
      dsimp only
      rw [if_neg hall]
      by_cases hone : ((List.filterMap (fun i => es[i]?.map (·.key)) (placesWithHash es.size (fun i => es[i]?.map (·.hash)) (k.hash w))) == [Value.bool b0]) = true <;>
      (first | rw [if_pos hone] | rw [if_neg hone]) <;> (first | refine wpAny_bind (wpAny_pure ?_) | refine wpAny_bind (tells_N hkey hst ?_)) <;> (
        rw [if_neg (by simp)]
        refine wpAny_bind ?_
        refine wpAny_forIn_list _
          (fun rest b s' => s' = s ∧ ∃ i hit, b = (none, hit) ∧ rest = (List.range' i (es.size - i)).filter (fun i => (es[i]?.map (·.hash)) == some (k.hash w)) ∧ i ≤ es.size ∧
            ((hit = none ∧ ∀ (j : Nat) (p : Value × Value), j < i → xs[j]? ≠ some (k, p)) ∨ ∃ (j : Nat) (p : Value × Value), hit = some j ∧ j < i ∧ xs[j]? = some (k, p))) _ ?_ ?_ _ _
          ⟨rfl, 0, none, rfl, by rw [placesWithHash, List.range_eq_range', Nat.sub_zero], Nat.zero_le _, .inl ⟨rfl, fun _ _ h => absurd h (Nat.not_lt_zero _)⟩⟩
        · rintro x rest b s' ⟨rfl, i, hit, rfl, hr, hi, hH⟩
          obtain ⟨hix, hxn, hpx, hskip, hrest⟩ := filter_range'_cons _ _ _ _ _ hr.symm
          have hlt : x < es.size := by omega
          have hrest' : rest = (List.range' (x + 1) (es.size - (x + 1))).filter (fun i => (es[i]?.map (·.hash)) == some (k.hash w)) := by rw [hrest]; congr 2; omega
          obtain ⟨⟨k', b, v'⟩, hkv⟩ : ∃ y, xs[x]? = some y := ⟨xs[x]'(by rw [← hsz]; exact hlt), List.getElem?_eq_getElem _⟩
          have hib : NIs s'.heap k' b := his _ (List.mem_of_getElem? hkv)
          have hex : es[x]? = some ⟨k'.hash w, b, v'⟩ := by rw [hat x, hkv]; rfl
          have hHx : (hit = none ∧ ∀ (j : Nat) (p : Value × Value), j < x → xs[j]? ≠ some (k, p)) ∨ ∃ (j : Nat) (p : Value × Value), hit = some j ∧ j < x ∧ xs[j]? = some (k, p) := by
            rcases hH with ⟨h0, hno⟩ | ⟨j, p, h1, hji, hj⟩
            · refine .inl ⟨h0, fun j p hjx hj => ?_⟩
              rcases Nat.lt_or_ge j i with h | h
              · exact hno j p h hj
              · have := hskip j h hjx
                rw [haskey j p hj] at this
                exact absurd this (by decide)
            · exact .inr ⟨j, p, h1, by omega, hj⟩
          have hstay : ¬ k' = k → ((hit = none ∧ ∀ (j : Nat) (p : Value × Value), j < x + 1 → xs[j]? ≠ some (k, p)) ∨ ∃ (j : Nat) (p : Value × Value), hit = some j ∧ j < x + 1 ∧ xs[j]? = some (k, p)) := by
            intro hne
            rcases hHx with ⟨h0, hno⟩ | ⟨j, p, h1, hjx, hj⟩
            · refine .inl ⟨h0, fun j p hjx hj => ?_⟩
              rcases Nat.lt_or_ge j x with h | h
              · exact hno j p h hj
              · have hjx' : j = x := by omega
                subst hjx'
                rw [hkv] at hj
                injection hj with hj
                injection hj with hj
                exact hne hj
            · exact .inr ⟨j, p, h1, by omega, hj⟩
          rw [hex]
          dsimp only
          by_cases hh : (k'.hash w == k.hash w) = true
          · rw [if_pos hh]
            refine wpAny_bind (wpAny_dictEpoch ho hd (wpAny_bind (eqBool_N (x := k') (y := k) hu hib hkey (wpAny_bind (wpAny_dictEpoch ho hd ?_)))))
            show wpAny _ _ (if (ep != ep) = true then _ else _) _ E _
            rw [if_neg (by simp)]
            by_cases hkk : k' = k
            · rw [decide_eq_true hkk]
              subst hkk
              rcases hHx with ⟨rfl, _⟩ | ⟨j, p, _, hjx, hj⟩
              · first | rw [if_pos rfl] | skip
                simp only [Option.isSome_none, Bool.false_eq_true, if_false]
                first | refine wpAny_bind (wpAny_pure ?_) | skip
                refine wpAny_bind (wpAny_rule ?_)
                split
                · exact wpAny_pure (wpAny_pure (hsome x _ hkv))
                · exact wpAny_pure ⟨rfl, x + 1, some x, rfl, hrest', hlt, .inr ⟨x, _, rfl, Nat.lt_succ_self x, hkv⟩⟩
              · exact absurd (uniq_N hn hj hkv) (by omega)
            · rw [decide_eq_false hkk]
              simp only [Bool.false_eq_true, if_false]
              refine wpAny_bind (wpAny_rule ?_)
              first | rw [if_neg (by simp)] | skip
              first
                | exact wpAny_pure ⟨rfl, x + 1, hit, rfl, hrest', hlt, hstay hkk⟩
                | exact wpAny_bind (wpAny_pure (wpAny_pure ⟨rfl, x + 1, hit, rfl, hrest', hlt, hstay hkk⟩))
          · rw [if_neg hh]
            refine wpAny_pure ⟨rfl, x + 1, hit, rfl, hrest', hlt, hstay ?_⟩
            intro hkk
            rw [hkk] at hh; simp at hh
        · rintro b s' ⟨rfl, i, hit, rfl, hr, hi, hH⟩
          have hall : ∀ j, i ≤ j → j < es.size → ((es[j]?.map (·.hash)) == some (k.hash w)) = false := by
            intro j h1 h2
            have := List.filter_eq_nil_iff.mp hr.symm j (List.mem_range'_1.mpr ⟨h1, by omega⟩)
            simpa using this
          rcases hH with ⟨rfl, hno⟩ | ⟨j, p, rfl, _, hj⟩
          · refine wpAny_pure (hnone fun j p hj => ?_)
            rcases Nat.lt_or_ge j i with h | h
            · exact hno j p h hj
            · have hjl : j < es.size := by
                rw [hsz]
                rcases Nat.lt_or_ge j xs.length with h' | h'
                · exact h'
                · rw [List.getElem?_eq_none h'] at hj; exact nomatch hj
              have := hall j h hjl
              rw [haskey j p hj] at this
              exact absurd this (by decide)
          · exact wpAny_pure (hsome j p hj))
    | int i t =>
      dsimp only
      rw [if_neg hall]
      by_cases hone : ((List.filterMap (fun i => es[i]?.map (·.key)) (placesWithHash es.size (fun i => es[i]?.map (·.hash)) (k.hash w))) == [Value.int i t]) = true <;>
      (first | rw [if_pos hone] | rw [if_neg hone]) <;> (first | refine wpAny_bind (wpAny_pure ?_) | refine wpAny_bind (tells_N hkey hst ?_)) <;> (
        rw [if_neg (by simp)]
        refine wpAny_bind ?_
        refine wpAny_forIn_list _
          (fun rest b s' => s' = s ∧ ∃ i hit, b = (none, hit) ∧ rest = (List.range' i (es.size - i)).filter (fun i => (es[i]?.map (·.hash)) == some (k.hash w)) ∧ i ≤ es.size ∧
            ((hit = none ∧ ∀ (j : Nat) (p : Value × Value), j < i → xs[j]? ≠ some (k, p)) ∨ ∃ (j : Nat) (p : Value × Value), hit = some j ∧ j < i ∧ xs[j]? = some (k, p))) _ ?_ ?_ _ _
          ⟨rfl, 0, none, rfl, by rw [placesWithHash, List.range_eq_range', Nat.sub_zero], Nat.zero_le _, .inl ⟨rfl, fun _ _ h => absurd h (Nat.not_lt_zero _)⟩⟩
        · rintro x rest b s' ⟨rfl, i, hit, rfl, hr, hi, hH⟩
          obtain ⟨hix, hxn, hpx, hskip, hrest⟩ := filter_range'_cons _ _ _ _ _ hr.symm
          have hlt : x < es.size := by omega
          have hrest' : rest = (List.range' (x + 1) (es.size - (x + 1))).filter (fun i => (es[i]?.map (·.hash)) == some (k.hash w)) := by rw [hrest]; congr 2; omega
          obtain ⟨⟨k', b, v'⟩, hkv⟩ : ∃ y, xs[x]? = some y := ⟨xs[x]'(by rw [← hsz]; exact hlt), List.getElem?_eq_getElem _⟩
          have hib : NIs s'.heap k' b := his _ (List.mem_of_getElem? hkv)
          have hex : es[x]? = some ⟨k'.hash w, b, v'⟩ := by rw [hat x, hkv]; rfl
          have hHx : (hit = none ∧ ∀ (j : Nat) (p : Value × Value), j < x → xs[j]? ≠ some (k, p)) ∨ ∃ (j : Nat) (p : Value × Value), hit = some j ∧ j < x ∧ xs[j]? = some (k, p) := by
            rcases hH with ⟨h0, hno⟩ | ⟨j, p, h1, hji, hj⟩
            · refine .inl ⟨h0, fun j p hjx hj => ?_⟩
              rcases Nat.lt_or_ge j i with h | h
              · exact hno j p h hj
              · have := hskip j h hjx
                rw [haskey j p hj] at this
                exact absurd this (by decide)
            · exact .inr ⟨j, p, h1, by omega, hj⟩
          have hstay : ¬ k' = k → ((hit = none ∧ ∀ (j : Nat) (p : Value × Value), j < x + 1 → xs[j]? ≠ some (k, p)) ∨ ∃ (j : Nat) (p : Value × Value), hit = some j ∧ j < x + 1 ∧ xs[j]? = some (k, p)) := by
            intro hne
            rcases hHx with ⟨h0, hno⟩ | ⟨j, p, h1, hjx, hj⟩
            · refine .inl ⟨h0, fun j p hjx hj => ?_⟩
              rcases Nat.lt_or_ge j x with h | h
              · exact hno j p h hj
              · have hjx' : j = x := by omega
                subst hjx'
                rw [hkv] at hj
                injection hj with hj
                injection hj with hj
                exact hne hj
            · exact .inr ⟨j, p, h1, by omega, hj⟩
          rw [hex]
          dsimp only
          by_cases hh : (k'.hash w == k.hash w) = true
          · rw [if_pos hh]
            refine wpAny_bind (wpAny_dictEpoch ho hd (wpAny_bind (eqBool_N (x := k') (y := k) hu hib hkey (wpAny_bind (wpAny_dictEpoch ho hd ?_)))))
            show wpAny _ _ (if (ep != ep) = true then _ else _) _ E _
            rw [if_neg (by simp)]
            by_cases hkk : k' = k
            · rw [decide_eq_true hkk]
              subst hkk
              rcases hHx with ⟨rfl, _⟩ | ⟨j, p, _, hjx, hj⟩
              · first | rw [if_pos rfl] | skip
                simp only [Option.isSome_none, Bool.false_eq_true, if_false]
                first | refine wpAny_bind (wpAny_pure ?_) | skip
                refine wpAny_bind (wpAny_rule ?_)
                split
                · exact wpAny_pure (wpAny_pure (hsome x _ hkv))
                · exact wpAny_pure ⟨rfl, x + 1, some x, rfl, hrest', hlt, .inr ⟨x, _, rfl, Nat.lt_succ_self x, hkv⟩⟩
              · exact absurd (uniq_N hn hj hkv) (by omega)
            · rw [decide_eq_false hkk]
              simp only [Bool.false_eq_true, if_false]
              refine wpAny_bind (wpAny_rule ?_)
              first | rw [if_neg (by simp)] | skip
              first
                | exact wpAny_pure ⟨rfl, x + 1, hit, rfl, hrest', hlt, hstay hkk⟩
                | exact wpAny_bind (wpAny_pure (wpAny_pure ⟨rfl, x + 1, hit, rfl, hrest', hlt, hstay hkk⟩))
          · rw [if_neg hh]
            refine wpAny_pure ⟨rfl, x + 1, hit, rfl, hrest', hlt, hstay ?_⟩
            intro hkk
            rw [hkk] at hh; simp at hh
        · rintro b s' ⟨rfl, i, hit, rfl, hr, hi, hH⟩
          have hall : ∀ j, i ≤ j → j < es.size → ((es[j]?.map (·.hash)) == some (k.hash w)) = false := by
            intro j h1 h2
            have := List.filter_eq_nil_iff.mp hr.symm j (List.mem_range'_1.mpr ⟨h1, by omega⟩)
            simpa using this
          rcases hH with ⟨rfl, hno⟩ | ⟨j, p, rfl, _, hj⟩
          · refine wpAny_pure (hnone fun j p hj => ?_)
            rcases Nat.lt_or_ge j i with h | h
            · exact hno j p h hj
            · have hjl : j < es.size := by
                rw [hsz]
                rcases Nat.lt_or_ge j xs.length with h' | h'
                · exact h'
                · rw [List.getElem?_eq_none h'] at hj; exact nomatch hj
              have := hall j h hjl
              rw [haskey j p hj] at this
              exact absurd this (by decide)
          · exact wpAny_pure (hsome j p hj))
    | _ =>
      have h0 := hkey.1
      cases h0
end
/-- the dict at d has these entries -/
def DictN (w : World) (h : Heap) (d : Addr) (xs : List NEnt) : Prop := ∃ o es ep, h.get? d = some o ∧ o.ExactDict ∧ o.data = .dict es ep ∧ es.toList = xs.map (entN w) ∧ (∀ x ∈ xs, NIs h x.1 x.2.1) ∧ (xs.map (·.1)).Nodup
section
variable {prog : Program} {w : World} {A : Around} {E : Value → Shared → Prop} {s : Shared} {d : Addr} {xs : List NEnt} {k : NestedKey} {key : Value}
theorem DictN.typeIs (hm : DictN w s.heap d xs) : s.TypeIs (.ref d) "dict" := let ⟨o, _, _, ho, hc, _⟩ := hm; ⟨o, ho, hc.1⟩
def hasN (xs : List NEnt) (k : NestedKey) : Bool := xs.any fun x => decide (x.1 = k)
theorem hasN_none (h : ∀ (j : Nat) (p : Value × Value), xs[j]? ≠ some (k, p)) : hasN xs k = false := by
  unfold hasN
  rw [List.any_eq_false]
  intro x hx
  obtain ⟨j, hj⟩ := List.mem_iff_getElem?.mp hx
  simp only [decide_eq_true_eq]
  intro e
  obtain ⟨a, b⟩ := x
  subst e
  exact h j b hj
theorem hasN_some {j : Nat} {p : Value × Value} (h : xs[j]? = some (k, p)) : hasN xs k = true := by
  unfold hasN
  rw [List.any_eq_true]
  exact ⟨_, List.mem_of_getElem? h, decide_eq_true rfl⟩
theorem get_N {Q : Option Value → Shared → Prop} (hu : A.units + 8 < cLine) (hkey : NIs s.heap k key) (hm : DictN w s.heap d xs)
    (h : ∀ r, r.isSome = hasN xs k → Q r { s with toks := s.toks + k.draws }) : wpAny (model prog w) A (dictGet d key) Q E s := by
  obtain ⟨o, es, ep, ho, _, hd, he, his, hn⟩ := hm
  unfold dictGet
  try with_reducible refine wpAny_holding ?_
  refine wpAny_bind (pyHash_N hu hkey (wpAny_bind (find_N (s := { s with toks := s.toks + k.draws }) hu hkey ho hd he his hn ?_ ?_)))
  · intro hno
    exact wpAny_pure (h none (hasN_none hno).symm)
  · intro j p hj
    refine wpAny_bind (wpAny_dictEntries (s := { s with toks := s.toks + k.draws }) ho hd ?_)
    rw [at_N he j, hj]
    exact wpAny_pure (h _ (hasN_some hj).symm)
theorem contains_N {Q : Bool → Shared → Prop} (hu : A.in1.units + 8 < cLine) (hkey : NIs s.heap k key) (hd : (d == sysModules) = false) (hm : DictN w s.heap d xs)
    (h : Q (hasN xs k) { s with toks := s.toks + k.draws }) : wpAny (model prog w) A (contains (.ref d) key) Q E s := by
  unfold contains
  try with_reducible refine wpAny_holding ?_
  refine wpAny_bind (wpAny_specialOf hm.typeIs slot_dict_contains.lookup ?_)
  show wpAny _ _ (if (some (Value.builtin "dict.__contains__") == some Value.none) = true then _ else _) _ E s
  rw [if_neg (by rw [beq_builtin_none]; exact Bool.false_ne_true)]
  refine wpAny_bind (wpAny_callSpecialUnlessNone?_slot (name := Str.ofString "__contains__") hm.typeIs slot_dict_contains
    (wpAny_call_entry slot_dict_contains hm.typeIs entry_dict_contains ?_ (args_dict_contains _ _)))
  show wpAny _ _ (dictGet d key >>= _) _ _ s
  refine wpAny_bind (get_N hu hkey hm fun r hr => ?_)
  cases r with
  | some p =>
    rw [← hr] at h
    show wpAny _ _ (ret (.bool true)) _ _ _
    exact wpAny_pure ⟨_, rfl, wpAny_truthy_bool h⟩
  | none =>
    rw [← hr] at h
    show wpAny _ _ (Builtin.Dict.pendingKey? d key >>= _) _ _ _
    exact wpAny_bind (wpAny_pendingKey_other hd (wpAny_pure ⟨_, rfl, wpAny_truthy_bool h⟩))
theorem in_N {Q : Value → Shared → Prop} (hu : A.in1.units + 8 < cLine) (hkey : NIs s.heap k key) (hd : (d == sysModules) = false) (hm : DictN w s.heap d xs)
    (h : Q (.bool (hasN xs k)) { s with toks := s.toks + k.draws }) : wpAny (model prog w) A (compareOp .In key (.ref d)) Q E s := by
  show wpAny _ _ (do return .bool (← contains (.ref d) key)) Q E s
  exact wpAny_bind (contains_N hu hkey hd hm (wpAny_pure h))
theorem notIn_N {Q : Value → Shared → Prop} (hu : A.in1.units + 8 < cLine) (hkey : NIs s.heap k key) (hd : (d == sysModules) = false) (hm : DictN w s.heap d xs)
    (h : Q (.bool (!hasN xs k)) { s with toks := s.toks + k.draws }) : wpAny (model prog w) A (compareOp .NotIn key (.ref d)) Q E s := by
  show wpAny _ _ (do return .bool (!(← contains (.ref d) key))) Q E s
  exact wpAny_bind (contains_N hu hkey hd hm (wpAny_pure h))
/-- d[k] = v, k new -/
theorem setNew_N {v : Value} {Q : Unit → Shared → Prop} (hu : A.in1.units + 8 < cLine) (hkey : NIs s.heap k key) (hm : DictN w s.heap d xs) (hnew : hasN xs k = false) (hsz : xs.length ≤ sizeLine)
    (hQ : ∀ h' : Heap, (∃ o es ep, h'.get? d = some o ∧ o.ExactDict ∧ o.data = .dict es ep ∧ es.toList = (xs ++ [(k, key, v)]).map (entN w)) → Heap.SameBut d s.heap h' → Q () { s with heap := h', toks := s.toks + k.draws }) :
    wpAny (model prog w) A (setItem (.ref d) key v) Q E s := by
  unfold setItem
  try with_reducible refine wpAny_holding ?_
  refine wpAny_bind (wpAny_sequenceKey hm.typeIs (by decide) ?_)
  refine wpAny_bind (wpAny_callSpecial?_slot (name := Str.ofString "__setitem__") hm.typeIs slot_dict_setitem
    (wpAny_call_entry slot_dict_setitem hm.typeIs entry_dict_setitem ?_ (args_dict_setitem _ _ _)))
  show wpAny _ _ (Builtin.Dict.notOrdered "__setitem__" ⟨[.ref d, key, v], []⟩ >>= _) _ _ s
  refine wpAny_bind (wpAny_notOrdered_dict hm.typeIs ?_)
  show wpAny _ _ (dictSet d key v >>= _) _ _ s
  refine wpAny_bind ?_
  obtain ⟨o, es, ep, ho, hc, hd, he, his, hn⟩ := hm
  unfold dictSet
  try with_reducible refine wpAny_holding ?_
  refine wpAny_bind (pyHash_N hu hkey ?_)
  unfold dictSetHashed
  try with_reducible refine wpAny_holding ?_
  refine wpAny_bind (find_N (s := { s with toks := s.toks + k.draws }) hu hkey ho hd he his hn ?_ ?_)
  · intro hno
    refine wpAny_bind (wpAny_rule (wpAny_updateDictKeys (hz := by have e := size_N he; omega) (s := { s with toks := s.toks + k.draws }) ho hd (wpAny_pure ⟨.none, rfl, wpAny_pure (hQ _ ⟨_, _, ep + 1, Heap.get?_update_self _ ho (Obj.isFreed_of_dict (Obj.data_mapDictKeys hd _)),
      hc.mapDictKeys _, Obj.data_mapDictKeys hd _, ?_⟩ (Heap.SameBut.update ..))⟩)))
    simp [he, entN]
  · intro j p hj
    rw [hasN_some hj] at hnew
    cases hnew
end
end NK
namespace DL
open PySem L2 PySem.Spec PyProof.Rows NK
section
variable {X : Cx} {pins : List (Addr × Obj)} {σ : L2.St} {H : Hp} {s : Shared}
mutual
/-- data that is a key, as a key of the heap -/
theorem nis_of (I : Inv X pins σ H s) : ∀ (d : D) (v : V) (u : Value), kyD d = true → Tp X.K H v d → L2.RelV v u → NestedIs s.heap (nkD d) u
  | .non, _, _, _, t, r => by cases t; obtain rfl : _ = Value.none := r; exact .none
  | .int i, _, _, _, t, r => by cases t; obtain ⟨t, rfl⟩ := r; exact .int _ _
  | .str x, _, _, _, t, r => by cases t; obtain ⟨t, rfl⟩ := r; exact .text _ _
  | .tup l, _, _, h, t, r => by
    cases t with
    | tup hs ha =>
      obtain rfl : _ = Value.ref _ := r
      obtain ⟨its, rv, ⟨o, h1, h2, n, h3⟩, hz⟩ := I.tuple hs
      exact .tup h1 h2 h3 (nall_of I l _ _ h ha rv)
  | .bl _, _, _, h, _, _ => by cases h
  | .ref _, _, _, h, _, _ => by cases h
  | .ty _, _, _, h, _, _ => by cases h
  | .rol _, _, _, h, _, _ => by cases h
theorem nall_of (I : Inv X pins σ H s) : ∀ (ds : List D) (vs : List V) (us : List Value), kysD ds = true → Tps X.K H vs ds → Vals vs us → NestedAll s.heap (nksD ds) us
  | [], _, _, _, t, r => by cases t; cases r; exact .nil
  | d :: ds, _, _, h, t, r => by
    rw [kysD, Bool.and_eq_true] at h
    cases t with
    | cons t1 t2 =>
      cases r with
      | cons r1 r2 => exact .cons (nis_of I d _ _ h.1 t1 r1) (nall_of I ds _ _ h.2 t2 r2)
end
/-- what the keys' data are -/
def KeysT (K : PySem.W.Frag) (H : Hp) (es : List (NestedKey × V × V)) : Prop := ∀ x ∈ es, ∃ d, kyD d = true ∧ nkD d = x.1 ∧ x.1.depth ≤ 8 ∧ Tp K H x.2.1 d
abbrev EntR (w : World) (x : NestedKey × V × V) (e : DictEntry) : Prop := e.hash = x.1.hash w ∧ L2.RelV x.2.1 e.key ∧ L2.RelV x.2.2 e.val
theorem ent_of (I : Inv X pins σ H s) : ∀ {es : List (NestedKey × V × V)} {ar : List DictEntry}, Paired (EntR X.w) es ar → KeysT X.K H es → ∃ xs : List NEnt, ar = xs.map (entN X.w) ∧ xs.map (·.1) = es.map (·.1) ∧ ∀ x ∈ xs, NIs s.heap x.1 x.2.1
  | _, _, .nil, _ => ⟨[], rfl, rfl, fun _ h => by cases h⟩
  | _, _, .cons (a := x) (b := e) (l₁ := es) r t, hk => by
    obtain ⟨xs, e1, e2, e3⟩ := ent_of I t fun y hy => hk y (List.mem_cons_of_mem _ hy)
    obtain ⟨d, h1, h2, h3, h4⟩ := hk x List.mem_cons_self
    obtain ⟨r1, r2, r3⟩ := r
    refine ⟨(x.1, e.key, e.val) :: xs, ?_, by rw [List.map_cons, List.map_cons, e2], fun y hy => ?_⟩
    · rw [List.map_cons, ← e1]
      congr 1
      show e = ⟨x.1.hash X.w, e.key, e.val⟩
      rw [← r1]
    · rcases List.mem_cons.mp hy with rfl | hy
      · exact ⟨by rw [← h2]; exact nis_of I d _ _ h1 h4 r2, h3⟩
      · exact e3 y hy
theorem no_at {a : Addr} {es : List (NestedKey × V × V)} (I : Inv X pins σ H s) (e : H a = some (NO X.w a es)) : noP X.w a es s.heap := (I.hok a _ e).1
theorem dn_at {a : Addr} {es : List (NestedKey × V × V)} (I : Inv X pins σ H s) (e : H a = some (NO X.w a es)) (hk : KeysT X.K H es) : es.length ≤ sizeLine ∧ (a == sysModules) = false ∧ ∃ xs : List NEnt, DictN X.w s.heap a xs ∧ xs.map (·.1) = es.map (·.1) := by
  obtain ⟨h1, h2, h3, o, ar, ep, h4, h5, h6, h7⟩ := no_at I e
  obtain ⟨xs, e1, e2, e3⟩ := ent_of I h7 hk
  exact ⟨h1, h2, xs, ⟨o, ar, ep, h4, h5, h6, e1, e3, by rw [e2]; exact h3⟩, e2⟩
theorem has_keys {xs : List NEnt} {es : List (NestedKey × V × V)} {k : NestedKey} (h : xs.map (·.1) = es.map (·.1)) : hasN xs k = decide (k ∈ es.map (·.1)) := by
  rw [← h]
  unfold hasN
  rw [Bool.eq_iff_iff, List.any_eq_true, decide_eq_true_eq, List.mem_map]
  constructor
  · rintro ⟨x, hx, e⟩
    exact ⟨x, hx, of_decide_eq_true e⟩
  · rintro ⟨x, hx, e⟩
    exact ⟨x, hx, decide_eq_true e⟩
end
/-- y not in d -/
def tNotInN (neg : Bool) (K : PySem.W.Frag) (w : World) (ty td : TE) : TE := fun σ H Q => ty σ H fun y H1 => td σ H1 fun x H2 => ∃ a es d, x = .ref a ∧ H2 a = some (NO w a es) ∧ KeysT K H2 es ∧ kyD d = true ∧ (nkD d).depth ≤ 8 ∧ Tp K H2 y d ∧
  Q (.bl (if neg then !decide (nkD d ∈ es.map (·.1)) else decide (nkD d ∈ es.map (·.1)))) H2
def sNewN (K : PySem.W.Frag) (w : World) (td ty tv : TE) : TS := fun D σ H => tv σ H fun v H1 => td σ H1 fun x H2 => ty σ H2 fun y H3 => ∃ a es d, x = .ref a ∧ H3 a = some (NO w a es) ∧ KeysT K H3 es ∧ kyD d = true ∧ (nkD d).depth ≤ 8 ∧ Tp K H3 y d ∧
  nkD d ∉ es.map (·.1) ∧ es.length < sizeLine ∧ D.nx σ (upd H3 a (NO w a (es ++ [(nkD d, y, v)])))
section
variable {X : Cx} {o i value : Expr} {pos pos' : Pos} {ty td tv : TE}
theorem pc_inN (hu : X.A.units + 64 < cLine) (hi : PE X i ty) (ho : PE X o td) : PC X .In i o (tNotInN false X.K X.w ty td) := by
  refine ⟨fun pins s σ H Q I h => ?_⟩
  refine thn (hi.run pins s σ H _ I h) fun iv s1 ⟨y, H1, I1, ry, q1⟩ => thn (ho.run pins s1 σ H1 _ I1 q1) fun u s2 ⟨x, H2, I2, rx, a, es, d, ex, g, hk, kd, dp, ty, q2⟩ => ?_
  subst ex
  obtain rfl : u = Value.ref a := rx
  obtain ⟨_, h2, xs, hm, ek⟩ := dn_at I2 g hk
  have hkey : NIs s2.heap (nkD d) iv := ⟨nis_of I2 d y iv kd ty ry, dp⟩
  exact in_N (by show X.A.units + 1 + 8 < cLine; omega) hkey h2 hm ⟨.bl _, H2, I2.tok _, rfl, by rw [has_keys ek]; exact q2⟩
theorem pc_notInN (hu : X.A.units + 64 < cLine) (hi : PE X i ty) (ho : PE X o td) : PC X .NotIn i o (tNotInN true X.K X.w ty td) := by
  refine ⟨fun pins s σ H Q I h => ?_⟩
  refine thn (hi.run pins s σ H _ I h) fun iv s1 ⟨y, H1, I1, ry, q1⟩ => thn (ho.run pins s1 σ H1 _ I1 q1) fun u s2 ⟨x, H2, I2, rx, a, es, d, ex, g, hk, kd, dp, ty, q2⟩ => ?_
  subst ex
  obtain rfl : u = Value.ref a := rx
  obtain ⟨_, h2, xs, hm, ek⟩ := dn_at I2 g hk
  have hkey : NIs s2.heap (nkD d) iv := ⟨nis_of I2 d y iv kd ty ry, dp⟩
  exact notIn_N (by show X.A.units + 1 + 8 < cLine; omega) hkey h2 hm ⟨.bl _, H2, I2.tok _, rfl, by rw [has_keys ek]; exact q2⟩
theorem paired_snoc {α β : Type} {F : α → β → Prop} : ∀ {l₁ : List α} {l₂ : List β} {a : α} {b : β}, Paired F l₁ l₂ → F a b → Paired F (l₁ ++ [a]) (l₂ ++ [b])
  | _, _, _, _, .nil, h => .cons h .nil
  | _, _, _, _, .cons r t, h => .cons r (paired_snoc t h)
theorem no_ok {P : Program} {w : World} {H : Hp} {h : Heap} {a : Addr} {es : List (NestedKey × V × V)} (p : noP w a es h) : ObjOk P w H h a (NO w a es) := by
  refine ⟨p, ?_, ?_⟩
  · obtain ⟨_, _, _, o, _, _, ho, _⟩ := p
    exact ⟨o, ho⟩
  · rintro h1 h2 ⟨p1, p2, p3, o, ar, ep, p4, p5⟩ st
    exact ⟨p1, p2, p3, o, ar, ep, st _ p4, p5⟩
theorem ps_newN (hu : X.A.units + 64 < cLine) (ho : PE X o td) (hi : PE X i ty) (hv : PE X value tv) (hs : swapsWith value (some (.Subscript o i pos')) pos.line X.env = pure false) :
    PS X (.Assign [.Subscript o i pos'] value pos) (sNewN X.K X.w td ty tv) := by
  refine ⟨fun pins s σ H D I h => ?_⟩
  refine wpAny_Assign_Subscript (thn (hv.run pins s σ H _ I h) fun r s1 ⟨v, H1, I1, rv, q1⟩ => thn (ho.run pins s1 σ H1 _ I1 q1) fun u s2 ⟨x, H2, I2, rx, q2⟩ => thn (hi.run pins s2 σ H2 _ I2 q2) fun iv s3 ⟨y, H3, I3, ry, a, es, d, ex, g, hk, kd, dp, ty, hnew, hl, q3⟩ => ?_) hs
  subst ex
  obtain rfl : u = Value.ref a := rx
  obtain ⟨n1, n2, n3, ob, ar, ep, n4, n5, n6, n7⟩ := no_at I3 g
  obtain ⟨xs, e1, e2, e3⟩ := ent_of I3 n7 hk
  have hm : DictN X.w s3.heap a xs := ⟨ob, ar, ep, n4, n5, n6, e1, e3, by rw [e2]; exact n3⟩
  have hkey : NIs s3.heap (nkD d) iv := ⟨nis_of I3 d y iv kd ty ry, dp⟩
  have lxs : xs.length = es.length := by have := congrArg List.length e2; rwa [List.length_map, List.length_map] at this
  refine setNew_N (by show X.A.units + 1 + 8 < cLine; omega) hkey hm (by rw [has_keys e2]; exact decide_eq_false hnew) (by omega) fun h' ⟨o', es', ep', h1, h2, h3, h4⟩ hsb => ⟨σ, _, ?_, q3⟩
  refine d_write I3 (by rw [g]; exact True.intro) hsb ⟨o', h1⟩ (no_ok ⟨by rw [List.length_append]; exact hl, n2, ?_, o', es', ep', h1, h2, h3, ?_⟩)
  · rw [List.map_append, List.nodup_append]
    refine ⟨n3, by simp, fun x hx y hy => ?_⟩
    simp only [List.map_cons, List.map_nil, List.mem_singleton] at hy
    subst hy
    exact fun e => hnew (e ▸ hx)
  · rw [h4, List.map_append, ← e1]
    exact paired_snoc n7 ⟨rfl, ry, rv⟩
def tNewN (w : World) : TE := fun _ H Q => ∀ p, H p = none → Q (.ref p) (upd H p (NO w p []))
theorem pe_newN {pos : Pos} : PE X (.Dict [] [] pos) (tNewN X.w) := ⟨fun pins s σ H Q I h =>
  wpAny_Dict_empty ⟨.ref s.heap.objs.size, _, I.laid (a := s.heap.objs.size) (o := NO X.w s.heap.objs.size []) (t' := s.toks) (fun _ _ q => Heap.get?_push_of_some _ q) (Nat.le_refl _)
    (no_ok ⟨Nat.zero_le _, beq_eq_false_iff_ne.mpr (Ne.symm (Nat.ne_of_lt I.big)), List.nodup_nil, _, #[], 0, Heap.get?_push_size _ rfl, ⟨rfl, rfl, rfl⟩, rfl, .nil⟩), rfl, h _ (I.hok.fresh (Nat.le_refl _))⟩⟩
end
section
variable {X : Cx} {e o i value a b : Expr} {es : List Expr} {σ : Sd} {M : Mp} {Q : QD} {QB : Bool → Mp → Prop} {E : DE} {pos pos' p p2 : Pos}
/-- {}: a dict whose keys will be any data -/
theorem e_dictN (h : ∀ p M', M p = none → M' p = some (.dN X.w p []) → Mle M M' → Q (.ref p) M') : ES X (.Dict [] [] pos) σ M Q :=
  ES.of pe_newN fun σv H S R p hp => ⟨Imm.new hp, _, _, R.new (m := .dN X.w p []) hp ⟨[], rfl, rfl, fun _ h => by cases h⟩, .ref p, h p _ (R.fresh hp) updM_same (Mle.new (R.fresh hp))⟩
/-- y in d, y not in d -/
def RInN (neg : Bool) (w : World) (y x : D) (M : Mp) (Q : Bool → Mp → Prop) : Prop := ∃ a ks, x = .ref a ∧ M a = some (.dN w a ks) ∧ kyD y = true ∧ (nkD y).depth ≤ 8 ∧ Q (if neg then !decide (nkD y ∈ ks) else decide (nkD y ∈ ks)) M
theorem nin_go {neg : Bool} {H : Hp} {σv : L2.St} (h : ES X i σ M fun y M1 => ES X o σ M1 fun x M2 => RInN neg X.w y x M2 QB) (S : Slots X.K H σv σ) (R : RelM X.K M H) : tNotInN neg X.K X.w (tE X i) (tE X o) σv H fun v H' => ∃ c, v = .bl c ∧ DB X.K H QB c H' :=
  h.go (H0 := H) S R fun v H1 y M1 i1 R1 t1 q1 => q1.go (H0 := H1) (S.mono i1) R1 fun u H2 x M2 i2 R2 t2 q2 => by
    have t1' := Tp.mono i2 _ _ t1
    obtain ⟨a, ks, rfl, ea, kd, dp, q⟩ := q2
    cases t2
    obtain ⟨_, eh, es, rfl, rfl, hk⟩ := R2 a _ ea
    exact ⟨a, es, y, rfl, eh, hk, kd, dp, t1', _, rfl, i1.trans i2, M2, R2, q⟩
theorem t_inN (hr : ∃ k, Room k X.A) (h : ES X i σ M fun y M1 => ES X o σ M1 fun x M2 => RInN false X.w y x M2 QB) (hm : behindInMarks .In o = false := by rfl) : TT3 X (.Compare i [.In] [o] pos) σ M QB :=
  TT3.of (pt_cmp (pc_inN (by have := hr.choose_spec.units; omega) pe_sem pe_sem) hm) fun σv H S R => nin_go h S R
theorem t_ninN (hr : ∃ k, Room k X.A) (h : ES X i σ M fun y M1 => ES X o σ M1 fun x M2 => RInN true X.w y x M2 QB) (hm : behindInMarks .NotIn o = false := by rfl) : TT3 X (.Compare i [.NotIn] [o] pos) σ M QB :=
  TT3.of (pt_cmp (pc_notInN (by have := hr.choose_spec.units; omega) pe_sem pe_sem) hm) fun σv H S R => nin_go h S R
/-- d[k] = v, k new -/
def RNewN (w : World) (x y : D) (M : Mp) (Q : Mp → Prop) : Prop := ∃ a ks, x = .ref a ∧ M a = some (.dN w a ks) ∧ kyD y = true ∧ (nkD y).depth ≤ 8 ∧ nkD y ∉ ks ∧ ks.length < sizeLine ∧ SetM M a (.dN w a (ks ++ [nkD y])) Q
theorem s_newN (hr : ∃ k, Room k X.A) (h : ES X value σ M fun v M1 => ES X o σ M1 fun x M2 => ES X i σ M2 fun y M3 => RNewN X.w x y M3 fun M4 => E.nx σ M4) (hs : swapsWith value (some (.Subscript o i pos')) pos.line X.env = pure false := by rfl) : SS X (.Assign [.Subscript o i pos'] value pos) σ M E :=
  SS.of (ps_newN (by have := hr.choose_spec.units; omega) pe_sem pe_sem pe_sem hs) fun σv H S R => h.go (H0 := H) S R fun v H1 d M1 i1 R1 t1 q1 => q1.go (H0 := H1) (S.mono i1) R1 fun u H2 x M2 i2 R2 t2 q2 => q2.go (H0 := H2) ((S.mono i1).mono i2) R2 fun ky H3 y M3 i3 R3 t3 q3 => by
    have t2' := Tp.mono i3 _ _ t2
    obtain ⟨a, ks, rfl, ea, kd, dp, hnew, hl, q⟩ := q3
    cases t2'
    obtain ⟨_, eh, es, rfl, rfl, hk⟩ := R3 a _ ea
    have im : Imm H3 (upd H3 a (NO X.w a (es ++ [(nkD y, ky, v)]))) := Imm.set eh nfixed_NO
    have ii := (i1.trans i2).trans i3
    refine ⟨a, es, y, rfl, eh, hk, kd, dp, t3, hnew, by rwa [List.length_map] at hl, ii.trans im, σ, _, S.mono (ii.trans im), R3.set (m := .dN X.w a (es.map (·.1) ++ [nkD y])) eh nfixed_NO ⟨_, rfl, by rw [List.map_append]; rfl, fun x hx => ?_⟩, SetM.at q⟩
    rcases List.mem_append.mp hx with hx | hx
    · obtain ⟨d', h1, h2, h3, h4⟩ := hk x hx
      exact ⟨d', h1, h2, h3, Tp.mono im _ _ h4⟩
    · obtain rfl := List.mem_singleton.mp hx
      exact ⟨y, kd, rfl, dp, Tp.mono im _ _ t3⟩
end
end DL
set_option maxHeartbeats 4000000
namespace DL
open PySem L2 PySem.Spec PyProof.Rows
/-! ### lambdas that capture cells: their promise; handed to a def; called there -/
/-- its words, as HandS.Nested has them -/
abbrev LmW.nf (F : LmW) : NdefX.NF := ⟨"<lambda>", F.qual, F.params, [], F.scope, F.cl, F.c⟩
/-- the captured cells hold these references -/
abbrev refsV (cs : List Addr) : List (Option V) := cs.map fun a => some (.ref a)
abbrev refsD (cs : List Addr) : Sd := cs.map fun a => some (.ref a)
abbrev lamCx (P : Program) (w : World) (K : PySem.W.Frag) (mg : Str → Option Value) (base : Heap) (N : List Str) (F : LmW) (g : Addr) (A : Around) (outer : List Env) (s : Shared) (H : Hp) : Cx := (NdefX.ncx CX0 P w K mg base N F.nf g A outer s H E0).nox
/-- the slots at the entry -/
def startL (N : List Str) (ds : List D) (cs : List Addr) : Sd := ds.map some ++ (refsD cs ++ List.replicate (N.length - ds.length - cs.length) none)
/-- the promise of the lambda F at g -/
structure LOk (P : Program) (w : World) (K : PySem.W.Frag) (mg : Str → Option Value) (base : Heap) (k : Nat) (g : Addr) (F : LmW) (fr : List Str) (cs : List Addr) (sp3 : Sp3) : Prop where
  run : ∀ (A : Around) (outer : List Env) (s : Shared) (H : Hp) (us : List Value) (vs : List V) (ds : List D) (M : Mp) (Q3 : QD) (Q : VK), Room k A → Env0 P w K mg base A outer s H → H g = some (LmO g F) → H F.c = some (LamX.CodeO F.c F.qual) →
    NdefX.CellsAt F.cl fr (refsV cs) s.heap H → Vals vs us → Tps K H vs ds → RelM K M H → sp3 ds M Q3 → To K H Q3 Q → codeAny (model P w) A (.call (.ref g) ⟨us, []⟩) (CR CX0 outer P w H s Q E0) s
theorem slotsL {K : PySem.W.Frag} {H : Hp} {N : List Str} {vs : List V} {ds : List D} {cs : List Addr} (t : Tps K H vs ds) : Slots K H (NdefX.startF N vs (refsV cs)) (startL N ds cs) := by
  unfold NdefX.startF startL
  have hl := t.length
  refine ⟨by simp [hl], fun i d h => ?_⟩
  by_cases h1 : i < ds.length
  · rw [List.getElem?_append_left (by rw [List.length_map]; exact h1), List.getElem?_map] at h
    cases e : ds[i]? with
    | none => rw [e] at h; cases h
    | some d' =>
      rw [e] at h
      cases h
      obtain ⟨v, q, z⟩ := t.get e
      refine ⟨v, ?_, z⟩
      rw [List.getElem?_append_left (by rw [List.length_map, hl]; exact h1), List.getElem?_map, q]
      rfl
  · rw [List.getElem?_append_right (by rw [List.length_map]; omega), List.length_map] at h
    by_cases h2 : i - ds.length < cs.length
    · rw [List.getElem?_append_left (by rw [List.length_map]; exact h2), List.getElem?_map] at h
      cases e : cs[i - ds.length]? with
      | none => rw [e] at h; cases h
      | some a =>
        rw [e] at h
        cases h
        refine ⟨.ref a, ?_, .ref a⟩
        have el : (vs.map some).length = ds.length := by rw [List.length_map, hl]
        rw [List.getElem?_append_right (by rw [el]; omega), el, List.getElem?_append_left (by simp; exact h2)]
        simp [e]
    · rw [List.getElem?_append_right (by rw [List.length_map]; omega), List.getElem?_replicate] at h
      split at h <;> cases h
/-- THE RULE: a lambda by its body -/
theorem lok_of {P : Program} {w : World} {K : PySem.W.Frag} {mg : Str → Option Value} {base : Heap} {N ps fr : List Str} {F : LmW} {g : Addr} {cs : List Addr} {k : Nat} {sp3 : Sp3} (S : NdefX.NScope N ps fr F.scope)
    (hb : ∀ (pm ctv : Value) (us : List Value), us.length = ps.length → bindArgs (F.fd pm ctv) ⟨us, []⟩ = pure (ps.zip us)) (len : ∀ ds M Q, sp3 ds M Q → ds.length = ps.length)
    (hbody : ∀ (A : Around) (outer : List Env) (s : Shared) (H : Hp), Room k (A.deeper (NdefX.envF F.nf g s.heap.objs.size)) → ∀ ds M Q, sp3 ds M Q → ES (lamCx P w K mg base N F g A outer s H) F.body (startL N ds cs) M (Wk Q)) : LOk P w K mg base (k + 1) g F fr cs sp3 := by
  refine ⟨fun A outer s H us vs ds M Q3 Q hr e0 hf hc C r t R q to => ?_⟩
  have hl : vs.length = ps.length := by rw [t.length]; exact len _ _ _ q
  have lim : s.heap.NoLimit := e0.mod.nolimit.keeps fun b o e => (e0.bs b o e).1
  obtain ⟨⟨od, sl, pm, ctv, ho⟩, _, _⟩ := e0.hok g _ hf
  obtain ⟨⟨oc, vc, tc, h1, h2, h3⟩, _, _⟩ := e0.hok F.c _ hc
  refine PySem.W.kla_callFunE hr.depth ho rfl S.co S.gen rfl ⟨F.c, oc, vc, tc, rfl, h1, h2, h3⟩ ?_
  rw [hb pm ctv us (by rw [← r.length]; exact hl)]
  refine wpAny_pure (wpAny_newFunctionEnv S.nocell (fun ⟨n, _⟩ hy => S.par n (List.of_mem_zip hy).1) (fun h₁ hns hsb => ⟨lim.fresh _ hsb, ?_⟩) S.kind)
  show codeAny _ _ (.expr F.body (NdefX.envF F.nf g s.heap.objs.size)) _ _
  have kp : ∀ b o, s.heap.get? b = some o → h₁.get? b = some o := fun b o e => hsb.extBut b o (Nat.ne_of_lt (Heap.lt_size e)) (Heap.get?_push_of_some _ e)
  have I : Inv (NdefX.ncx CX0 P w K mg base N F.nf g A outer s H E0) [] (NdefX.startF N vs (refsV cs)) H { s with heap := h₁, toks := s.toks + (ps.zip us).length } := NdefX.inv_startN S hr.hd e0 hl r C hns kp
  have hE := PE.nox (X := NdefX.ncx CX0 P w K mg base N F.nf g A outer s H E0) (e := F.body) (t := tE (lamCx P w K mg base N F g A outer s H) F.body) pe_sem
  have hq := ((hbody A outer s H (hr.deeper _) ds M Q3 q).run (NdefX.startF N vs (refsV cs)) H (slotsL t) R)
  refine PySem.W.kla_codeExpr (wpAny_mono (hE.run [] _ _ H _ I hq) (fun v s' hq => ?_) fun e s' hq => hq)
  obtain ⟨v', H', J', rv, i, d, M', R', t', M1, l, q'⟩ := hq
  exact ⟨v', H', J'.os, J'.bare, J'.base, J'.hok, rv, to _ _ _ _ i (R'.le l) t' q'⟩
/-! ### lambdas handed to a def -/
structure LmS where
  k : Nat
  g : Addr
  F : LmW
  fr : List Str
  cs : List Addr
  sp : Sp3
/-- .. seen in the context of the def that got it -/
structure LamAt (X : Cx) (L : LmS) : Prop where
  ok : LOk X.prog X.w X.K X.mg X.base L.k L.g L.F L.fr L.cs L.sp
  cells : NdefX.CellsAt L.F.cl L.fr (refsV L.cs) X.s_0.heap X.H_0
/-- its function object is known -/
def LamM (L : LmS) (M : Mp) : Prop := M L.g = some (.fix (LmO L.g L.F)) ∧ M L.F.c = some (.fix (LamX.CodeO L.F.c L.F.qual))
theorem LamM.le {L : LmS} {M M' : Mp} (h : LamM L M) (l : Mle M M') : LamM L M' := ⟨l _ _ h.1, l _ _ h.2⟩
theorem LamM.keep {L : LmS} {M M' : Mp} {a : Addr} {m : MO} (h : LamM L M) (l : Keep a M M') (ha : M a = some m) (hm : ∀ u, m ≠ .fix u) : LamM L M' :=
  ⟨l _ _ (fun e => by rw [← e, h.1] at ha; cases ha; exact hm _ rfl) h.1, l _ _ (fun e => by rw [← e, h.2] at ha; cases ha; exact hm _ rfl) h.2⟩
section
variable {X : Cx} {pins : List (Addr × Obj)} {σ : L2.St} {H : Hp} {s : Shared}
theorem cells_later {cl : List (Str × Addr)} {fr : List Str} {ws : List (Option V)} (C : NdefX.CellsAt cl fr ws X.s_0.heap X.H_0) (hx : X.ex = []) (I : Inv X pins σ H s) : NdefX.CellsAt cl fr ws s.heap H := by
  have hx' : ∀ c : Addr, c ∉ X.ex := fun c h => by rw [hx] at h; cases h
  have kp : ∀ y c, cl.lookup y = some c → ∀ v, X.s_0.heap.IsCell c v → s.heap.IsCell c v := fun y c e v ⟨o, ho, hd⟩ => by
    obtain ⟨sl, q⟩ := I.base.any ho (C.all y c e).1 (hx' c)
    exact ⟨_, q, hd⟩
  refine ⟨C.len, fun y c e => ?_, C.inj, fun i y e => ?_⟩
  · obtain ⟨n, v, z⟩ := C.all y c e
    refine ⟨?_, v, kp y c e v z⟩
    obtain ⟨o, ho, _⟩ := z
    exact I.base.free c o ho n (hx' c)
  · obtain ⟨c, hc, hv⟩ := C.has i y e
    refine ⟨c, hc, fun v ev => ?_⟩
    obtain ⟨u, r, z⟩ := hv v ev
    exact ⟨u, r, kp y c hc _ z⟩
theorem lm_fnAt {M : Mp} {L : LmS} (I : Inv X pins σ H s) (R : RelM X.K M H) (h : LamM L M) : PySem.W.FnAt L.g s.heap ∧ H L.g = some (LmO L.g L.F) ∧ H L.F.c = some (LamX.CodeO L.F.c L.F.qual) := by
  obtain ⟨_, e1, rfl, _⟩ := R _ _ h.1
  obtain ⟨_, e2, rfl, _⟩ := R _ _ h.2
  obtain ⟨⟨od, sl, pm, ctv, ho⟩, _, _⟩ := I.hok _ _ e1
  exact ⟨⟨_, od, _, sl, ho⟩, e1, e2⟩
end
section
variable {X : Cx} {e : Expr} {es : List Expr} {σ : Sd} {M : Mp} {Q : QD} {p pos : Pos} {x : Str} {k i : Nat} {L : LmS}
/-- f(e, ..), f a name that holds a lambda of the caller -/
theorem e_callL (hL : LamAt X L) (hr : Room k X.A) (hk : L.k ≤ k) (hσ : σ[i]? = some (some (.ref L.g))) (hM : LamM L M) (h : AS X (e :: es) σ M fun ds M1 => LamM L M1 ∧ L.sp ds M1 Q) (hN : X.N[i]? = some x := by rfl) (hv : Vis X.env.scope x := by first | exact .inl rfl | exact .inr (.inl rfl) | exact .inr (.inr rfl))
    (hx : X.ex = [] := by rfl) (hd : (x == ("__debug__" : Str)) = false := by decide) (hcd : (x == ("__classdict__" : Str)) = false := by decide)
    (he : starEach (e :: es) X.env = (false, eval e X.env) :: starEach es X.env := by rfl) (hpl : (backTo pos (starEach es X.env)).any (·.1) = false := by rfl) :
    ES X (.Call (.Name x p) (e :: es) [] pos) σ M Q := ⟨fun σv H S R pins s I => by
  obtain ⟨v0, hs, tv⟩ := S.at_ i _ hσ
  cases tv
  refine wpAny_Call_Name_kw (thn ((pe_var (pos := p) hN hv hd hcd).run pins s σv H (fun v H1 => v = .ref L.g ∧ H1 = H) I ⟨.ref L.g, hs, rfl, rfl⟩) fun u s1 ⟨v, H1, I1, r1, q1⟩ => ?_)
  obtain ⟨ev, eH⟩ := q1
  subst ev
  rw [eH] at I1
  obtain rfl : u = Value.ref L.g := r1
  obtain ⟨fa, _, _⟩ := lm_fnAt I1 R hM
  refine PySem.W.callWith_F (first := []) fa (thn (h.run σv H S R pos pins s1 I1) fun us s2 ⟨vs, H2, I2, r, i2, ds, M2, R2, t2, m2, q2⟩ => ?_) he hpl
  obtain ⟨fa2, h1, h2⟩ := lm_fnAt I2 R2 m2
  refine ⟨fa2, ?_⟩
  show wpAny _ _ (call (.ref L.g) us) _ _ _
  refine wpAny_call (codeAny_mono (hL.ok.run X.A X.stack s2 H2 us vs ds M2 Q _ (hr.mono hk) I2.env0 h1 h2 (cells_later hL.cells hx I2) r t2 R2 q2 To.dq) fun r s' hq => ?_)
  cases r with
  | error e => exact False.elim hq
  | ok fl =>
    cases fl with
    | ret u =>
      obtain ⟨v, H', I', r', q'⟩ := I2.after hq
      exact ⟨v, H', I', r', DQ.from i2 q'⟩
    | next => exact False.elim hq
    | brk => exact False.elim hq
    | cont => exact False.elim hq⟩
end
/-- a def that gets lambdas, and what it promises when these keep theirs -/
abbrev SpF := List LmS → Sp3
def CalleeF (P : Program) (w : World) (K : PySem.W.Frag) (mg : Str → Option Value) (base : Heap) (x : Str) (k : Nat) (ps : List Str) (sp : SpF) : Prop :=
  ∃ f : Addr, mg x = some (.ref f) ∧ PySem.W.keepIn K (.ref f) = true ∧ ∀ (LS : List LmS) (A : Around) (outer : List Env) (s : Shared) (H : Hp) (us : List Value) (vs : List V) (ds : List D) (M : Mp) (Q3 : QD) (Q : VK), Room k A → Env0 P w K mg base A outer s H →
    (∀ L ∈ LS, LOk P w K mg base L.k L.g L.F L.fr L.cs L.sp ∧ NdefX.CellsAt L.F.cl L.fr (refsV L.cs) s.heap H) → Vals vs us → Tps K H vs ds → RelM K M H → sp LS ds M Q3 → To K H Q3 Q → codeAny (model P w) A (.call (.ref f) ⟨us, []⟩) (CR CX0 outer P w H s Q E0) s
theorem calleeF {P : Program} {w : World} {K : PySem.W.Frag} {mg : Str → Option Value} {base : Heap} {N ps : List Str} {x qual : Str} {st : Stmt} {f : Addr} {fd : FuncData} {k : Nat} {sp : SpF}
    (F : Fun K x qual st f fd) (S : FnScope N ps (defScope st)) (hm : mg x = some (.ref f)) (hb : Binds K fd ps []) (len : ∀ LS ds M Q, sp LS ds M Q → ds.length = ps.length)
    (body : ∀ (cdv : Value) (A : Around) (outer : List Env) (s : Shared) (H : Hp) (E : XK), Room k (A.deeper (envOfC qual (defScope st) s.heap.objs.size f cdv)) → ∀ LS : List LmS, (∀ L ∈ LS, LamAt (cxOf CX0 P w K mg base N qual (defScope st) f cdv A outer s H E).nox L) → ∀ ds M Q, sp LS ds M Q →
      SSs (cxOf CX0 P w K mg base N qual (defScope st) f cdv A outer s H E).nox (defBody st) (startD N ds) M { nx := fun _ M' => Wk Q .non M', rt := Wk Q }) : CalleeF P w K mg base x (k + 1) ps sp := by
  refine ⟨f, hm, F.kp, fun LS A outer s H us vs ds M Q3 Q hr e0 hL r t R q to => ?_⟩
  obtain ⟨oc, od, kV, doc, pm, an, cdv, ct, osl, rfl, lk, hcd⟩ := F.ex
  have hl : vs.length = ps.length := by rw [t.length]; exact len _ _ _ _ q
  have KX : K.In s.heap := e0.mod.kin.keeps fun b o e => (e0.bs b o e).1
  have hbt := hb s us KX (by rw [List.append_nil, ← r.length]; exact hl)
  rw [List.append_nil] at hbt
  refine LamX.run_ofS (N := N) (ps := ps) (us := us) (vs := vs) lk hcd S hr e0 hbt r hl fun hr' => ?_
  refine ⟨_, pss_sem.nox, tSs.mono ((body cdv A outer s H E0 hr' LS (fun L hm => ⟨(hL L hm).1, (hL L hm).2⟩) ds M Q3 q).run (start N vs) H (Slots.start t) R) ⟨fun σ' H' h => ?_, fun v H' h => ?_, fun _ _ h => ?_, fun _ _ h => ?_⟩⟩
  · obtain ⟨i, σ'', M', S', R', M1, l, q'⟩ := h
    exact to _ _ _ _ i (R'.le l) .non q'
  · obtain ⟨i, d, M', R', t', M1, l, q'⟩ := h
    exact to _ _ _ _ i (R'.le l) t' q'
  · obtain ⟨i, σ'', M', S', R', z⟩ := h
    exact z
  · obtain ⟨i, σ'', M', S', R', z⟩ := h
    exact z
/-- where the captured names stand among the frame's slots -/
def CapD (X : Cx) (σ : Sd) (L : LmS) : Prop := ∃ js : List Nat, (X.Ok → NdefX.Caps X L.F.cl L.fr js) ∧ js.map (fun j => σ[j]?) = L.cs.map fun a => some (some (.ref a))
section
variable {X : Cx} {e : Expr} {es : List Expr} {σ : Sd} {M : Mp} {Q : QD} {p pos : Pos} {x : Str} {k : Nat} {ps : List Str} {sp : SpF}
theorem cells_D {pins : List (Addr × Obj)} {σv : L2.St} {H : Hp} {s : Shared} {L : LmS} (I : Inv X pins σv H s) (S : Slots X.K H σv σ) (h : CapD X σ L) : NdefX.CellsAt L.F.cl L.fr (refsV L.cs) s.heap H := by
  obtain ⟨js, c, e⟩ := h
  have q := NdefX.cells_of I (c I.ok)
  have e2 : js.map (NdefX.slotAt σv) = refsV L.cs := by
    refine List.ext_getElem? fun i => ?_
    have ei := congrArg (fun l => l[i]?) e
    simp only [List.getElem?_map] at ei
    rw [List.getElem?_map, List.getElem?_map]
    cases hj : js[i]? with
    | none =>
      rw [hj] at ei
      cases hc : L.cs[i]? with
      | none => rfl
      | some a => rw [hc] at ei; cases ei
    | some j =>
      rw [hj] at ei
      cases hc : L.cs[i]? with
      | none => rw [hc] at ei; cases ei
      | some a =>
        rw [hc] at ei
        have eσ : σ[j]? = some (some (.ref a)) := Option.some.inj ei
        obtain ⟨v, ev, tv⟩ := S.at_ j _ eσ
        cases tv
        show some (NdefX.slotAt σv j) = some (some (.ref a))
        rw [NdefX.slotAt_of ev]
  rw [← e2]
  exact q
theorem e_callF (C : CalleeF X.prog X.w X.K X.mg X.base x k ps sp) (hr : Room k X.A) (h : AS X (e :: es) σ M fun ds M1 => ∃ LS : List LmS, (∀ L ∈ LS, LOk X.prog X.w X.K X.mg X.base L.k L.g L.F L.fr L.cs L.sp ∧ CapD X σ L) ∧ sp LS ds M1 Q)
    (hg : Gl X x := by rfl) (hdb : (x == ("__debug__" : Str)) = false := by decide)
    (he : starEach (e :: es) X.env = (false, eval e X.env) :: starEach es X.env := by rfl) (hpl : (backTo pos (starEach es X.env)).any (·.1) = false := by rfl) : ES X (.Call (.Name x p) (e :: es) [] pos) σ M Q := ⟨fun σv H S R pins s I => by
  obtain ⟨f, hm, hk, run⟩ := C
  refine wpAny_Call_Name_kw (ld_glob I hg hm ?_ hdb)
  refine PySem.W.callWith_K (h₀ := X.base) I.ok.mod.kin hk (thn (h.run σv H S R pos pins s I) fun us s2 ⟨vs, H2, I2, r, i2, ds, M2, R2, t2, LS, hL, q2⟩ => ⟨I2.kIn, ?_⟩) he hpl
  refine wpAny_call (codeAny_mono (run LS X.A X.stack s2 H2 us vs ds M2 Q _ hr I2.env0 (fun L hm => ⟨(hL L hm).1, cells_D I2 (S.mono i2) (hL L hm).2⟩) r t2 R2 q2 To.dq) fun r s' hq => ?_)
  cases r with
  | error e => exact False.elim hq
  | ok fl =>
    cases fl with
    | ret u =>
      obtain ⟨v, H', I', r', q'⟩ := I2.after hq
      exact ⟨v, H', I', r', DQ.from i2 q'⟩
    | next => exact False.elim hq
    | brk => exact False.elim hq
    | cont => exact False.elim hq⟩
end
end DL
set_option maxHeartbeats 2000000
namespace DL
open PySem L2 PySem.Spec PyProof.Rows
/-! ### keys as data: == ; l.index(x); l[::-1] -/
mutual
theorem key_eqv : ∀ d e : D, kyD d = true → kyD e = true → D.eqv d e = NestedKey.beq (nkD d) (nkD e)
  | .non, .non, _, _ => by simp [D.eqv, D.py, PyData.eqv, nkD, NestedKey.beq]
  | .non, .int _, _, _ => by simp [D.eqv, D.py, PyData.eqv, nkD, NestedKey.beq]
  | .non, .str _, _, _ => by simp [D.eqv, D.py, PyData.eqv, nkD, NestedKey.beq]
  | .non, .tup _, _, _ => by simp [D.eqv, D.py, PyData.eqv, nkD, NestedKey.beq]
  | .int _, .non, _, _ => by simp [D.eqv, D.py, PyData.eqv, nkD, NestedKey.beq]
  | .int _, .int _, _, _ => by rw [eqv_int]; simp only [nkD, NestedKey.beq]
  | .int _, .str _, _, _ => by simp [D.eqv, D.py, PyData.eqv, nkD, NestedKey.beq]
  | .int _, .tup _, _, _ => by simp [D.eqv, D.py, PyData.eqv, nkD, NestedKey.beq]
  | .str _, .non, _, _ => by simp [D.eqv, D.py, PyData.eqv, nkD, NestedKey.beq]
  | .str _, .int _, _, _ => by simp [D.eqv, D.py, PyData.eqv, nkD, NestedKey.beq]
  | .str _, .str _, _, _ => by rw [eqv_str]; simp only [nkD, NestedKey.beq]
  | .str _, .tup _, _, _ => by simp [D.eqv, D.py, PyData.eqv, nkD, NestedKey.beq]
  | .tup _, .non, _, _ => by simp [D.eqv, D.py, PyData.eqv, nkD, NestedKey.beq]
  | .tup _, .int _, _, _ => by simp [D.eqv, D.py, PyData.eqv, nkD, NestedKey.beq]
  | .tup _, .str _, _, _ => by simp [D.eqv, D.py, PyData.eqv, nkD, NestedKey.beq]
  | .tup l, .tup m, h, k => by
    rw [eqv_tup]
    simp only [nkD, NestedKey.beq]
    exact keys_eqv l m (by simpa only [kyD] using h) (by simpa only [kyD] using k)
  | .bl _, _, h, _ => by simp [kyD] at h
  | .ref _, _, h, _ => by simp [kyD] at h
  | .ty _, _, h, _ => by simp [kyD] at h
  | .rol _, _, h, _ => by simp [kyD] at h
  | _, .bl _, _, h => by simp [kyD] at h
  | _, .ref _, _, h => by simp [kyD] at h
  | _, .ty _, _, h => by simp [kyD] at h
  | _, .rol _, _, h => by simp [kyD] at h
theorem keys_eqv : ∀ l m : List D, kysD l = true → kysD m = true → PyData.eqvAll (D.pys l) (D.pys m) = NestedKey.beqAll (nksD l) (nksD m)
  | [], [], _, _ => by simp [D.pys, PyData.eqvAll, nksD, NestedKey.beqAll]
  | [], _ :: _, _, _ => by simp [D.pys, PyData.eqvAll, nksD, NestedKey.beqAll]
  | _ :: _, [], _, _ => by simp [D.pys, PyData.eqvAll, nksD, NestedKey.beqAll]
  | a :: l, b :: m, h, k => by
    rw [kysD, Bool.and_eq_true] at h k
    simp only [D.pys, PyData.eqvAll, nksD, NestedKey.beqAll]
    rw [← key_eqv a b h.1 k.1, keys_eqv l m h.2 k.2]
    rfl
end
theorem eqv_key {d e : D} (hd : kyD d = true) (he : kyD e = true) : D.eqv d e = decide (nkD d = nkD e) := by rw [key_eqv d e hd he, NestedKey.decide_eq]
def RIndexDp : RM3 := fun x ds M Q => match x, ds with
  | .ref a, [y] => ∃ l j z, M a = some (.lst l) ∧ y.shp = true ∧ (D.rol l).shp = true ∧ l[j]? = some z ∧ D.eqv z y = true ∧ (∀ m z', m < j → l[m]? = some z' → D.eqv z' y = false) ∧ Q (.int (j : Nat)) M
  | _, _ => False
theorem pys_get : ∀ {l : List D} {j : Nat} {z : PyData}, (D.pys l)[j]? = some z → ∃ d, l[j]? = some d ∧ z = d.py
  | [], _, _, h => by simp [D.pys] at h
  | d :: l, 0, _, h => by simp only [D.pys, List.getElem?_cons_zero, Option.some.injEq] at h; exact ⟨d, rfl, h.symm⟩
  | d :: l, j + 1, _, h => by
    simp only [D.pys, List.getElem?_cons_succ] at h
    obtain ⟨d', e, q⟩ := pys_get h
    exact ⟨d', by simpa using e, q⟩
theorem pys_at : ∀ {l : List D} {j : Nat} {d : D}, l[j]? = some d → (D.pys l)[j]? = some d.py
  | [], _, _, h => by simp at h
  | d :: l, 0, _, h => by simp at h; subst h; rfl
  | d :: l, j + 1, _, h => by
    simp only [D.pys, List.getElem?_cons_succ] at h ⊢
    exact pys_at h
theorem rd_indexDp {K : PySem.W.Frag} : RDM K (rIndexD K) RIndexDp := by
  intro H0 H M vx vs x ds Q Q' i R tx t k q
  match x, ds, tx, t, q with
  | .ref a, [y], tx, t, q =>
    obtain ⟨l, j, z, e, h1, h2, hj, hz, hn, q⟩ := q
    obtain ⟨_, ea, us, rfl, ha⟩ := R a _ e
    obtain ⟨v, rfl, r⟩ := t.one
    cases tx
    obtain ⟨p1, s1⟩ := shp_two h1
    obtain ⟨p2, s2⟩ := shp_two h2
    refine ⟨a, v, _, _, j, _, rfl, rfl, .lst (SqL.of ea) (Tps.dp _ _ (by simpa only [D.pure] using p2) ha), Tp.dp _ _ p1 r, by simpa only [D.py] using s2, s1, pys_at hj, hz, fun m z' hm hz' => ?_, k _ _ _ _ i R (.int _) q⟩
    obtain ⟨d', e1, rfl⟩ := pys_get hz'
    exact hn m d' hm e1
section
variable {X : Cx} {o e : Expr} {σ : Sd} {M : Mp} {Q : QD} {pos apos cpos p1 p2 p3 : Pos} {k : Nat}
/-- l.index(x), data of any depth -/
theorem e_indexDp (hr : ∃ k, Room k X.A) (h : ES X o σ M fun x M1 => isLst x M1 ∧ AS X [e] σ M1 fun ds M2 => RIndexDp x ds M2 Q)
    (hbase : attributeBase o "index" X.env (eval o X.env) = eval o X.env := by rfl)
    (hfew : ((backTo cpos (starEach [e] X.env)).all (fun x => !x.1) && (backToKw cpos (keywordEach [] X.env)).all (fun x => x.1.isSome)
      && decide (([e] : List Expr).length + ([] : List Keyword).length + (if ([] : List Keyword).isEmpty then 0 else 1) < 30)) = true := by rfl)
    (hline : (apos.endLine == cpos.line) = true := by rfl) (hs : starEach [e] X.env = (false, eval e X.env) :: starEach [] X.env := by rfl) :
    ES X (.Call (.Attribute o "index" apos) [e] [] cpos) σ M Q := e_lm PySem.F.slot_list_index PySem.F.type_list_index (mt_indexD (by have := hr.choose_spec.un; omega)) rd_indexDp h hbase hfew hline hs rfl
/-- l[::-1] -/
theorem e_revL (h : ES X e σ M fun d M1 => ∃ a ds, d = .ref a ∧ M1 a = some (.lst ds) ∧ NewM M1 (.lst ds.reverse) fun q M' => Q (.ref q) M') : ES X (.Subscript e (.Slice none none (some (.UnaryOp .USub (.Constant (.int 1) k p1) p2)) p3) pos) σ M Q :=
  ES.of (pe_revL pe_sem) fun σv H S R => h.go (H0 := H) S R fun v H1 d M1 i1 R1 t1 ⟨a, ds, ed, ea, q⟩ => by
    subst ed
    cases t1
    obtain ⟨_, eo, us, rfl, ha⟩ := R1 a _ ea
    refine ⟨a, us, rfl, SqL.of eo, fun p hp => ?_⟩
    have im := Imm.new (o := .lst us.reverse) hp
    exact ⟨i1.trans im, _, _, R1.new (m := .lst ds.reverse) hp ⟨_, rfl, (Tps.mono im _ _ ha).reverse⟩, .ref p, NewM.at q (R1.fresh hp)⟩
end
end DL
set_option maxHeartbeats 4000000
/-! ### repr of lists of any data -/
namespace DL
open PySem L2 PySem.Spec PyProof.Rows
mutual
/-- the data d, as it stands, told as plain data -/
inductive Snap (M : Mp) : D → PyData → Prop
  | pure {d : D} : d.pure = true → Snap M d d.py
  | lst {a : Addr} {ds : List D} {ys : List PyData} : M a = some (.lst ds) → Snaps M ds ys → Snap M (.ref a) (.list ys)
inductive Snaps (M : Mp) : List D → List PyData → Prop
  | nil : Snaps M [] []
  | cons {d : D} {ds : List D} {y : PyData} {ys : List PyData} : Snap M d y → Snaps M ds ys → Snaps M (d :: ds) (y :: ys)
end
mutual
theorem Snap.dp {K : PySem.W.Frag} {M : Mp} {H : Hp} (R : RelM K M H) : ∀ {d : D} {y : PyData}, Snap M d y → ∀ v, Tp K H v d → Dp K H v y
  | _, _, .pure h, v, t => Tp.dp _ _ h t
  | _, _, .lst e hs, v, t => by
    cases t
    obtain ⟨_, eo, us, rfl, ha⟩ := R _ _ e
    exact .lst (SqL.of eo) (Snaps.dp R hs _ ha)
theorem Snaps.dp {K : PySem.W.Frag} {M : Mp} {H : Hp} (R : RelM K M H) : ∀ {ds : List D} {ys : List PyData}, Snaps M ds ys → ∀ vs, Tps K H vs ds → DpAll K H vs ys
  | _, _, .nil, _, t => by cases t; exact .nil
  | _, _, .cons h hs, _, t => by
    cases t with
    | cons t1 t2 => exact .cons (Snap.dp R h _ t1) (Snaps.dp R hs _ t2)
end
theorem Snaps.maps {M : Mp} {α : Type} {f : α → D} {g : α → PyData} : ∀ {l : List α}, (∀ x ∈ l, Snap M (f x) (g x)) → Snaps M (l.map f) (l.map g)
  | [], _ => .nil
  | x :: r, h => .cons (h x List.mem_cons_self) (Snaps.maps fun y hy => h y (List.mem_cons_of_mem _ hy))
/-- how long its text is at most -/
def showB (y : PyData) (n : Nat) : Prop := y.showable = true ∧ y.hasDict = false ∧ y.shown.length ≤ n
theorem textFrom_up : ∀ (ts : List Str) (k : Nat) (acc : Str) (B : Nat), (∀ t ∈ ts, t.length ≤ B) → (textFrom k acc ts).length ≤ acc.length + ts.length * (B + 2)
  | [], k, acc, B, _ => by show acc.length ≤ _; omega
  | t :: r, k, acc, B, h => by
    have h1 := textFrom_up r (k + 1) (acc ++ (if k > 0 then ", " else "" : String) ++ t) B fun u hu => h u (List.mem_cons_of_mem _ hu)
    have e : (acc ++ (if k > 0 then ", " else "" : String) ++ t).length = acc.length + (if k > 0 then 2 else 0) + t.length := by
      rw [strLen_append, strLen_append]
      split <;> rfl
    have h2 := h t List.mem_cons_self
    have h3 : (if k > 0 then 2 else 0 : Nat) ≤ 2 := by split <;> omega
    show (textFrom (k + 1) _ r).length ≤ acc.length + (r.length + 1) * (B + 2)
    rw [Nat.add_mul, Nat.one_mul]
    omega
theorem listText_up {ts : List Str} {B : Nat} (h : ∀ t ∈ ts, t.length ≤ B) : (listText ts).length ≤ 2 + ts.length * (B + 2) := by
  have h1 := textFrom_up ts 0 "[" B h
  have hX : (listText ts).length = (textFrom 0 "[" ts).length + 1 := by
    show (textFrom 0 "[" ts ++ "]").length = _
    rw [strLen_append]; rfl
  have : ("[" : Str).length = 1 := by decide +kernel
  omega
theorem shownAll_map : ∀ ys : List PyData, PyData.shownAll ys = ys.map PyData.shown
  | [] => by simp only [PyData.shownAll, List.map_nil]
  | y :: r => by simp only [PyData.shownAll, List.map_cons, shownAll_map r]
theorem showableAll_of : ∀ ys : List PyData, (∀ y ∈ ys, y.showable = true) → PyData.showableAll ys = true
  | [], _ => by simp only [PyData.showableAll]
  | y :: r, h => by simp only [PyData.showableAll, h y List.mem_cons_self, showableAll_of r fun z hz => h z (List.mem_cons_of_mem _ hz), Bool.and_self]
theorem hasDictAll_of : ∀ ys : List PyData, (∀ y ∈ ys, y.hasDict = false) → PyData.hasDictAll ys = false
  | [], _ => by simp only [PyData.hasDictAll]
  | y :: r, h => by simp only [PyData.hasDictAll, h y List.mem_cons_self, hasDictAll_of r fun z hz => h z (List.mem_cons_of_mem _ hz), Bool.or_self]
theorem depthAll_le {n : Nat} : ∀ ys : List PyData, (∀ y ∈ ys, y.depth ≤ n) → PyData.depthAll ys ≤ n
  | [], _ => by simp only [PyData.depthAll]; omega
  | y :: r, h => by
    have h1 := h y List.mem_cons_self
    have h2 := depthAll_le r fun z hz => h z (List.mem_cons_of_mem _ hz)
    simp only [PyData.depthAll]
    omega
theorem showB.list {ys : List PyData} {B : Nat} (h : ∀ y ∈ ys, showB y B) : showB (.list ys) (2 + ys.length * (B + 2)) := by
  refine ⟨?_, ?_, ?_⟩
  · simp only [PyData.showable]
    exact showableAll_of ys fun y hy => (h y hy).1
  · simp only [PyData.hasDict]
    exact hasDictAll_of ys fun y hy => (h y hy).2.1
  · simp only [PyData.shown]
    have := listText_up (ts := PyData.shownAll ys) (B := B) fun t ht => by
      rw [shownAll_map, List.mem_map] at ht
      obtain ⟨y, hy, rfl⟩ := ht
      exact (h y hy).2.2
    rw [shownAll_map, List.length_map] at this
    rw [shownAll_map]
    exact this
theorem showB.mono {y : PyData} {n m : Nat} (h : showB y n) (l : n ≤ m) : showB y m := ⟨h.1, h.2.1, Nat.le_trans h.2.2 l⟩
section
variable {X : Cx}
def rRepr (K : PySem.W.Frag) : List V → Hp → VK → Prop := fun xs H Q => ∃ (a : Addr) (y : PyData), xs = [.ref a] ∧ Dp K H (.ref a) y ∧ showB y 10000000 ∧ y.depth ≤ 60 ∧ Q (.str y.shown) H
theorem call_reprG (hg : X.A.guards = some []) (hu : X.A.units + 64 < cLine) : CallR X (.builtin "repr") (rRepr X.K) := by
  intro pins s σ H xs us Q I r h
  obtain ⟨a, y, rfl, hd, ⟨h1, h2, h3⟩, h4, q⟩ := h
  obtain rfl := Vals.ref1 r
  obtain ⟨as, rd⟩ := Dp.reads I y _ _ hd rfl
  exact repr_of_reads' rd h1 (PyData.noDict_hsm h2) hg (by omega) (fun _ _ e => e) (fun h' u tk hk => ⟨.str y.shown, H, I.kept (t' := tk) hk, ⟨u, rfl⟩, q⟩) (Nat.le_trans h3 (by decide))
def RRepr : RA3 := fun ds M Q => ∃ (d : D) (a : Addr) (y : PyData), ds = [d] ∧ d = .ref a ∧ Snap M d y ∧ showB y 10000000 ∧ y.depth ≤ 60 ∧ Q (.str y.shown) M
theorem rd_repr {K : PySem.W.Frag} : RDA K (rRepr K) RRepr := by
  rintro H0 H M vs ds Q Q' i R t k ⟨d, a, y, rfl, rfl, hs, hb, h4, q⟩
  obtain ⟨v, rfl, r⟩ := t.one
  have hd := Snap.dp R hs _ r
  cases r
  exact ⟨a, y, rfl, hd, hb, h4, k _ _ _ _ i R (.str _) q⟩
variable {e : Expr} {σ : Sd} {M : Mp} {Q : QD} {pos p : Pos}
theorem e_repr (hG : X.A.guards = some []) (hr : ∃ k, Room k X.A) (hm : X.mg "repr" = none) (h : AS X [e] σ M fun ds M1 => RRepr ds M1 Q) (hg : Gl X "repr" := by rfl) (he : starEach [e] X.env = (false, eval e X.env) :: starEach [] X.env := by rfl) : ES X (.Call (.Name "repr" p) [e] [] pos) σ M Q :=
  e_cb (call_reprG hG (by have := hr.choose_spec.un; omega)) rd_repr hm (by decide +kernel) h hg (by decide) (by decide) he rfl
end
/-! ### a law's call where nothing is being shown (A's guards are known) -/
/-- the promise of a def called from outside -/
def FnTop (P : Program) (w : World) (K : PySem.W.Frag) (mg : Str → Option Value) (base : Heap) (k : Nat) (f : Addr) (fd : FuncData) (ps : List Str) (sp3 : Sp3) : Prop :=
  ∀ (s : Shared) (H : Hp) (us : List Value) (vs : List V), Room k callerA → Env0 P w K mg base callerA [] s H → BindsTo s fd ⟨us, []⟩ (ps.zip us) → Vals vs us → spD K sp3 vs H (fun v _ => v = .bl true) E0 → codeAny (model P w) callerA (.call (.ref f) ⟨us, []⟩) (CR CX0 [] P w H s (fun v _ => v = .bl true) E0) s
theorem fnTop {P : Program} {w : World} {K : PySem.W.Frag} {mg : Str → Option Value} {base : Heap} {N ps : List Str} {x qual : Str} {st : Stmt} {f c : Addr} {fd : FuncData} {k : Nat} {sp3 : Sp3}
    (F : Fun K x qual st f fd) (hc : fd.code = .ref c) (S : FnScope N ps (defScope st)) (len : ∀ ds M Q, sp3 ds M Q → ds.length = ps.length)
    (body : ∀ (A : Around) (outer : List Env) (s : Shared) (H : Hp) (E : XK), A.guards = some [] → Room k (A.deeper (envOfC qual (defScope st) s.heap.objs.size f (.ref c))) → ∀ ds M Q, sp3 ds M Q →
      SSs (cxOf CX0 P w K mg base N qual (defScope st) f (.ref c) A outer s H E).nox (defBody st) (startD N ds) M { nx := fun _ M' => Wk Q .non M', rt := Wk Q }) : FnTop P w K mg base (k + 1) f fd ps sp3 := by
  intro s H us vs hr e0 hbt r hsp
  obtain ⟨ds, M, Q3, t, R, q, to⟩ := hsp
  obtain ⟨oc, od, kV, doc, pm, an, cdv, ct, osl, rfl, lk, hcd⟩ := F.ex
  obtain rfl : cdv = .ref c := hc
  have hl : vs.length = ps.length := by rw [t.length]; exact len _ _ _ q
  refine LamX.run_ofS (N := N) (ps := ps) (us := us) (vs := vs) lk hcd S hr e0 hbt r hl fun hr' => ?_
  refine ⟨_, pss_sem.nox, tSs.mono ((body callerA [] s H E0 rfl hr' ds M Q3 q).run (start N vs) H (Slots.start t) R) ⟨fun σ' H' h => ?_, fun v H' h => ?_, fun _ _ h => ?_, fun _ _ h => ?_⟩⟩
  · obtain ⟨i, σ'', M', S', R', M1, l, q'⟩ := h
    exact to _ _ _ _ i (R'.le l) .non q'
  · obtain ⟨i, d, M', R', t', M1, l, q'⟩ := h
    exact to _ _ _ _ i (R'.le l) t' q'
  · obtain ⟨i, σ'', M', S', R', z⟩ := h
    exact z
  · obtain ⟨i, σ'', M', S', R', z⟩ := h
    exact z
end DL
set_option maxHeartbeats 4000000
namespace My
open PySem L2
def top (i : Nat) : Stmt := PySem.Challenge.pw_lendback_k45_shortest_lists.main.body.getD i (.Pass ⟨0, 0, 0, 0⟩)
abbrev st_shortest : Stmt := top 1
abbrev st_trace : Stmt := top 2
abbrev st__law_pool : Stmt := top 4
abbrev st__law_draw : Stmt := top 5
abbrev st__law_pick : Stmt := top 6
abbrev st__law_labels : Stmt := top 7
abbrev st__law_edges : Stmt := top 8
abbrev st__law_net : Stmt := top 9
abbrev st__law_rounds : Stmt := top 10
abbrev st__law_chain_holds : Stmt := top 11
abbrev st_law : Stmt := top 12
abbrev lw : PySem.W.OpenLaw := PySem.Challenge.rw_lendback_k45_shortest_lists
end My
namespace My
open PySem PySem.W PySem.Calls PyProof.Rows L2
def hdNames : List PySem.Str := (["shortest", "trace", "_law_pool", "_law_draw", "_law_pick", "_law_labels", "_law_edges", "_law_net", "_law_rounds", "_law_chain_holds"] : List PySem.Str)
local macro_rules | `(tactic| o_head ($f:ident $K $a $e $ts)) => `(tactic| refine HandSHeadRun.head_any (r := PySem.W.OpenLaw.row PySem.Challenge.rw_lendback_k45_shortest_lists) (q := PySem.W.view (PySem.W.OpenLaw.row PySem.Challenge.rw_lendback_k45_shortest_lists).prog [12]) (H := $f $K $a $e $ts) (ob := fun s => (List.map (HandSHeadRun.getT s) $a, List.map (HandSHeadRun.getT s) $ts)) (M := 20000) (loose := hdNames) (d := HandSHeadRun.topDef (PySem.W.OpenLaw.row PySem.Challenge.rw_lendback_k45_shortest_lists).prog 12) (kwd := []) (fun s => congrArg (fun g => (List.map g $a, List.map g $ts)) (funext (HandSHeadRun.getT_eq s))) (by kernel_rfl) (fun s => by kernel_rfl) (fun w os => by kernel_rfl) (by kernel_rfl) (by kernel_rfl) (by kernel_rfl) (by rfl) (by first | assumption | decide +kernel) (by decide +kernel) ⟨rfl, rfl, rfl, rfl, rfl, by decide +kernel⟩ ?_ ?_)
local macro_rules | `(tactic| o_head ($f:ident $K $a $e)) => `(tactic| refine HandSHeadRun.head_any (r := PySem.W.OpenLaw.row PySem.Challenge.rw_lendback_k45_shortest_lists) (q := PySem.W.view (PySem.W.OpenLaw.row PySem.Challenge.rw_lendback_k45_shortest_lists).prog [12]) (H := $f $K $a $e) (ob := fun s => List.map (HandSHeadRun.getT s) $a) (M := 20000) (loose := hdNames) (d := HandSHeadRun.topDef (PySem.W.OpenLaw.row PySem.Challenge.rw_lendback_k45_shortest_lists).prog 12) (kwd := []) (fun s => congrArg (fun g => List.map g $a) (funext (HandSHeadRun.getT_eq s))) (by kernel_rfl) (fun s => by kernel_rfl) (fun w os => by kernel_rfl) (by kernel_rfl) (by kernel_rfl) (by kernel_rfl) (by rfl) (by first | assumption | decide +kernel) (by decide +kernel) ⟨rfl, rfl, rfl, rfl, rfl, by decide +kernel⟩ ?_ ?_)
set_option maxHeartbeats 0 in
theorem pre (R : World → (Str → Option Value) → Addr → Heap → PySem.W.Frag → Prop)
    (mk : ∀ {cT PT : Addr} {w : World} {K : PySem.W.Frag} {h : Heap} {mg : Str → Option Value} {fa f1 f2 f3 f4 f5 f6 f7 f8 f9 f10 f11 : Addr} (X : K.In h) (G : h.Ns mainGlobals mg) (hfa : mg "law" = some (.ref fa))
    {od1 an1 od2 an2 od3 an3 od4 an4 od5 an5 od6 an6 od7 an7 od8 an8 od9 an9 od10 an10 od11 an11 : Option Addr} {sl1 sl2 sl3 sl4 sl5 sl6 sl7 sl8 sl9 sl10 sl11 : Array (Option Value)} {oc1 kV1 dc1 pm1 cd1 ct1 oc2 kV2 dc2 pm2 cd2 ct2 oc3 kV3 dc3 pm3 cd3 ct3 oc4 kV4 dc4 pm4 cd4 ct4 oc5 kV5 dc5 pm5 cd5 ct5 oc6 kV6 dc6 pm6 cd6 ct6 oc7 kV7 dc7 pm7 cd7 ct7 oc8 kV8 dc8 pm8 cd8 ct8 oc9 kV9 dc9 pm9 cd9 ct9 oc10 kV10 dc10 pm10 cd10 ct10 oc11 kV11 dc11 pm11 cd11 ct11 : Value}
    (a1 : PySem.W.nsIn K mainGlobals "shortest" = some (some (.ref f1))) (l1 : K.lookup f1 = some ⟨oc1, od1, .func (PySem.W.fnOf "shortest" "shortest" (defArgs st_shortest) (defBody st_shortest) (defScope st_shortest) .none kV1 dc1 pm1 an1 cd1 ct1), sl1⟩) (c1 : PySem.W.codeIn K cd1 "shortest" = true) (k1 : PySem.W.keepIn K (.ref f1) = true)
    (a2 : PySem.W.nsIn K mainGlobals "trace" = some (some (.ref f2))) (l2 : K.lookup f2 = some ⟨oc2, od2, .func (PySem.W.fnOf "trace" "trace" (defArgs st_trace) (defBody st_trace) (defScope st_trace) .none kV2 dc2 pm2 an2 cd2 ct2), sl2⟩) (c2 : PySem.W.codeIn K cd2 "trace" = true) (k2 : PySem.W.keepIn K (.ref f2) = true)
    (a3 : PySem.W.nsIn K mainGlobals "_law_pool" = some (some (.ref f3))) (l3 : K.lookup f3 = some ⟨oc3, od3, .func (PySem.W.fnOf "_law_pool" "_law_pool" (defArgs st__law_pool) (defBody st__law_pool) (defScope st__law_pool) .none kV3 dc3 pm3 an3 cd3 ct3), sl3⟩) (c3 : PySem.W.codeIn K cd3 "_law_pool" = true) (k3 : PySem.W.keepIn K (.ref f3) = true)
    (a4 : PySem.W.nsIn K mainGlobals "_law_draw" = some (some (.ref f4))) (l4 : K.lookup f4 = some ⟨oc4, od4, .func (PySem.W.fnOf "_law_draw" "_law_draw" (defArgs st__law_draw) (defBody st__law_draw) (defScope st__law_draw) .none kV4 dc4 pm4 an4 cd4 ct4), sl4⟩) (c4 : PySem.W.codeIn K cd4 "_law_draw" = true) (k4 : PySem.W.keepIn K (.ref f4) = true)
    (a5 : PySem.W.nsIn K mainGlobals "_law_pick" = some (some (.ref f5))) (l5 : K.lookup f5 = some ⟨oc5, od5, .func (PySem.W.fnOf "_law_pick" "_law_pick" (defArgs st__law_pick) (defBody st__law_pick) (defScope st__law_pick) .none kV5 dc5 pm5 an5 cd5 ct5), sl5⟩) (c5 : PySem.W.codeIn K cd5 "_law_pick" = true) (k5 : PySem.W.keepIn K (.ref f5) = true)
    (a6 : PySem.W.nsIn K mainGlobals "_law_labels" = some (some (.ref f6))) (l6 : K.lookup f6 = some ⟨oc6, od6, .func (PySem.W.fnOf "_law_labels" "_law_labels" (defArgs st__law_labels) (defBody st__law_labels) (defScope st__law_labels) .none kV6 dc6 pm6 an6 cd6 ct6), sl6⟩) (c6 : PySem.W.codeIn K cd6 "_law_labels" = true) (k6 : PySem.W.keepIn K (.ref f6) = true)
    (a7 : PySem.W.nsIn K mainGlobals "_law_edges" = some (some (.ref f7))) (l7 : K.lookup f7 = some ⟨oc7, od7, .func (PySem.W.fnOf "_law_edges" "_law_edges" (defArgs st__law_edges) (defBody st__law_edges) (defScope st__law_edges) .none kV7 dc7 pm7 an7 cd7 ct7), sl7⟩) (c7 : PySem.W.codeIn K cd7 "_law_edges" = true) (k7 : PySem.W.keepIn K (.ref f7) = true)
    (a8 : PySem.W.nsIn K mainGlobals "_law_net" = some (some (.ref f8))) (l8 : K.lookup f8 = some ⟨oc8, od8, .func (PySem.W.fnOf "_law_net" "_law_net" (defArgs st__law_net) (defBody st__law_net) (defScope st__law_net) .none kV8 dc8 pm8 an8 cd8 ct8), sl8⟩) (c8 : PySem.W.codeIn K cd8 "_law_net" = true) (k8 : PySem.W.keepIn K (.ref f8) = true)
    (a9 : PySem.W.nsIn K mainGlobals "_law_rounds" = some (some (.ref f9))) (l9 : K.lookup f9 = some ⟨oc9, od9, .func (PySem.W.fnOf "_law_rounds" "_law_rounds" (defArgs st__law_rounds) (defBody st__law_rounds) (defScope st__law_rounds) .none kV9 dc9 pm9 an9 cd9 ct9), sl9⟩) (c9 : PySem.W.codeIn K cd9 "_law_rounds" = true) (k9 : PySem.W.keepIn K (.ref f9) = true)
    (a10 : PySem.W.nsIn K mainGlobals "_law_chain_holds" = some (some (.ref f10))) (l10 : K.lookup f10 = some ⟨oc10, od10, .func (PySem.W.fnOf "_law_chain_holds" "_law_chain_holds" (defArgs st__law_chain_holds) (defBody st__law_chain_holds) (defScope st__law_chain_holds) .none kV10 dc10 pm10 an10 cd10 ct10), sl10⟩) (c10 : PySem.W.codeIn K cd10 "_law_chain_holds" = true) (k10 : PySem.W.keepIn K (.ref f10) = true)
    (a11 : PySem.W.nsIn K mainGlobals "law" = some (some (.ref f11))) (l11 : K.lookup f11 = some ⟨oc11, od11, .func (PySem.W.fnOf "law" "law" (defArgs st_law) (defBody st_law) (defScope st_law) .none kV11 dc11 pm11 an11 cd11 ct11), sl11⟩) (c11 : PySem.W.codeIn K cd11 "law" = true) (k11 : PySem.W.keepIn K (.ref f11) = true)
    (z_abs : PySem.W.nsIn K mainGlobals "abs" = some none)
    (z_int : PySem.W.nsIn K mainGlobals "int" = some none)
    (z_isinstance : PySem.W.nsIn K mainGlobals "isinstance" = some none)
    (z_len : PySem.W.nsIn K mainGlobals "len" = some none)
    (z_list : PySem.W.nsIn K mainGlobals "list" = some none)
    (z_range : PySem.W.nsIn K mainGlobals "range" = some none)
    (z_repr : PySem.W.nsIn K mainGlobals "repr" = some none)
    (z_str : PySem.W.nsIn K mainGlobals "str" = some none)
    (ce : cd11 = .ref cT) (tg : h.get? PT = some { cls := .none, data := .fields #[] }) (tn : K.lookup PT = none) (tc : PySem.W.CodeHd h cT PT), R w mg fa h K)
    (wk : ∀ {q : Program} {loose : List Str} {XP : (Str → Option Value) → Heap → Prop} {YP : World → Heap → Prop} {d : DefRec} {K : Params → PySem.W.Frag} (hdf : d.params.defaults = []) (hY : ∀ (w : World) (h : Heap), YP w h → (K w.params).In h) (F : ∀ (w : World) (mg : Str → Option Value) (fa : Addr) (h : Heap), YP w h → (K w.params).In h → h.Ns mainGlobals mg → mg d.name = some (.ref fa) → R w mg fa h (K w.params)), PySem.W.WalkO q loose XP YP lw.row.toRowW d [] (fun f vs => PySem.call f vs)) : PySem.Challenge.rw_lendback_k45_shortest_lists.Holds := by
  w_on; o_law; k_head; focus w_witness2
  k_fill
  refine wk rfl (fun w h Y => PySem.W.km_in_of Y) ?F
  case F =>
    intro w mg fa h Y KX G hmg
    refine' mk KX G hmg ?a1 ?l1 ?c1 ?k1 ?a2 ?l2 ?c2 ?k2 ?a3 ?l3 ?c3 ?k3 ?a4 ?l4 ?c4 ?k4 ?a5 ?l5 ?c5 ?k5 ?a6 ?l6 ?c6 ?k6 ?a7 ?l7 ?c7 ?k7 ?a8 ?l8 ?c8 ?k8 ?a9 ?l9 ?c9 ?k9 ?a10 ?l10 ?c10 ?k10 ?a11 ?l11 ?c11 ?k11 ?z_abs ?z_int ?z_isinstance ?z_len ?z_list ?z_range ?z_repr ?z_str ?ce ?tg ?tn ?tc
    (case a1 => k_is)
    (case l1 => k_is)
    (case c1 => k_is)
    (case k1 => k_is)
    (case a2 => k_is)
    (case l2 => k_is)
    (case c2 => k_is)
    (case k2 => k_is)
    (case a3 => k_is)
    (case l3 => k_is)
    (case c3 => k_is)
    (case k3 => k_is)
    (case a4 => k_is)
    (case l4 => k_is)
    (case c4 => k_is)
    (case k4 => k_is)
    (case a5 => k_is)
    (case l5 => k_is)
    (case c5 => k_is)
    (case k5 => k_is)
    (case a6 => k_is)
    (case l6 => k_is)
    (case c6 => k_is)
    (case k6 => k_is)
    (case a7 => k_is)
    (case l7 => k_is)
    (case c7 => k_is)
    (case k7 => k_is)
    (case a8 => k_is)
    (case l8 => k_is)
    (case c8 => k_is)
    (case k8 => k_is)
    (case a9 => k_is)
    (case l9 => k_is)
    (case c9 => k_is)
    (case k9 => k_is)
    (case a10 => k_is)
    (case l10 => k_is)
    (case c10 => k_is)
    (case k10 => k_is)
    (case a11 => k_is)
    (case l11 => k_is)
    (case c11 => k_is)
    (case k11 => k_is)
    (case z_abs => k_is)
    (case z_int => k_is)
    (case z_isinstance => k_is)
    (case z_len => k_is)
    (case z_list => k_is)
    (case z_range => k_is)
    (case z_repr => k_is)
    (case z_str => k_is)
    (case ce => rfl)
    (case tg => exact PySem.W.km_tabs_of Y _ List.mem_cons_self)
    (case tn => kernel_rfl)
    (case tc => exact PySem.W.codeHd_of_K KX (by kernel_rfl))
end My
set_option maxHeartbeats 4000000
namespace My
open PySem L2 DL
abbrev nmN_shortest : List Str := ["start", "following", "wanted", "nodes", "before", "known", "node", "at"]
theorem scope_shortest : FnScope ["start", "following", "wanted", "nodes", "before", "known", "node", "at"] ["start", "following", "wanted"] (defScope st_shortest) := ⟨rfl, rfl, rfl, by decide +kernel, rfl, by decide +kernel, by decide +kernel⟩
abbrev nmN_trace : List Str := ["nodes", "before", "at", "path"]
theorem scope_trace : FnScope ["nodes", "before", "at", "path"] ["nodes", "before", "at"] (defScope st_trace) := ⟨rfl, rfl, rfl, by decide +kernel, rfl, by decide +kernel, by decide +kernel⟩
abbrev nmN__law_pool : List Str := ["_law_script"]
theorem scope__law_pool : FnScope ["_law_script"] ["_law_script"] (defScope st__law_pool) := ⟨rfl, rfl, rfl, by decide +kernel, rfl, by decide +kernel, by decide +kernel⟩
abbrev nmN__law_draw : List Str := ["_law_pool_here", "_law_many", "_law_found", "_law_cell", "_law_mixed"]
theorem scope__law_draw : FnScope ["_law_pool_here", "_law_many", "_law_found", "_law_cell", "_law_mixed"] ["_law_pool_here", "_law_many"] (defScope st__law_draw) := ⟨rfl, rfl, rfl, by decide +kernel, rfl, by decide +kernel, by decide +kernel⟩
abbrev nmN__law_pick : List Str := ["_law_pool_here", "_law_rows"]
theorem scope__law_pick : FnScope ["_law_pool_here", "_law_rows"] ["_law_pool_here", "_law_rows"] (defScope st__law_pick) := ⟨rfl, rfl, rfl, by decide +kernel, rfl, by decide +kernel, by decide +kernel⟩
abbrev nmN__law_labels : List Str := ["_law_pool_here", "_law_many", "_law_style", "_law_k", "_law_labels_here"]
theorem scope__law_labels : FnScope ["_law_pool_here", "_law_many", "_law_style", "_law_k", "_law_labels_here"] ["_law_pool_here", "_law_many"] (defScope st__law_labels) := ⟨rfl, rfl, rfl, by decide +kernel, rfl, by decide +kernel, by decide +kernel⟩
abbrev nmN__law_edges : List Str := ["_law_pool_here", "_law_labels_here", "_law_dense", "_law_edges_here", "_law_k", "_law_j"]
theorem scope__law_edges : FnScope ["_law_pool_here", "_law_labels_here", "_law_dense", "_law_edges_here", "_law_k", "_law_j"] ["_law_pool_here", "_law_labels_here", "_law_dense"] (defScope st__law_edges) := ⟨rfl, rfl, rfl, by decide +kernel, rfl, by decide +kernel, by decide +kernel⟩
abbrev nmN__law_net : List Str := ["_law_pool_here", "_law_many", "_law_labels_here", "_law_edges_here", "_law_k", "_law_start", "_law_goals"]
theorem scope__law_net : FnScope ["_law_pool_here", "_law_many", "_law_labels_here", "_law_edges_here", "_law_k", "_law_start", "_law_goals"] ["_law_pool_here"] (defScope st__law_net) := ⟨rfl, rfl, rfl, by decide +kernel, rfl, by decide +kernel, by decide +kernel⟩
abbrev nmN__law_rounds : List Str := ["_law_labels_here", "_law_edges_here", "_law_start", "_law_goals", "_law_reached", "_law_k", "_law_more", "_law_node", "_law_after"]
theorem scope__law_rounds : FnScope ["_law_labels_here", "_law_edges_here", "_law_start", "_law_goals", "_law_reached", "_law_k", "_law_more", "_law_node", "_law_after"] ["_law_labels_here", "_law_edges_here", "_law_start", "_law_goals"] (defScope st__law_rounds) := ⟨rfl, rfl, rfl, by decide +kernel, rfl, by decide +kernel, by decide +kernel⟩
abbrev nmN__law_chain_holds : List Str := ["_law_found", "_law_labels_here", "_law_edges_here", "_law_start", "_law_goals", "_law_many", "_law_k"]
theorem scope__law_chain_holds : FnScope ["_law_found", "_law_labels_here", "_law_edges_here", "_law_start", "_law_goals", "_law_many", "_law_k"] ["_law_found", "_law_labels_here", "_law_edges_here", "_law_start", "_law_goals", "_law_many"] (defScope st__law_chain_holds) := ⟨rfl, rfl, rfl, by decide +kernel, rfl, by decide +kernel, by decide +kernel⟩
abbrev nmN_law : List Str := ["_law_script", "_law_pool_here", "_law_labels_here", "_law_edges_here", "_law_start", "_law_goals", "_law_kept", "_law_many", "_law_k", "_law_found"]
theorem scope_law : FnScope ["_law_script", "_law_pool_here", "_law_labels_here", "_law_edges_here", "_law_start", "_law_goals", "_law_kept", "_law_many", "_law_k", "_law_found"] ["_law_script"] (defScope st_law) := ⟨rfl, rfl, rfl, by decide +kernel, rfl, by decide +kernel, by decide +kernel⟩
/-! ### the pool and its draws -/
structure PoolAt (M : Mp) (a b : Addr) : Prop where
  ex : ∃ (ns : List Int) (i r c k : Int), M a = some (.lst [.ref b, .int i, .int r, .int c, .int k]) ∧ M b = some (.lst (ns.map D.int)) ∧ 0 ≤ i ∧ 0 ≤ r ∧ 0 ≤ c ∧ c < 1000000000000000000
  ne : b ≠ a
theorem PoolAt.le {M M' : Mp} {a b : Addr} (h : PoolAt M a b) (l : Mle M M') : PoolAt M' a b := by
  obtain ⟨ns, i, r, c, k, e, e2, h'⟩ := h.ex
  exact ⟨⟨ns, i, r, c, k, l _ _ e, l _ _ e2, h'⟩, h.ne⟩
theorem PoolAt.some {M : Mp} {a b : Addr} (h : PoolAt M a b) : ∃ m, M a = some m := by
  obtain ⟨ns, i, r, c, k, e, _⟩ := h.ex
  exact ⟨_, e⟩
theorem PoolAt.apart {M : Mp} {a b p : Addr} (h : PoolAt M a b) (hp : M p = none) : p ≠ a ∧ p ≠ b := by
  obtain ⟨ns, i, r, c, k, e, e2, h'⟩ := h.ex
  exact ⟨Ne.symm (mne e hp), Ne.symm (mne e2 hp)⟩
theorem PoolAt.keep {M M' : Mp} {a b p : Addr} (h : PoolAt M a b) (k : Keep p M M') (n : p ≠ a ∧ p ≠ b) : PoolAt M' a b := by
  obtain ⟨ns, i, r, c, kk, e, e2, h'⟩ := h.ex
  exact ⟨⟨ns, i, r, c, kk, k _ _ (Ne.symm n.1) e, k _ _ (Ne.symm n.2) e2, h'⟩, h.ne⟩
section
variable {P : Program} {w : World} {K : PySem.W.Frag} {mg : Str → Option Value} {base : Heap} {f : Addr} {fd : FuncData}
def spPool : Sp3 := fun ds M Q => ∃ ns : List Int, ds = [.rol (ns.map D.int)] ∧ ∀ a b M', M a = none → Mle M M' → PoolAt M' a b → Q (.ref a) M'
theorem ok_pool (F : Fun K "_law_pool" "_law_pool" st__law_pool f fd) (b : Binds K fd ["_law_script"] []) (g : mg "_law_pool" = some (.ref f)) (m_list : mg "list" = none) : Callee P w K mg base "_law_pool" 1 ["_law_script"] spPool := by
  refine callee F scope__law_pool g b (fun ds M Q ⟨ns, e, _⟩ => by rw [e]; rfl) (fun cdv A outer s H E hr ds M Q ⟨ns, e, q⟩ => ?_)
  subst e
  refine ss_one (s_ret (e_lst (a_cons (e_listc m_list (a_cons (e_var 0 rfl (a_nil fun p M1 f1 e1 l1 => ?_)))))))
  refine a_cons (e_int (a_cons (e_int (a_cons (e_int (a_cons (e_int (a_nil ?_))))))))
  refine ⟨by show 5 ≤ sizeLine; decide, fun p2 M2 f2 e2 l2 => ?_⟩
  exact Wk.here (q p2 p M2 (l1.fresh f2) (l1.trans l2) ⟨⟨ns, 0, 0, 0, 0, e2, l2 _ _ e1, by decide, by decide, by decide, by decide⟩, mne e1 f2⟩)
def spDraw : Sp3 := fun ds M Q => ∃ (a b : Addr) (many : Int), ds = [.ref a, .int many] ∧ PoolAt M a b ∧ 0 < many ∧ many < 20000000000 ∧ ∀ n M', 0 ≤ n → n < many → PoolAt M' a b → Keep a M M' → Q (.int n) M'
theorem ok_draw (F : Fun K "_law_draw" "_law_draw" st__law_draw f fd) (b : Binds K fd ["_law_pool_here", "_law_many"] []) (g : mg "_law_draw" = some (.ref f)) (m_len : mg "len" = none) (m_int : mg "int" = none) (m_abs : mg "abs" = none) :
    Callee P w K mg base "_law_draw" 1 ["_law_pool_here", "_law_many"] spDraw := by
  refine callee F scope__law_draw g b (fun ds M Q ⟨a, b, many, e, _⟩ => by rw [e]; rfl) (fun cdv A outer s H E hr ds M Q ⟨a, b, many, e, ⟨⟨ns, i, r, c, k, ep, eb, hi, hr0, hc0, hc1⟩, hab⟩, hm0, hm, q⟩ => ?_)
  subst e
  have bd : ∀ x : Int, 0 ≤ x % many ∧ x % many < many := fun x => ⟨Int.emod_nonneg _ (by omega), Int.emod_lt_of_pos _ hm0⟩
  refine ss_if (t_gt (e_ix (e_var 0 rfl (e_int ⟨_, _, ep, rfl, e_int ?_⟩))))
  refine ⟨fun hc => ?_, fun hc => ?_⟩
  · refine ss_cons (s_asg 2 scope__law_draw.nd (e_mod (e_intc m_int (a_cons (e_ix (e_var 0 rfl (e_int ⟨_, _, ep, rfl, a_nil ?_⟩)))))))
    refine e_var 1 rfl ⟨hm0, ?_⟩
    refine ss_cons (s_asgG (e_fdivW (e_ix (e_var 0 rfl (e_int ⟨_, _, ep, rfl, ?_⟩)))))
    refine e_var 1 rfl ⟨divW hm0 hm _, ?_⟩
    refine g_sub (e_var 0 rfl (e_int ⟨_, _, ep, rfl, fun M1 e1 k1 => ?_⟩))
    refine ss_one (s_ret (e_var 2 rfl ?_))
    exact Wk.here (q _ _ (bd _).1 (bd _).2 ⟨⟨ns, _, _, _, _, e1, k1 _ _ hab eb, hi, Int.ediv_nonneg hr0 (by omega), hc0, hc1⟩, hab⟩ k1)
  refine ss_cut (fun σ' M' => ∃ (i' c' : Int) (d1 d2 : Option D), σ' = [some (.ref a), some (.int many), d1, d2, none] ∧ Keep a M M' ∧ M' a = some (.lst [.ref b, .int i', .int r, .int c', .int k]) ∧ 0 ≤ i' ∧ 0 ≤ c' ∧ c' < 1000000000000000000) (s_if (t_w (w_and (t_eq ⟨_, hr⟩ (e_mod (e_intc m_int (a_cons (e_ix (e_var 0 rfl (e_int ⟨_, _, ep, rfl, a_nil ?_⟩)))))))))) ?_
  · refine e_int ⟨by show (0 : Int) < _; decide, e_int ⟨trivial, ?_⟩⟩
    refine ⟨fun h1 => ?_, fun h1 => BQ.f (ss_nil ⟨i, c, _, _, rfl, Keep.refl, ep, hi, hc0, hc1⟩)⟩
    refine w_and1 (t_lt (e_ix (e_var 0 rfl (e_int ⟨_, _, ep, rfl, ?_⟩))))
    refine e_len m_len (a_cons (e_ix (e_var 0 rfl (e_int ⟨_, _, ep, rfl, a_nil ⟨_, eb, ?_⟩⟩))))
    refine ⟨fun h2 => ?_, fun h2 => ss_nil ⟨i, c, _, _, rfl, Keep.refl, ep, hi, hc0, hc1⟩⟩
    obtain ⟨dv, hdv, _⟩ := atI_lt hi (of_decide_eq_true h2)
    obtain ⟨cell, _, rfl⟩ := atI_mapP hdv
    refine ss_cons (s_asg 3 scope__law_draw.nd (e_abs m_abs (a_cons (e_ix (e_ix (e_var 0 rfl (e_int ⟨_, _, ep, rfl, ?_⟩)))))))
    refine e_ix (e_var 0 rfl (e_int ⟨_, _, ep, rfl, ⟨_, _, eb, hdv, a_nil ?_⟩⟩))
    refine ss_cons (s_asgG (e_add (e_ix (e_var 0 rfl (e_int ⟨_, _, ep, rfl, ?_⟩)))))
    refine e_int (g_sub (e_var 0 rfl (e_int ⟨_, _, ep, rfl, fun M1 e1 k1 => ?_⟩)))
    refine ss_if (t_ge (e_var 3 rfl (e_pow (e_int (e_int ⟨⟨by decide, by decide, by decide⟩, ?_⟩)))))
    refine ⟨fun h3 => ?_, fun h3 => ?_⟩
    · refine ss_cons (s_asgG (e_fdivW (e_var 3 rfl (e_var 1 rfl ⟨divW hm0 hm _, ?_⟩))))
      refine g_sub (e_var 0 rfl (e_int ⟨_, _, e1, rfl, fun M2 e2 k2 => ?_⟩))
      refine ss_one (s_ret (e_mod (e_intc m_int (a_cons (e_var 3 rfl (a_nil ?_))))))
      refine e_var 1 rfl ⟨hm0, ?_⟩
      exact Wk.here (q _ _ (bd _).1 (bd _).2 ⟨⟨ns, _, _, _, _, e2, k2 _ _ hab (k1 _ _ hab eb), by omega, Int.ediv_nonneg (by split <;> omega) (by omega), hc0, hc1⟩, hab⟩ (k1.trans k2))
    have h3' : (if cell < 0 then -cell else cell) < 1000000000000000000 := by
      have := of_decide_eq_false h3
      have e18 : (10 : Int) ^ (18 : Int).toNat = 1000000000000000000 := by decide
      rw [e18] at this
      omega
    refine ss_one (s_asgG (e_var 3 rfl (g_sub (e_var 0 rfl (e_int ⟨_, _, e1, rfl, fun M2 e2 k2 => ?_⟩)))))
    exact ⟨_, _, _, _, rfl, k1.trans k2, e2, by omega, by split <;> omega, h3'⟩
  rintro σ' M' ⟨i', c', d1, d2, rfl, kk, ep', hi', hc0', hc1'⟩
  refine ss_cons (s_asgG (e_add (e_ix (e_var 0 rfl (e_int ⟨_, _, ep', rfl, ?_⟩)))))
  refine e_int (g_sub (e_var 0 rfl (e_int ⟨_, _, ep', rfl, fun M1 e1 k1 => ?_⟩)))
  refine ss_cons (s_asg 4 scope__law_draw.nd (e_mod (e_intc m_int (a_cons (e_add (e_add (e_mul (e_ix (e_var 0 rfl (e_int ⟨_, _, e1, rfl, ?_⟩))))))))))
  refine e_int ⟨.inr ⟨by decide, by decide⟩, ?_⟩
  refine e_mul (e_ix (e_var 0 rfl (e_int ⟨_, _, e1, rfl, ?_⟩)))
  refine e_int ⟨.inr ⟨by decide, by decide⟩, ?_⟩
  refine e_int (a_nil (e_int ⟨by show (0 : Int) < _; decide, ?_⟩))
  generalize hx : (c' * 48271 + (k + 1) * 69621 + 7919) % 2147483647 = x
  have hx0 : 0 ≤ x := by rw [← hx]; exact Int.emod_nonneg _ (by decide)
  have hx1 : x < 2147483647 := by rw [← hx]; exact Int.emod_lt_of_pos _ (by decide)
  refine ss_cons (s_asg 4 scope__law_draw.nd (e_mod (e_intc m_int (a_cons (e_add (e_mul (e_var 4 rfl (e_var 4 rfl ?_))))))))
  refine ⟨.inl ⟨by omega, by omega⟩, ?_⟩
  refine e_mul (e_ix (e_var 0 rfl (e_int ⟨_, _, e1, rfl, ?_⟩)))
  refine e_int ⟨.inr ⟨by decide, by decide⟩, a_nil ?_⟩
  refine e_int ⟨by show (0 : Int) < _; decide, ?_⟩
  refine ss_one (s_ret (e_mod (e_intc m_int (a_cons (e_var 4 rfl (a_nil ?_))))))
  refine e_var 1 rfl ⟨hm0, ?_⟩
  exact Wk.here (q _ _ (bd _).1 (bd _).2 ⟨⟨ns, _, _, _, _, e1, k1 _ _ hab (kk _ _ hab eb), hi', hr0, hc0', hc1'⟩, hab⟩ (kk.trans k1))
end
end My
set_option maxHeartbeats 4000000
namespace My
open PySem L2 DL
section
variable {P : Program} {w : World} {K : PySem.W.Frag} {mg : Str → Option Value} {base : Heap} {f : Addr} {fd : FuncData}
/-- one of some rows -/
def spPick : Sp3 := fun ds M Q => ∃ (a b : Addr) (r : D), ds = [.ref a, r] ∧ PoolAt M a b ∧
  ((∃ L l, r = .ref L ∧ M L = some (.lst l) ∧ L ≠ a ∧ 0 < l.length ∧ l.length ≤ 10000 ∧ ∀ d ∈ l, ∀ M', PoolAt M' a b → Keep a M M' → Q d M') ∨
   (∃ z : Str, r = .str z ∧ 0 < z.cps.toList.length ∧ z.cps.toList.length ≤ 1000 ∧ ∀ c ∈ z.cps.toList, ∀ M', PoolAt M' a b → Keep a M M' → Q (.str ⟨#[c]⟩) M'))
theorem ok_gpick (F : Fun K "_law_pick" "_law_pick" st__law_pick f fd) (b : Binds K fd ["_law_pool_here", "_law_rows"] []) (g : mg "_law_pick" = some (.ref f)) (m_len : mg "len" = none) (C__law_draw : Callee P w K mg base "_law_draw" 1 ["_law_pool_here", "_law_many"] spDraw) :
    Callee P w K mg base "_law_pick" 2 ["_law_pool_here", "_law_rows"] spPick := by
  refine callee F scope__law_pick g b (fun ds M Q ⟨_, _, _, e, _⟩ => by rw [e]; rfl) (fun cdv A outer s H E hr ds M Q ⟨a, b, r, e, hp, q⟩ => ?_)
  subst e
  rcases q with ⟨L, l, rfl, eL, hL, h0, h1, q⟩ | ⟨z, rfl, h0, h1, q⟩
  · refine ss_one (s_ret (e_ix (e_var 1 rfl (e_call C__law_draw (hr.mono (by omega)) (a_cons (e_var 0 rfl (a_cons (e_len m_len (a_cons (e_var 1 rfl (a_nil ⟨_, eL, a_nil ⟨a, b, (l.length : Int), rfl, hp, by omega, by omega, fun n M' n0 n1 hp' k' => ?_⟩⟩)))))))))))
    obtain ⟨d, hd, hm⟩ := atI_lt n0 n1
    exact ⟨l, d, k'.at hL eL, hd, Wk.here (q d hm M' hp' k')⟩
  · refine ss_one (s_ret (e_ix (e_var 1 rfl (e_call C__law_draw (hr.mono (by omega)) (a_cons (e_var 0 rfl (a_cons (e_len m_len (a_cons (e_var 1 rfl (a_nil ⟨sz (by show z.cps.size ≤ _; rw [← Array.length_toList]; omega), a_nil ⟨a, b, (z.length : Int), rfl, hp, by show (0 : Int) < (z.cps.size : Int); rw [← Array.length_toList]; omega, by show (z.cps.size : Int) < _; rw [← Array.length_toList]; omega, fun n M' n0 n1 hp' k' => ?_⟩⟩)))))))))))
    have n1 : n < (z.cps.toList.length : Int) := by rw [Array.length_toList]; exact n1
    obtain ⟨c, hd, hm⟩ := atI_lt n0 n1
    exact ⟨sz (by show z.cps.size ≤ _; rw [← Array.length_toList]; omega), c, hd, Wk.here (q c hm M' hp' k')⟩
end
/-! ### a law with one table of code objects: the start -/
/-- the script: a frozen row, or a list -/
def ScrD (ns : List Int) (M : Mp) (d : D) : Prop := d = .rol (ns.map D.int) ∨ ∃ s, d = .ref s ∧ M s = some (.lst (ns.map D.int))
def spPool2 : Sp3 := fun ds M Q => ∃ (ns : List Int) (d : D), ds = [d] ∧ ScrD ns M d ∧ ∀ a b M', M a = none → Mle M M' → PoolAt M' a b → Q (.ref a) M'
section
variable {P : Program} {w : World} {K : PySem.W.Frag} {mg : Str → Option Value} {base : Heap} {f : Addr} {fd : FuncData}
theorem ok_pool2 (F : Fun K "_law_pool" "_law_pool" st__law_pool f fd) (b : Binds K fd ["_law_script"] []) (g : mg "_law_pool" = some (.ref f)) (m_list : mg "list" = none) : Callee P w K mg base "_law_pool" 1 ["_law_script"] spPool2 := by
  refine callee F scope__law_pool g b (fun ds M Q ⟨ns, _, e, _⟩ => by rw [e]; rfl) (fun cdv A outer s H E hr ds M Q ⟨ns, d, e, hd, q⟩ => ?_)
  subst e
  rcases hd with rfl | ⟨s, rfl, es⟩
  · refine ss_one (s_ret (e_lst (a_cons (e_listc m_list (a_cons (e_var 0 rfl (a_nil fun p M1 f1 e1 l1 => ?_)))))))
    refine a_cons (e_int (a_cons (e_int (a_cons (e_int (a_cons (e_int (a_nil ?_))))))))
    refine ⟨by show 5 ≤ sizeLine; decide, fun p2 M2 f2 e2 l2 => ?_⟩
    exact Wk.here (q p2 p M2 (l1.fresh f2) (l1.trans l2) ⟨⟨ns, 0, 0, 0, 0, e2, l2 _ _ e1, by decide, by decide, by decide, by decide⟩, mne e1 f2⟩)
  · refine ss_one (s_ret (e_lst (a_cons (e_listc m_list (a_cons (e_var 0 rfl (a_nil ⟨_, es, fun p M1 f1 e1 l1 => ?_⟩)))))))
    refine a_cons (e_int (a_cons (e_int (a_cons (e_int (a_cons (e_int (a_nil ?_))))))))
    refine ⟨by show 5 ≤ sizeLine; decide, fun p2 M2 f2 e2 l2 => ?_⟩
    exact Wk.here (q p2 p M2 (l1.fresh f2) (l1.trans l2) ⟨⟨ns, 0, 0, 0, 0, e2, l2 _ _ e1, by decide, by decide, by decide, by decide⟩, mne e1 f2⟩)
end
theorem law_sp2 {K : PySem.W.Frag} {H : Hp} {a Pt : Addr} {ns : List Int} {sp3 : Sp3} (nm : Nat → Nat → Str) (hT : H Pt = some (.tbl #[])) (hS : SqL K H a (ns.map V.int))
    (h : ∀ (d : D) (M : Mp) (Q : QD), ScrD ns M d → M Pt = some (.tab nm) → (∀ M', Q (.bl true) M') → sp3 [d] M Q) : spD K sp3 [.ref a] H (fun v _ => v = .bl true) fun _ _ _ => False := by
  have fin : ∀ (v : V) (H' : Hp) (d : D) (M' : Mp), Tp K H' v d → d = .bl true → v = .bl true := fun v H' d M' t q => by
    subst q
    cases t
    rfl
  rcases hS with (hl | ⟨o, hf⟩) | hk
  · have hne : a ≠ Pt := fun e => by rw [e, hT] at hl; cases hl
    refine ⟨[.ref a], fun b => if b = Pt then some (.tab nm) else if b = a then some (.lst (ns.map D.int)) else none, fun d _ => d = .bl true, .cons (.ref a) .nil, fun b m e => ?_, h (.ref a) _ (fun d _ => d = .bl true) (.inr ⟨a, rfl, by simp [hne]⟩) (by simp) (fun _ => rfl), fun v H' d M' _ _ t q => fin v H' d M' t q⟩
    by_cases e1 : b = Pt
    · subst e1
      simp only [if_true] at e
      cases e
      exact ⟨_, hT, #[], rfl, by simp [TriplesOk], fun pos cv hc => by simp [codeAmong] at hc⟩
    · by_cases e2 : b = a
      · subst e2
        simp only [if_neg e1, if_true] at e
        cases e
        exact ⟨_, hl, _, rfl, Tps.ints ns⟩
      · simp only [if_neg e1, if_neg e2] at e
        cases e
  all_goals
    refine ⟨[.rol (ns.map D.int)], fun b => if b = Pt then some (.tab nm) else none, fun d _ => d = .bl true, .cons (.rol ?_ (Tps.ints ns)) .nil, fun b m e => ?_, h (.rol (ns.map D.int)) _ (fun d _ => d = .bl true) (.inl rfl) (by simp) (fun _ => rfl), fun v H' d M' _ _ t q => fin v H' d M' t q⟩
  · exact .inl ⟨o, hf⟩
  · by_cases e1 : b = Pt
    · subst e1
      simp only [if_true] at e
      cases e
      exact ⟨_, hT, #[], rfl, by simp [TriplesOk], fun pos cv hc => by simp [codeAmong] at hc⟩
    · simp only [if_neg e1] at e
      cases e
  · exact .inr hk
  · by_cases e1 : b = Pt
    · subst e1
      simp only [if_true] at e
      cases e
      exact ⟨_, hT, #[], rfl, by simp [TriplesOk], fun pos cv hc => by simp [codeAmong] at hc⟩
    · simp only [if_neg e1] at e
      cases e
end My
set_option maxHeartbeats 4000000
namespace My
open PySem L2 DL
/-! ### a search by breadth, in plain words: nodes are numbers -/
inductive Way (E : Nat → List Nat) (S : List Nat) : Nat → Nat → Prop
  | start {x : Nat} : x ∈ S → Way E S 0 x
  | step {d x y : Nat} : Way E S d x → y ∈ E x → Way E S (d + 1) y
/-- the state of the search: what is known, from where; dep: how far from a start -/
structure Bf (Wt : Nat → Bool) (S : List Nat) (E : Nat → List Nat) (n : Nat) (at_ : Nat) (ns : List Nat) (bs : List Int) (dep : Nat → Nat) : Prop where
  len : bs.length = ns.length
  nd : ns.Nodup
  lt : ∀ x ∈ ns, x < n
  bk : ∀ (j x : Nat) (b : Int), ns[j]? = some x → bs[j]? = some b → (b = -1 ∧ x ∈ S ∧ dep j = 0) ∨ ∃ i y : Nat, b = (i : Int) ∧ i < j ∧ ns[i]? = some y ∧ x ∈ E y ∧ dep j = dep i + 1
  mono : ∀ i j, i ≤ j → j < ns.length → dep i ≤ dep j
  near : at_ < ns.length → ∀ j, j < ns.length → dep j ≤ dep at_ + 1
  old : ∀ i x y, i < at_ → ns[i]? = some x → y ∈ E x → ∃ j, ns[j]? = some y ∧ dep j ≤ dep i + 1
  no : ∀ i x, i < at_ → ns[i]? = some x → Wt x = false
def StIn (S : List Nat) (ns : List Nat) (dep : Nat → Nat) : Prop := ∀ x ∈ S, ∃ j, ns[j]? = some x ∧ dep j = 0
section
variable {Wt : Nat → Bool} {S : List Nat} {E : Nat → List Nat} {n at_ : Nat} {ns : List Nat} {bs : List Int} {dep : Nat → Nat}
theorem Bf.nil : Bf Wt S E n 0 [] [] (fun _ => 0) := ⟨rfl, List.nodup_nil, (fun _ h => nomatch h), (fun j x b h => by simp at h), (fun _ _ _ h => by simp at h), (fun h => by simp at h), (fun _ _ _ h => by omega), (fun _ _ h => by omega)⟩
theorem get_app {l : List Nat} {j x y : Nat} (h : (l ++ [y])[j]? = some x) : (j < l.length ∧ l[j]? = some x) ∨ (j = l.length ∧ x = y) := by
  rcases Nat.lt_trichotomy j l.length with h1 | h1 | h1
  · rw [List.getElem?_append_left h1] at h
    exact .inl ⟨h1, h⟩
  · subst h1
    rw [List.getElem?_append_right (Nat.le_refl _), Nat.sub_self] at h
    exact .inr ⟨rfl, (Option.some.inj h).symm⟩
  · rw [List.getElem?_eq_none (by rw [List.length_append]; simp; omega)] at h
    cases h
theorem lt_of_get {α : Type} {l : List α} {j : Nat} {x : α} (h : l[j]? = some x) : j < l.length := (List.getElem?_eq_some_iff.mp h).1
theorem get_old {α : Type} {l : List α} {j : Nat} {x y : α} (h : l[j]? = some x) : (l ++ [y])[j]? = some x := by
  rw [List.getElem?_append_left (lt_of_get h)]; exact h
/-- a start is put in -/
theorem Bf.putS {y : Nat} (h : Bf Wt S E n 0 ns bs fun _ => 0) (hy : y ∉ ns) (hn : y < n) (hS : y ∈ S) : Bf Wt S E n 0 (ns ++ [y]) (bs ++ [-1]) fun _ => 0 := by
  refine ⟨by rw [List.length_append, List.length_append, h.len]; rfl, ?_, fun x hx => ?_, fun j x b h1 h2 => ?_, fun _ _ _ _ => Nat.le_refl _, fun _ _ _ => by omega, fun _ _ _ h => by omega, fun _ _ h => by omega⟩
  · rw [List.nodup_append]
    exact ⟨h.nd, by simp, fun a ha b hb e => by simp at hb; subst hb; subst e; exact hy ha⟩
  · rcases List.mem_append.mp hx with hx | hx
    · exact h.lt x hx
    · simp at hx; subst hx; exact hn
  · rcases get_app h1 with ⟨l1, e1⟩ | ⟨rfl, rfl⟩
    · rw [List.getElem?_append_left (by rw [h.len]; exact l1)] at h2
      rcases h.bk j x b e1 h2 with q | ⟨i, z, e, l, g, r⟩
      · exact .inl q
      · exact .inr ⟨i, z, e, l, get_old g, r⟩
    · rw [List.getElem?_append_right (by rw [h.len]; exact Nat.le_refl _), h.len, Nat.sub_self] at h2
      exact .inl ⟨(Option.some.inj h2).symm, hS, rfl⟩
/-- a node behind the present one is put in -/
theorem Bf.put {x y : Nat} (h : Bf Wt S E n at_ ns bs dep) (ha : ns[at_]? = some x) (hy : y ∉ ns) (hn : y < n) (hE : y ∈ E x) : Bf Wt S E n at_ (ns ++ [y]) (bs ++ [(at_ : Int)]) fun j => if j = ns.length then dep at_ + 1 else dep j := by
  have hl := lt_of_get ha
  refine ⟨by rw [List.length_append, List.length_append, h.len]; rfl, ?_, fun z hz => ?_, fun j z b h1 h2 => ?_, fun i j hij hj => ?_, fun _ j hj => ?_, fun i u z hi hu hz => ?_, fun i u hi hu => ?_⟩
  · rw [List.nodup_append]
    exact ⟨h.nd, by simp, fun a ha b hb e => by simp at hb; subst hb; subst e; exact hy ha⟩
  · rcases List.mem_append.mp hz with hz | hz
    · exact h.lt z hz
    · simp at hz; subst hz; exact hn
  · rcases get_app h1 with ⟨l1, e1⟩ | ⟨rfl, rfl⟩
    · rw [List.getElem?_append_left (by rw [h.len]; exact l1)] at h2
      rw [if_neg (by omega)]
      rcases h.bk j z b e1 h2 with q | ⟨i, u, e, l, g, r1, r2⟩
      · exact .inl q
      · exact .inr ⟨i, u, e, l, get_old g, r1, by rw [if_neg (by omega)]; exact r2⟩
    · rw [List.getElem?_append_right (by rw [h.len]; exact Nat.le_refl _), h.len, Nat.sub_self] at h2
      refine .inr ⟨at_, x, (Option.some.inj h2).symm, hl, get_old ha, hE, ?_⟩
      rw [if_pos rfl, if_neg (by omega)]
  · rw [List.length_append] at hj
    simp at hj
    by_cases e : j = ns.length
    · rw [if_pos e]
      by_cases e2 : i = ns.length
      · rw [if_pos e2]; exact Nat.le_refl _
      · rw [if_neg e2]; exact h.near hl i (by omega)
    · rw [if_neg e, if_neg (by omega)]
      exact h.mono i j hij (by omega)
  · rw [List.length_append] at hj
    simp at hj
    rw [if_neg (show ¬ at_ = ns.length by omega)]
    by_cases e : j = ns.length
    · rw [if_pos e]; exact Nat.le_refl _
    · rw [if_neg e]; exact h.near hl j (by omega)
  · have hu' : ns[i]? = some u := by
      rcases get_app hu with ⟨_, e⟩ | ⟨e, _⟩
      · exact e
      · omega
    obtain ⟨j, e1, e2⟩ := h.old i u z hi hu' hz
    have := lt_of_get e1
    exact ⟨j, get_old e1, by rw [if_neg (by omega), if_neg (by omega)]; exact e2⟩
  · rcases get_app hu with ⟨_, e⟩ | ⟨e, _⟩
    · exact h.no i u hi e
    · omega
theorem StIn.put {y : Nat} (h : StIn S ns dep) : StIn S (ns ++ [y]) fun j => if j = ns.length then dep at_ + 1 else dep j := fun x hx => by
  obtain ⟨j, e1, e2⟩ := h x hx
  have := lt_of_get e1
  exact ⟨j, get_old e1, by show (if j = ns.length then dep at_ + 1 else dep j) = 0; rw [if_neg (by omega)]; exact e2⟩
/-- the present node is done -/
theorem Bf.next {x : Nat} (h : Bf Wt S E n at_ ns bs dep) (ha : ns[at_]? = some x) (hw : Wt x = false) (hall : ∀ y ∈ E x, y ∈ ns) : Bf Wt S E n (at_ + 1) ns bs dep := by
  have hl := lt_of_get ha
  refine ⟨h.len, h.nd, h.lt, h.bk, h.mono, fun hl2 j hj => ?_, fun i u y hi hu hy => ?_, fun i u hi hu => ?_⟩
  · exact Nat.le_trans (h.near hl j hj) (by have := h.mono at_ (at_ + 1) (by omega) hl2; omega)
  · by_cases e : i = at_
    · subst e
      rw [ha] at hu
      cases hu
      obtain ⟨j, hj⟩ := List.mem_iff_getElem?.mp (hall y hy)
      exact ⟨j, hj, h.near hl j (lt_of_get hj)⟩
    · exact h.old i u y (by omega) hu hy
  · by_cases e : i = at_
    · subst e
      rw [ha] at hu
      cases hu
      exact hw
    · exact h.no i u (by omega) hu
/-- every way is known, or something nearer is still to be looked at -/
theorem Bf.way (h : Bf Wt S E n at_ ns bs dep) (hs : StIn S ns dep) {d x : Nat} (w : Way E S d x) : (∃ j, ns[j]? = some x ∧ dep j ≤ d) ∨ ∃ j, at_ ≤ j ∧ j < ns.length ∧ dep j < d := by
  induction w with
  | start hx =>
    obtain ⟨j, e1, e2⟩ := hs _ hx
    exact .inl ⟨j, e1, by omega⟩
  | step w hy ih =>
    rcases ih with ⟨j, e1, e2⟩ | ⟨j, h1, h2, h3⟩
    · by_cases hj : j < at_
      · obtain ⟨j', q1, q2⟩ := h.old j _ _ hj e1 hy
        exact .inl ⟨j', q1, by omega⟩
      · exact .inr ⟨j, by omega, lt_of_get e1, by omega⟩
    · exact .inr ⟨j, h1, h2, by omega⟩
theorem Bf.best {x d y : Nat} (h : Bf Wt S E n at_ ns bs dep) (hs : StIn S ns dep) (ha : ns[at_]? = some x) (w : Way E S d y) (hy : Wt y = true) : dep at_ ≤ d := by
  rcases h.way hs w with ⟨j, e1, e2⟩ | ⟨j, h1, h2, h3⟩
  · have hj : at_ ≤ j := by
      rcases Nat.lt_or_ge j at_ with q | q
      · have := h.no j y q e1
        rw [hy] at this
        cases this
      · exact q
    have := h.mono at_ j hj (lt_of_get e1)
    omega
  · have := h.mono at_ j h1 h2
    omega
theorem Bf.none {d y : Nat} (h : Bf Wt S E n at_ ns bs dep) (hs : StIn S ns dep) (ha : ns.length ≤ at_) (w : Way E S d y) : Wt y = false := by
  rcases h.way hs w with ⟨j, e1, e2⟩ | ⟨j, h1, h2, h3⟩
  · exact h.no j y (by have := lt_of_get e1; omega) e1
  · omega
theorem nodup_le : ∀ (n : Nat) (l : List Nat), l.Nodup → (∀ x ∈ l, x < n) → l.length ≤ n
  | 0, l, _, h => by
    cases l with
    | nil => exact Nat.le_refl _
    | cons x r => exact absurd (h x List.mem_cons_self) (Nat.not_lt_zero _)
  | n + 1, l, hd, h => by
    have q := nodup_le n (l.erase n) (hd.erase n) fun x hx => by
      have h1 := h x (List.mem_of_mem_erase hx)
      have h2 : x ≠ n := fun e => by subst e; exact (List.Nodup.not_mem_erase hd) hx
      omega
    have := List.length_erase (a := n) (l := l)
    split at this <;> omega
theorem Bf.size (h : Bf Wt S E n at_ ns bs dep) : ns.length ≤ n := nodup_le n ns h.nd h.lt
end
/-- a chain of edges from x on, seen backwards: the list begins at x, each next one has an edge to the one before it, the last is a start -/
inductive Chn (E : Nat → List Nat) (S : List Nat) : Nat → List Nat → Prop
  | one {x : Nat} : x ∈ S → Chn E S x [x]
  | cons {x y : Nat} {l : List Nat} : x ∈ E y → Chn E S y l → Chn E S x (x :: l)
/-- what trace appends from the place b on -/
inductive Trc (ns : List Nat) (bs : List Int) : Int → List Nat → Prop
  | done {b : Int} : b < 0 → Trc ns bs b []
  | step {i x : Nat} {b : Int} {l : List Nat} : ns[i]? = some x → bs[i]? = some b → Trc ns bs b l → Trc ns bs (i : Int) (x :: l)
theorem Bf.trc {Wt : Nat → Bool} {S : List Nat} {E : Nat → List Nat} {n at_ : Nat} {ns : List Nat} {bs : List Int} {dep : Nat → Nat} (h : Bf Wt S E n at_ ns bs dep) : ∀ (m j x : Nat), j < m → ns[j]? = some x → ∃ l, Trc ns bs (j : Int) l ∧ Chn E S x l ∧ l.length = dep j + 1 ∧ l.length ≤ j + 1
  | 0, j, x, hj, _ => by omega
  | m + 1, j, x, hj, e => by
    have hb : ∃ b, bs[j]? = some b := ⟨bs[j]'(by rw [h.len]; exact lt_of_get e), List.getElem?_eq_getElem _⟩
    obtain ⟨b, hb⟩ := hb
    rcases h.bk j x b e hb with ⟨rfl, hx, hd⟩ | ⟨i, y, rfl, hi, hy, hE, hd⟩
    · exact ⟨[x], .step e hb (.done (by decide)), .one hx, by rw [hd]; rfl, by simp⟩
    · obtain ⟨l, t, c, k, kl⟩ := Bf.trc h m i y (by omega) hy
      exact ⟨x :: l, .step e hb t, .cons hE c, by rw [List.length_cons, k, hd], by rw [List.length_cons]; omega⟩
theorem Chn.way {E : Nat → List Nat} {S : List Nat} {x : Nat} {l : List Nat} (h : Chn E S x l) : ∃ d, l.length = d + 1 ∧ Way E S d x := by
  induction h with
  | one hx => exact ⟨0, rfl, .start hx⟩
  | cons hE _ ih =>
    obtain ⟨d, e, w⟩ := ih
    exact ⟨d + 1, by rw [List.length_cons, e], .step w hE⟩
/-- what a search answers: nothing is reachable, or a shortest chain (l backwards) to a wanted node -/
def Srch (Wt : Nat → Bool) (S : List Nat) (E : Nat → List Nat) : Option (List Nat) → Prop
  | none => ∀ d y, Way E S d y → Wt y = false
  | some l => ∃ x, Chn E S x l ∧ Wt x = true ∧ ∀ d y, Way E S d y → Wt y = true → l.length ≤ d + 1
/-! backwards -/
theorem Way.app {E : Nat → List Nat} {S : List Nat} {x y d : Nat} (w : Way E [x] d y) : ∀ {k}, Way E S k x → Way E S (k + d) y := by
  induction w with
  | start hx => intro k h; simp at hx; subst hx; exact h
  | step _ hE ih => intro k h; exact .step (ih h) hE
theorem Way.first {E : Nat → List Nat} {x y : Nat} (h : y ∈ E x) : Way E [x] 1 y := .step (.start (by simp)) h
theorem Way.one {E : Nat → List Nat} {S : List Nat} {x d : Nat} (w : Way E S d x) : ∃ s ∈ S, Way E [s] d x := by
  induction w with
  | start hx => exact ⟨_, hx, .start (by simp)⟩
  | step _ hE ih => obtain ⟨s, hs, w⟩ := ih; exact ⟨s, hs, .step w hE⟩
theorem Way.of {E : Nat → List Nat} {S : List Nat} {s x d : Nat} (w : Way E [s] d x) (hs : s ∈ S) : Way E S d x := by
  have := w.app (.start hs)
  rwa [Nat.zero_add] at this
theorem Way.back {E F : Nat → List Nat} {n : Nat} (hEF : ∀ x y, x < n → y ∈ E x → x ∈ F y) (hE : ∀ x, x < n → ∀ y ∈ E x, y < n) {s x d : Nat} (hs : s < n) (w : Way E [s] d x) : Way F [x] d s ∧ x < n := by
  induction w with
  | start hx => simp at hx; subst hx; exact ⟨.start (by simp), hs⟩
  | step w' hy ih =>
    have h1 := ih.1.app (Way.first (hEF _ _ ih.2 hy))
    exact ⟨by rwa [Nat.add_comm] at h1, hE _ ih.2 _ hy⟩
theorem back_len {E F : Nat → List Nat} {S G : List Nat} {n : Nat} {WG WS : Nat → Bool} (hEF : ∀ x y, x < n → y < n → (y ∈ E x ↔ x ∈ F y)) (hE : ∀ x, x < n → ∀ y ∈ E x, y < n) (hF : ∀ x, x < n → ∀ y ∈ F x, y < n)
    (hS : ∀ x ∈ S, x < n) (hG : ∀ x ∈ G, x < n) (hWG : ∀ x, x < n → (WG x = true ↔ x ∈ G)) (hWS : ∀ x, x < n → (WS x = true ↔ x ∈ S)) {d y : Nat} (w : Way E S d y) (hy : WG y = true) : ∃ z, Way F G d z ∧ WS z = true := by
  obtain ⟨s, hs, w1⟩ := w.one
  have hb := Way.back (F := F) (fun x y hx hm => (hEF x y hx (hE x hx y hm)).mp hm) hE (hS s hs) w1
  exact ⟨s, hb.1.of ((hWG y hb.2).mp hy), (hWS s (hS s hs)).mpr hs⟩
/-- searched forwards and backwards -/
theorem srch_both {E F : Nat → List Nat} {S G : List Nat} {n : Nat} {WG WS : Nat → Bool} (hEF : ∀ x y, x < n → y < n → (y ∈ E x ↔ x ∈ F y)) (hE : ∀ x, x < n → ∀ y ∈ E x, y < n) (hF : ∀ x, x < n → ∀ y ∈ F x, y < n)
    (hS : ∀ x ∈ S, x < n) (hG : ∀ x ∈ G, x < n) (hWG : ∀ x, x < n → (WG x = true ↔ x ∈ G)) (hWS : ∀ x, x < n → (WS x = true ↔ x ∈ S)) {p q : Option (List Nat)} (hp : Srch WG S E p) (hq : Srch WS G F q) :
    (p = none ∧ q = none ∧ ∀ x ∈ S, x ∉ G) ∨ ∃ l m, p = some l ∧ q = some m ∧ l.length = m.length ∧ 0 < l.length := by
  have fb : ∀ {d y}, Way E S d y → WG y = true → ∃ z, Way F G d z ∧ WS z = true := fun w h => back_len hEF hE hF hS hG hWG hWS w h
  have bf : ∀ {d y}, Way F G d y → WS y = true → ∃ z, Way E S d z ∧ WG z = true := fun w h => back_len (fun x y hx hy => (hEF y x hy hx).symm) hF hE hG hS hWS hWG w h
  cases p with
  | none =>
    cases q with
    | none =>
      refine .inl ⟨rfl, rfl, fun x hx hg => ?_⟩
      have := hp 0 x (.start hx)
      rw [(hWG x (hS x hx)).mpr hg] at this
      cases this
    | some m =>
      obtain ⟨x, c, hw, _⟩ := hq
      obtain ⟨d, _, w⟩ := c.way
      obtain ⟨z, w2, hz⟩ := bf w hw
      have := hp d z w2
      rw [hz] at this
      cases this
  | some l =>
    obtain ⟨x, c, hw, hb⟩ := hp
    obtain ⟨d, ed, w⟩ := c.way
    obtain ⟨z, w2, hz⟩ := fb w hw
    cases q with
    | none =>
      have := hq d z w2
      rw [hz] at this
      cases this
    | some m =>
      obtain ⟨x', c', hw', hb'⟩ := hq
      obtain ⟨d', ed', w'⟩ := c'.way
      obtain ⟨z', w2', hz'⟩ := bf w' hw'
      have h1 := hb d' z' w2' hz'
      have h2 := hb' d z w2 hz
      exact .inr ⟨l, m, rfl, rfl, by omega, by omega⟩
/-! ### trace and shortest walked -/
theorem szltM {n : Nat} (h : n ≤ 1000000) : n < sizeLine := Nat.lt_of_le_of_lt h (by decide)
/-- the nodes' data: lab i for i < n -/
structure Lbl (lab : Nat → D) (n : Nat) : Prop where
  key : ∀ i, i < n → kyD (lab i) = true ∧ (nkD (lab i)).depth ≤ 8
  inj : ∀ i j, i < n → j < n → nkD (lab i) = nkD (lab j) → i = j
  le : n ≤ 1000000
theorem Lbl.mem {lab : Nat → D} {n : Nat} (h : Lbl lab n) {ns : List Nat} {y : Nat} (hn : ∀ x ∈ ns, x < n) (hy : y < n) : nkD (lab y) ∈ ns.map (fun i => nkD (lab i)) ↔ y ∈ ns := by
  rw [List.mem_map]
  constructor
  · rintro ⟨x, hx, e⟩
    rw [← h.inj x y (hn x hx) hy e]
    exact hx
  · exact fun hy => ⟨y, hy, rfl⟩
def spTrace : Sp3 := fun ds M Q => ∃ (a b : Addr) (at_ : Int) (ns : List Nat) (bs : List Int) (l : List Nat) (lab : Nat → D), ds = [.ref a, .ref b, .int at_] ∧ M a = some (.lst (ns.map lab)) ∧ M b = some (.lst (bs.map D.int)) ∧ Trc ns bs at_ l ∧ l.length ≤ 1000000 ∧
  ∀ p M', M p = none → M' p = some (.lst (l.reverse.map lab)) → Mle M M' → Q (.ref p) M'
/-- what stands in the search's lists and dict -/
def StB (w : World) (lab : Nat → D) (M : Mp) (p3 p4 p5 : Addr) (ns : List Nat) (bs : List Int) (M' : Mp) : Prop :=
  Mle M M' ∧ M' p3 = some (.lst (ns.map lab)) ∧ M' p4 = some (.lst (bs.map D.int)) ∧ M' p5 = some (.dN w p5 (ns.map fun i => nkD (lab i)))
theorem StB.le {w : World} {lab : Nat → D} {M M1 M2 : Mp} {p3 p4 p5 : Addr} {ns : List Nat} {bs : List Int} (h : StB w lab M p3 p4 p5 ns bs M1) (l : Mle M1 M2) : StB w lab M p3 p4 p5 ns bs M2 := ⟨h.1.trans l, l.at h.2.1, l.at h.2.2.1, l.at h.2.2.2⟩
def spShort (k : Nat) : SpF := fun LS ds M Q => ∃ (a : Addr) (L1 L2 : LmS) (lab : Nat → D) (n : Nat) (S : List Nat) (Ed : Nat → List Nat) (Wt : Nat → Bool), ds = [.ref a, .ref L1.g, .ref L2.g] ∧ L1 ∈ LS ∧ L2 ∈ LS ∧ L1.k ≤ k ∧ L2.k ≤ k ∧ LamM L1 M ∧ LamM L2 M ∧
  M a = some (.lst (S.map lab)) ∧ Lbl lab n ∧ (∀ x ∈ S, x < n) ∧ (∀ x, x < n → ∀ y ∈ Ed x, y < n) ∧
  (∀ x, x < n → ∀ M1 Q1, Mle M M1 → (∀ p M2, M1 p = none → M2 p = some (.lst ((Ed x).map lab)) → Mle M1 M2 → Q1 (.ref p) M2) → L1.sp [lab x] M1 Q1) ∧
  (∀ x, x < n → ∀ M1 Q1, Mle M M1 → (∀ M2, Mle M1 M2 → Q1 (.bl (Wt x)) M2) → L2.sp [lab x] M1 Q1) ∧
  (∀ M', Srch Wt S Ed none → Mle M M' → Q .non M') ∧ ∀ p l M', Srch Wt S Ed (some l) → l.length ≤ n → M p = none → M' p = some (.lst (l.reverse.map lab)) → Mle M M' → Q (.ref p) M'
section
variable {P : Program} {w : World} {K : PySem.W.Frag} {mg : Str → Option Value} {base : Heap} {f : Addr} {fd : FuncData}
theorem ok_trace (F : Fun K "trace" "trace" st_trace f fd) (b : Binds K fd ["nodes", "before", "at"] []) (g : mg "trace" = some (.ref f)) : Callee P w K mg base "trace" 1 ["nodes", "before", "at"] spTrace := by
  refine callee F scope_trace g b (fun ds M Q ⟨_, _, _, _, _, _, _, e, _⟩ => by rw [e]; rfl) (fun cdv A0 outer s0 H E0 hr ds M Q ⟨a, b, at_, ns, bs, l, lab, e, ea, eb, ht, hl, q⟩ => ?_)
  subst e
  refine ss_cons (s_asg 3 scope_trace.nd (e_lst (a_nil ⟨by show 0 ≤ sizeLine; decide, fun p3 M3 f3 e3 l3 => ?_⟩)))
  have na : a ≠ p3 := mne ea f3
  have nb : b ≠ p3 := mne eb f3
  refine ss_cons (s_while (fun m σ' M' => ∃ (at2 : Int) (done rest : List Nat), σ' = [some (.ref a), some (.ref b), some (.int at2), some (.ref p3)] ∧ Trc ns bs at2 rest ∧ done ++ rest = l ∧ M' p3 = some (.lst (done.map lab)) ∧ Keep p3 M3 M' ∧ m = rest.length) l.length
    ⟨at_, [], l, rfl, ht, rfl, e3, Keep.refl, rfl⟩ PassesOwn.never ?_)
  rintro m σ' M' ⟨at2, done, rest, rfl, ht2, hd, ep, kp, rfl⟩
  refine t_ge (e_var 2 rfl (e_int ⟨fun hc => ?_, fun hc => ?_⟩))
  · have hc := of_decide_eq_true hc
    cases ht2 with
    | done h => omega
    | @step i x b2 r h1 h2 h3 =>
      have hlen := congrArg List.length hd
      rw [List.length_append, List.length_cons] at hlen
      refine ss_cons (s_expr (e_lm PySem.F.slot_list_append PySem.F.type_list_append mt_append rd_app (e_var 3 rfl ⟨⟨_, ep⟩, a_cons (e_ix (e_var 0 rfl (e_var 2 rfl ⟨_, _, kp.at na (l3.at ea), atI_map_nat h1, a_nil ⟨_, ep, szltM (by rw [List.length_map]; omega), fun M4 e4 k4 => ?_⟩⟩)))⟩)))
      refine ss_one (s_asg 2 scope_trace.nd (e_ix (e_var 1 rfl (e_var 2 rfl ⟨_, _, k4.at nb (kp.at nb (l3.at eb)), atI_map_nat h2, ?_⟩))))
      refine ⟨r.length, Nat.lt_succ_self _, b2, done ++ [x], r, rfl, h3, by rw [List.append_assoc]; exact hd, by rw [e4, List.map_append]; rfl, kp.trans k4, rfl⟩
  · have hc := of_decide_eq_false hc
    cases ht2 with
    | step h1 h2 h3 => omega
    | done h =>
      rw [List.append_nil] at hd
      subst hd
      refine ss_one (s_ret (e_revL (e_var 3 rfl ⟨p3, _, rfl, ep, fun p4 M4 f4 e4 l4 => ?_⟩)))
      exact Wk.here (q p4 M4 ((l3.other kp f3).fresh f4) (by rw [e4, List.map_reverse]) ((l3.other kp f3).trans l4))
theorem ok_shortest {k : Nat} (F : Fun K "shortest" "shortest" st_shortest f fd) (b : Binds K fd ["start", "following", "wanted"] []) (g : mg "shortest" = some (.ref f)) (m_len : mg "len" = none) (C_trace : Callee P w K mg base "trace" 1 ["nodes", "before", "at"] spTrace) (hk : 1 ≤ k) :
    CalleeF P w K mg base "shortest" (k + 1) ["start", "following", "wanted"] (spShort k) := by
  refine calleeF F scope_shortest g b (fun LS ds M Q ⟨_, _, _, _, _, _, _, _, e, _⟩ => by rw [e]; rfl) (fun cdv A0 outer s0 H E0 hr LS hLS ds M Q ⟨a, L1, L2, lab, n, S, Ed, Wt, e, m1, m2, k1, k2, lm1, lm2, ea, hl, hS, hE, q1, q2, qn, qs⟩ => ?_)
  subst e
  refine ss_cons (s_asg 3 scope_shortest.nd (e_lst (a_nil ⟨by show 0 ≤ sizeLine; decide, fun p3 M3 f3 e3 l3 => ?_⟩)))
  refine ss_cons (s_asg 4 scope_shortest.nd (e_lst (a_nil ⟨by show 0 ≤ sizeLine; decide, fun p4 M4 f4 e4 l4 => ?_⟩)))
  refine ss_cons (s_asg 5 scope_shortest.nd (e_dictN fun p5 M5 f5 e5 l5 => ?_))
  have n34 : p3 ≠ p4 := mne e3 f4
  have n35 : p3 ≠ p5 := mne (l4.at e3) f5
  have n45 : p4 ≠ p5 := mne e4 f5
  have g3 : M p3 = none := f3
  have g4 : M p4 = none := l3.fresh f4
  have g5 : M p5 = none := (l3.trans l4).fresh f5
  have st0 : StB w lab M p3 p4 p5 [] [] M5 := ⟨(l3.trans l4).trans l5, (l4.trans l5).at e3, l5.at e4, e5⟩
  have le : n ≤ 1000000 := hl.le
  have put : ∀ {ns : List Nat} {bs : List Int} {M' M6 M7 M8 : Mp} {y : Nat} {v : Int}, StB w lab M p3 p4 p5 ns bs M' → M6 p5 = some (.dN w p5 ((ns.map fun i => nkD (lab i)) ++ [nkD (lab y)])) → Keep p5 M' M6 → M7 p3 = some (.lst (ns.map lab ++ [lab y])) → Keep p3 M6 M7 → M8 p4 = some (.lst (bs.map D.int ++ [.int v])) → Keep p4 M7 M8 →
      StB w lab M p3 p4 p5 (ns ++ [y]) (bs ++ [v]) M8 := fun st e6 k6 e7 k7 e8 k8 =>
    ⟨((st.1.other k6 g5).other k7 g3).other k8 g4, by rw [k8.at n34 e7, List.map_append]; rfl, by rw [e8, List.map_append]; rfl, by rw [k8.at n45.symm (k7.at n35.symm e6), List.map_append]; rfl⟩
  refine ss_cut (fun σ' M' => ∃ (ns : List Nat) (bs : List Int) (d6 : Option D), σ' = [some (.ref a), some (.ref L1.g), some (.ref L2.g), some (.ref p3), some (.ref p4), some (.ref p5), d6, none] ∧ StB w lab M p3 p4 p5 ns bs M' ∧ Bf Wt S Ed n 0 ns bs (fun _ => 0) ∧ ∀ x ∈ S, x ∈ ns) ?_ ?_
  · refine s_for PassesOwn.never (i_list (e_var 0 rfl ⟨_, st0.1.at ea, ?_⟩))
    refine ⟨fun i σ' M' => ∃ (ns : List Nat) (bs : List Int) (d6 : Option D), σ' = [some (.ref a), some (.ref L1.g), some (.ref L2.g), some (.ref p3), some (.ref p4), some (.ref p5), d6, none] ∧ StB w lab M p3 p4 p5 ns bs M' ∧ Bf Wt S Ed n 0 ns bs (fun _ => 0) ∧ ∀ x ∈ S.take i, x ∈ ns,
      ⟨[], [], none, rfl, st0, Bf.nil, fun x hx => by simp at hx⟩, fun i σ' M' _ ⟨ns, bs, d6, _, st, _⟩ => st.1.at ea, ?_, fun σ' M' ⟨ns, bs, d6, e, st, bf, hx⟩ => ⟨ns, bs, d6, e, st, bf, by rwa [List.length_map, List.take_length] at hx⟩⟩
    rintro i d σ' M' hd ⟨ns, bs, d6, rfl, st, bf, hx⟩
    rw [List.getElem?_map] at hd
    cases hy : S[i]? with
    | none => rw [hy] at hd; cases hd
    | some y =>
      rw [hy] at hd
      cases hd
      have hyS := List.mem_of_getElem? hy
      have hyn := hS y hyS
      have hsz := bf.size
      have hbl := bf.len
      have tk : ∀ x ∈ S.take (i + 1), x ∈ S.take i ∨ x = y := fun x hx => by
        rw [List.take_add_one, hy] at hx
        rcases List.mem_append.mp hx with h | h
        · exact .inl h
        · simp at h; exact .inr h
      refine g_name 6 scope_shortest.nd (ss_one (s_if (t_ninN ⟨_, hr⟩ (e_var 6 rfl (e_var 5 rfl ⟨p5, _, rfl, st.2.2.2, (hl.key y hyn).1, (hl.key y hyn).2, fun hc => ?_, fun hc => ?_⟩)))))
      · have hny : y ∉ ns := fun h => by
          simp only [if_true, decide_eq_true ((hl.mem bf.lt hyn).mpr h), Bool.not_true] at hc
          cases hc
        refine ss_cons (s_newN ⟨_, hr⟩ (e_bl (e_var 5 rfl (e_var 6 rfl ⟨p5, _, rfl, st.2.2.2, (hl.key y hyn).1, (hl.key y hyn).2, fun h => hny ((hl.mem bf.lt hyn).mp h), szltM (by rw [List.length_map]; omega), fun M6 e6 k6 => ?_⟩))))
        refine ss_cons (s_expr (e_lm PySem.F.slot_list_append PySem.F.type_list_append mt_append rd_app (e_var 3 rfl ⟨⟨_, k6.at n35 st.2.1⟩, a_cons (e_var 6 rfl (a_nil ⟨_, k6.at n35 st.2.1, szltM (by rw [List.length_map]; omega), fun M7 e7 k7 => ?_⟩))⟩)))
        have eb := k7.at n34.symm (k6.at n45 st.2.2.1)
        refine ss_one (s_expr (e_lm PySem.F.slot_list_append PySem.F.type_list_append mt_append rd_app (e_var 4 rfl ⟨⟨_, eb⟩, a_cons (v_neg (e_int (a_nil ⟨_, eb, szltM (by rw [List.length_map]; omega), fun M8 e8 k8 => ?_⟩)))⟩)))
        refine ⟨ns ++ [y], bs ++ [-1], _, rfl, put st e6 k6 e7 k7 e8 k8, bf.putS hny hyn hyS, fun x hx' => ?_⟩
        rcases tk x hx' with h | h
        · exact List.mem_append_left _ (hx x h)
        · rw [h]; exact List.mem_append_right _ (by simp)
      · have hyn2 : y ∈ ns := by
          refine (hl.mem bf.lt hyn).mp ?_
          simpa using hc
        refine ss_nil ⟨ns, bs, _, rfl, st, bf, fun x hx' => ?_⟩
        rcases tk x hx' with h | h
        · exact hx x h
        · rw [h]; exact hyn2
  rintro σ1 M1 ⟨ns, bs, d6, rfl, st, bf, hx⟩
  refine ss_cons (s_asg 7 scope_shortest.nd (e_int ?_))
  refine ss_cons (s_while (fun m σ' M' => ∃ (at_ : Nat) (ns : List Nat) (bs : List Int) (dep : Nat → Nat) (d6 : Option D), σ' = [some (.ref a), some (.ref L1.g), some (.ref L2.g), some (.ref p3), some (.ref p4), some (.ref p5), d6, some (.int (at_ : Int))] ∧ StB w lab M p3 p4 p5 ns bs M' ∧ Bf Wt S Ed n at_ ns bs dep ∧ StIn S ns dep ∧ m = n - at_) n
    ⟨0, ns, bs, _, d6, rfl, st, bf, fun x hx' => ?_, rfl⟩ PassesOwn.never ?_)
  · obtain ⟨j, hj⟩ := List.mem_iff_getElem?.mp (hx x hx')
    exact ⟨j, hj, rfl⟩
  clear hx bf st
  rintro m σ' M' ⟨at_, ns, bs, dep, d6, rfl, st, bf, si, rfl⟩
  refine t_lt (e_var 7 rfl (e_len m_len (a_cons (e_var 3 rfl (a_nil ⟨_, st.2.1, ?_⟩)))))
  rw [List.length_map]
  have hsz := bf.size
  refine ⟨fun hc => ?_, fun hc => ?_⟩
  · have hc : at_ < ns.length := by have := of_decide_eq_true hc; omega
    obtain ⟨x, hx⟩ : ∃ x, ns[at_]? = some x := ⟨_, List.getElem?_eq_getElem hc⟩
    have hxn := bf.lt x (List.mem_of_getElem? hx)
    refine ss_if (t_truth (e_callL (i := 2) (hLS L2 m2) hr k2 rfl (lm2.le st.1) (a_cons (e_ix (e_var 3 rfl (e_var 7 rfl ⟨_, _, st.2.1, atI_map_nat hx, a_nil ⟨lm2.le st.1, q2 x hxn M' _ st.1 fun M2 l2 => ?_⟩⟩))))))
    refine ⟨fun hw => ?_, fun hw => ?_⟩
    · obtain ⟨l, t, c, hlen, hle⟩ := bf.trc (at_ + 1) at_ x (Nat.lt_succ_self _) hx
      refine ss_one (s_ret (e_call C_trace (hr.mono hk) (a_cons (e_var 3 rfl (a_cons (e_var 4 rfl (a_cons (e_var 7 rfl (a_nil ?_)))))))))
      refine ⟨p3, p4, (at_ : Int), ns, bs, l, lab, rfl, l2.at st.2.1, l2.at st.2.2.1, t, by omega, fun p M3 f e l3 => Wk.here (qs p l M3 ⟨x, c, hw, fun d y w hy => ?_⟩ (by omega) ((st.1.trans l2).fresh f) e ((st.1.trans l2).trans l3))⟩
      have := bf.best si hx w hy
      omega
    · refine ss_cut (fun σ' M' => ∃ (ns : List Nat) (bs : List Int) (dep : Nat → Nat) (d6 : Option D), σ' = [some (.ref a), some (.ref L1.g), some (.ref L2.g), some (.ref p3), some (.ref p4), some (.ref p5), d6, some (.int (at_ : Int))] ∧ StB w lab M p3 p4 p5 ns bs M' ∧ Bf Wt S Ed n at_ ns bs dep ∧ StIn S ns dep ∧ ns[at_]? = some x ∧ ∀ y ∈ Ed x, y ∈ ns) ?_ ?_
      · have st2 := st.le l2
        refine s_for PassesOwn.never (i_list (e_callL (i := 1) (hLS L1 m1) hr k1 rfl (lm1.le st2.1) (a_cons (e_ix (e_var 3 rfl (e_var 7 rfl ⟨_, _, st2.2.1, atI_map_nat hx, a_nil ⟨lm1.le st2.1, q1 x hxn M2 _ st2.1 fun p M3 fp ep lp => ?_⟩⟩))))))
        have m3 : p ≠ p3 := (mne st2.2.1 fp).symm
        have m4 : p ≠ p4 := (mne st2.2.2.1 fp).symm
        have m5 : p ≠ p5 := (mne st2.2.2.2 fp).symm
        refine ⟨_, ep, fun i σ' M' => ∃ (ns : List Nat) (bs : List Int) (dep : Nat → Nat) (d6 : Option D), σ' = [some (.ref a), some (.ref L1.g), some (.ref L2.g), some (.ref p3), some (.ref p4), some (.ref p5), d6, some (.int (at_ : Int))] ∧ StB w lab M p3 p4 p5 ns bs M' ∧ Bf Wt S Ed n at_ ns bs dep ∧ StIn S ns dep ∧ ns[at_]? = some x ∧ M' p = some (.lst ((Ed x).map lab)) ∧ ∀ y ∈ (Ed x).take i, y ∈ ns,
          ⟨ns, bs, dep, d6, rfl, st2.le lp, bf, si, hx, ep, fun y hy => by simp at hy⟩, fun i σ' M' _ ⟨_, _, _, _, _, _, _, _, _, e, _⟩ => e, ?_, fun σ' M' ⟨ns, bs, dep, d6, e, st, bf, si, hx, _, hy⟩ => ⟨ns, bs, dep, d6, e, st, bf, si, hx, by rwa [List.length_map, List.take_length] at hy⟩⟩
        clear hw hsz st st2
        clear bf si hx hc
        rintro i d σ' M' hd ⟨ns, bs, dep, d6, rfl, st, bf, si, hx, ep, hy0⟩
        rw [List.getElem?_map] at hd
        cases hy : (Ed x)[i]? with
        | none => rw [hy] at hd; cases hd
        | some y =>
          rw [hy] at hd
          cases hd
          have hyE := List.mem_of_getElem? hy
          have hyn := hE x hxn y hyE
          have hsz := bf.size
          have hbl := bf.len
          have tk : ∀ z ∈ (Ed x).take (i + 1), z ∈ (Ed x).take i ∨ z = y := fun z hz => by
            rw [List.take_add_one, hy] at hz
            rcases List.mem_append.mp hz with h | h
            · exact .inl h
            · simp at h; exact .inr h
          refine g_name 6 scope_shortest.nd (ss_one (s_if (t_ninN ⟨_, hr⟩ (e_var 6 rfl (e_var 5 rfl ⟨p5, _, rfl, st.2.2.2, (hl.key y hyn).1, (hl.key y hyn).2, fun hc => ?_, fun hc => ?_⟩)))))
          · have hny : y ∉ ns := fun h => by
              simp only [if_true, decide_eq_true ((hl.mem bf.lt hyn).mpr h), Bool.not_true] at hc
              cases hc
            refine ss_cons (s_newN ⟨_, hr⟩ (e_bl (e_var 5 rfl (e_var 6 rfl ⟨p5, _, rfl, st.2.2.2, (hl.key y hyn).1, (hl.key y hyn).2, fun h => hny ((hl.mem bf.lt hyn).mp h), szltM (by rw [List.length_map]; omega), fun M6 e6 k6 => ?_⟩))))
            refine ss_cons (s_expr (e_lm PySem.F.slot_list_append PySem.F.type_list_append mt_append rd_app (e_var 3 rfl ⟨⟨_, k6.at n35 st.2.1⟩, a_cons (e_var 6 rfl (a_nil ⟨_, k6.at n35 st.2.1, szltM (by rw [List.length_map]; omega), fun M7 e7 k7 => ?_⟩))⟩)))
            have eb := k7.at n34.symm (k6.at n45 st.2.2.1)
            refine ss_one (s_expr (e_lm PySem.F.slot_list_append PySem.F.type_list_append mt_append rd_app (e_var 4 rfl ⟨⟨_, eb⟩, a_cons (e_var 7 rfl (a_nil ⟨_, eb, szltM (by rw [List.length_map]; omega), fun M8 e8 k8 => ?_⟩))⟩)))
            refine ⟨ns ++ [y], bs ++ [(at_ : Int)], _, _, rfl, put st e6 k6 e7 k7 e8 k8, bf.put hx hny hyn hyE, si.put, get_old hx, k8.at m4 (k7.at m3 (k6.at m5 ep)), fun z hz' => ?_⟩
            rcases tk z hz' with h | h
            · exact List.mem_append_left _ (hy0 z h)
            · rw [h]; exact List.mem_append_right _ (by simp)
          · have hyn2 : y ∈ ns := by
              refine (hl.mem bf.lt hyn).mp ?_
              simpa using hc
            refine ss_nil ⟨ns, bs, dep, _, rfl, st, bf, si, hx, ep, fun z hz' => ?_⟩
            rcases tk z hz' with h | h
            · exact hy0 z h
            · rw [h]; exact hyn2
      · clear hsz st bf si hx hc
        rintro σ2 M2 ⟨ns, bs, dep, d6, rfl, st, bf, si, hx, hall⟩
        have hsz := bf.size
        have hlt := lt_of_get hx
        refine ss_one (s_augI 7 scope_shortest.nd rfl (e_int ?_))
        exact ⟨n - (at_ + 1), by omega, at_ + 1, ns, bs, dep, d6, rfl, st, bf.next hx (by simpa using hw) hall, si, rfl⟩
  · have hc := of_decide_eq_false hc
    exact ss_one (s_ret (e_non (Wk.here (qn M' (fun d y w => bf.none si (by omega) w) st.1))))
end
end My
set_option maxHeartbeats 4000000
namespace My
open PySem L2 DL
/-! ### the labels -/
def labB : Nat → D
  | 0 => .non
  | 1 => .str "b"
  | 2 => .tup []
  | 3 => .str ""
  | 4 => .tup [.str "a"]
  | _ => .tup [.str "", .non]
def labF : Nat → Nat → D
  | 0, k => .int (k : Nat)
  | 1, k => .str (("n" : Str) ++ Str.ofString (toString ((k : Nat) : Int)))
  | 2, k => .tup [.int (k : Nat), .non]
  | 3, k => .tup [.int (((k : Nat) : Int) % 3), .tup [.str "loan", .tup [.str "a", .tup [.int (((k : Nat) : Int) / 3), .str "^"]], .int (((k : Nat) : Int) % 2)]]
  | 4, k => if k < 6 then labB k else .tup [.str "a", .int (k : Nat)]
  | _, k => if k < 6 then labB k else .int (k : Nat)
def chkL (F : Nat → D) : Bool := (List.range 61).all fun i => kyD (F i) && decide ((nkD (F i)).depth ≤ 8) && (F i).shn 8 && (List.range 61).all fun j => !(NestedKey.beq (nkD (F i)) (nkD (F j))) || decide (i = j)
theorem chk_lab : ([0, 2, 3, 4, 5].all fun st => chkL (labF st)) = true := by decide +kernel
/-- labels that tell the nodes apart -/
structure LabS (lab : Nat → D) (n : Nat) : Prop where
  l : Lbl lab n
  sh : ∀ i, i < n → (lab i).shn 8 = true
theorem lab_of {F : Nat → D} (h : chkL F = true) {n : Nat} (hn : n ≤ 61) : LabS F n := by
  unfold chkL at h
  rw [List.all_eq_true] at h
  have at_ : ∀ i, i < n → ((kyD (F i) = true ∧ (nkD (F i)).depth ≤ 8) ∧ (F i).shn 8 = true) ∧ ∀ j, j < n → nkD (F i) = nkD (F j) → i = j := fun i hi => by
    have := h i (List.mem_range.mpr (by omega))
    simp only [Bool.and_eq_true, decide_eq_true_eq, List.all_eq_true, Bool.or_eq_true, Bool.not_eq_true'] at this
    refine ⟨this.1, fun j hj e => ?_⟩
    rcases this.2 j (List.mem_range.mpr (by omega)) with q | q
    · rw [e, NestedKey.beq_self] at q
      cases q
    · exact q
  exact ⟨⟨fun i hi => (at_ i hi).1.1, fun i j hi hj e => (at_ i hi).2 j hj e, by omega⟩, fun i hi => (at_ i hi).1.2⟩
theorem lab1_of {n : Nat} (hn : n ≤ 61) : LabS (labF 1) n := by
  refine ⟨⟨fun i hi => ⟨by simp [labF, kyD], by simp [labF, nkD, NestedKey.depth]⟩, fun i j hi hj e => ?_, by omega⟩, fun i hi => ?_⟩
  · simp only [labF, nkD, NestedKey.text.injEq] at e
    have e2 : TL.tl (("n" : Str) ++ Str.ofString (toString ((i : Nat) : Int))) = TL.tl (("n" : Str) ++ Str.ofString (toString ((j : Nat) : Int))) := by rw [e]
    rw [TL.tl_append, TL.tl_append, List.append_cancel_left_eq] at e2
    have ei : TL.tl (Str.ofString (toString ((i : Nat) : Int))) = TL.numL i := TL.tl_num i
    have ej : TL.tl (Str.ofString (toString ((j : Nat) : Int))) = TL.numL j := TL.tl_num j
    rw [ei, ej] at e2
    exact TL.numL_inj e2
  · have hk : PyData.strOk (("n" : Str) ++ Str.ofString (toString ((i : Nat) : Int))) = true := by
      refine strOk_app (by decide +kernel) ?_
      unfold PyData.strOk
      rw [← Array.all_toList, List.all_eq_true]
      intro c hc
      have e : (Str.ofString (toString ((i : Nat) : Int))).cps.toList = TL.numL i := TL.tl_num i
      rw [e] at hc
      have := TL.numL_digits i c hc
      exact decide_eq_true (by omega)
    exact shn_str hk
theorem lab_all {st n : Nat} (hs : st < 6) (hn : n ≤ 61) : LabS (labF st) n := by
  by_cases h1 : st = 1
  · subst h1
    exact lab1_of hn
  · have h := chk_lab
    simp only [List.all_cons, List.all_nil, Bool.and_true, Bool.and_eq_true] at h
    obtain ⟨h0, h2, h3, h4, h5⟩ := h
    have : st = 0 ∨ st = 2 ∨ st = 3 ∨ st = 4 ∨ st = 5 := by omega
    rcases this with rfl | rfl | rfl | rfl | rfl
    · exact lab_of h0 hn
    · exact lab_of h2 hn
    · exact lab_of h3 hn
    · exact lab_of h4 hn
    · exact lab_of h5 hn
section
variable {lab : Nat → D} {n : Nat}
theorem LabS.eqv (h : LabS lab n) {i j : Nat} (hi : i < n) (hj : j < n) : D.eqv (lab i) (lab j) = decide (i = j) := by
  rw [eqv_key (h.l.key i hi).1 (h.l.key j hj).1]
  by_cases e : i = j
  · subst e; simp
  · rw [decide_eq_false e, decide_eq_false fun q => e (h.l.inj i j hi hj q)]
theorem LabS.shp (h : LabS lab n) {i : Nat} (hi : i < n) : (lab i).shp = true := D.shp_of (h.sh i hi) (by decide)
theorem LabS.shl (h : LabS lab n) {l : List Nat} (hl : ∀ x ∈ l, x < n) : (D.rol (l.map lab)).shp = true := shp_rol (n := 8) (fun d hd => by obtain ⟨x, hx, rfl⟩ := List.mem_map.mp hd; exact h.sh x (hl x hx)) (by decide)
theorem LabS.inD (h : LabS lab n) {l : List Nat} (hl : ∀ x ∈ l, x < n) {y : Nat} (hy : y < n) : inD (lab y) (l.map lab) = decide (y ∈ l) := by
  unfold DL.inD
  rw [Bool.eq_iff_iff, List.any_eq_true, decide_eq_true_eq]
  constructor
  · rintro ⟨d, hd, e⟩
    obtain ⟨x, hx, rfl⟩ := List.mem_map.mp hd
    rw [h.eqv (hl x hx) hy] at e
    rw [← of_decide_eq_true e]
    exact hx
  · intro hm
    exact ⟨lab y, List.mem_map_of_mem hm, by rw [h.eqv hy hy]; simp⟩
end
/-- labels by range -/
theorem labs_cut {F G : Nat → D} (hF : ∀ k, F k = if k < 6 then labB k else G k) : ∀ n : Nat, ((List.range 6).map labB).take n ++ (List.range (n - 6)).map (fun i => G (6 + i)) = (List.range n).map F := fun n => by
  refine List.ext_getElem? fun i => ?_
  rw [List.getElem?_map]
  by_cases hi : i < n
  · rw [List.getElem?_range hi]
    show _ = some (F i)
    rw [hF]
    by_cases h6 : i < 6
    · rw [if_pos h6, List.getElem?_append_left (by rw [List.length_take, List.length_map, List.length_range]; omega), List.getElem?_take_of_lt hi, List.getElem?_map, List.getElem?_range h6]
      rfl
    · rw [if_neg h6]
      have hl : (((List.range 6).map labB).take n).length = 6 := by rw [List.length_take, List.length_map, List.length_range]; omega
      rw [List.getElem?_append_right (by omega), hl, List.getElem?_map, List.getElem?_range (by omega)]
      show some (G (6 + (i - 6))) = some (G i)
      rw [show 6 + (i - 6) = i by omega]
  · rw [List.getElem?_eq_none (by rw [List.length_append, List.length_take, List.length_map, List.length_range, List.length_map, List.length_range]; omega), List.getElem?_eq_none (by rw [List.length_range]; omega)]
    rfl
theorem LabS.index {lab : Nat → D} {n x : Nat} (h : LabS lab n) {L : Addr} {M : Mp} {Q : QD} (eL : M L = some (.lst ((List.range n).map lab))) (hx : x < n) (q : Q (.int (x : Nat)) M) : RIndexDp (.ref L) [lab x] M Q := by
  refine ⟨_, x, lab x, eL, h.shp hx, h.shl (fun y hy => List.mem_range.mp hy), by rw [List.getElem?_map, List.getElem?_range hx]; rfl, eqv_refl _, fun m z' hm hz => ?_, q⟩
  rw [List.getElem?_map, List.getElem?_range (by omega)] at hz
  cases hz
  rw [h.eqv (by omega) hx]
  exact decide_eq_false (by omega)
/-- a lambda that was made, with what it promises -/
abbrev _root_.DL.LmS.of (k : Nat) {F : LmW} (fr : List Str) (cs : List Addr) (sp : Sp3) {M : Mp} {g : Addr} (_ : M g = some (.fix (LmO g F))) : LmS := ⟨k, g, F, fr, cs, sp⟩
theorem lam_use {X : Cx} {σ : Sd} {M : Mp} {k : Nat} {g c' : Addr} {params : Arguments} {body : Expr} {scope : Scope} {N ps fr : List Str} {cs : List Addr} {sp3 : Sp3} {js : List Nat}
    (a : M g = some (.fix (LmO g ⟨X.env.qual ++ "<lambda>", params, body, scope, cloFrom X.env.cells scope.names [], c'⟩))) (S : NdefX.NScope N ps fr scope)
    (hb : ∀ (pm ctv : Value) (us : List Value), us.length = ps.length → bindArgs (LmW.fd ⟨X.env.qual ++ "<lambda>", params, body, scope, cloFrom X.env.cells scope.names [], c'⟩ pm ctv) ⟨us, []⟩ = pure (ps.zip us)) (len : ∀ ds M Q, sp3 ds M Q → ds.length = ps.length)
    (hbody : ∀ (A : Around) (outer : List Env) (s : Shared) (H : Hp), Room k (A.deeper (NdefX.envF (LmW.nf ⟨X.env.qual ++ "<lambda>", params, body, scope, cloFrom X.env.cells scope.names [], c'⟩) g s.heap.objs.size)) → ∀ ds M Q, sp3 ds M Q →
      ES (lamCx X.prog X.w X.K X.mg X.base N ⟨X.env.qual ++ "<lambda>", params, body, scope, cloFrom X.env.cells scope.names [], c'⟩ g A outer s H) body (startL N ds cs) M (Wk Q))
    (hfree : ∀ y ∈ scope.names, y.2 = .free → X.env.scope.names.lookup y.1 = some .cell ∨ X.env.scope.names.lookup y.1 = some .free) (hfr : ∀ y ∈ fr, (y, NameKind.free) ∈ scope.names) (hjs : js.map (fun j => X.N[j]?) = fr.map some) (hσ : js.map (fun j => σ[j]?) = cs.map fun a => some (some (.ref a))) :
    LOk X.prog X.w X.K X.mg X.base (LmS.of (k + 1) fr cs sp3 a).k (LmS.of (k + 1) fr cs sp3 a).g (LmS.of (k + 1) fr cs sp3 a).F (LmS.of (k + 1) fr cs sp3 a).fr (LmS.of (k + 1) fr cs sp3 a).cs (LmS.of (k + 1) fr cs sp3 a).sp ∧ CapD X σ (LmS.of (k + 1) fr cs sp3 a) :=
  ⟨lok_of S hb len hbody, js, fun ok => NdefX.Caps.made ok hfree hfr hjs, hσ⟩
/-! ### the net -/
theorem rg_snoc {F : Nat → D} {i : Nat} {y : D} (h : y = F i) : (List.range i).map F ++ [y] = (List.range (i + 1)).map F := by rw [List.range_succ, List.map_append, h]; rfl
def spLabs : Sp3 := fun ds M Q => ∃ (a b : Addr) (n : Nat), ds = [.ref a, .int (n : Nat)] ∧ PoolAt M a b ∧ 1 ≤ n ∧ n ≤ 61 ∧
  ∀ (st : Nat) p M', st < 6 → M p = none → M' p = some (.lst ((List.range n).map (labF st))) → PoolAt M' a b → Keep a M M' → Q (.ref p) M'
/-- the lists of edges: as their addresses, eds what they hold -/
structure EdAt (lab : Nat → D) (n m B : Nat) (M : Mp) (as : List Addr) (eds : Nat → List Nat) : Prop where
  len : as.length = m
  nd : as.Nodup
  at_ : ∀ i x, as[i]? = some x → M x = some (.lst ((eds i).map lab)) ∧ (∀ y ∈ eds i, y < n) ∧ (eds i).length ≤ B
theorem EdAt.mono {lab : Nat → D} {n m B : Nat} {M M' : Mp} {as : List Addr} {eds : Nat → List Nat} (h : EdAt lab n m B M as eds) (k : ∀ x o, x ∈ as → M x = some o → M' x = some o) : EdAt lab n m B M' as eds :=
  ⟨h.len, h.nd, fun i x e => ⟨k x _ (List.mem_of_getElem? e) (h.at_ i x e).1, (h.at_ i x e).2⟩⟩
theorem EdAt.keep {lab : Nat → D} {n m B : Nat} {M M' : Mp} {as : List Addr} {eds : Nat → List Nat} {p : Addr} (h : EdAt lab n m B M as eds) (k : Keep p M M') (hp : p ∉ as) : EdAt lab n m B M' as eds :=
  h.mono fun x o hx e => k.at (fun q => hp (q ▸ hx)) e
theorem EdAt.add {lab : Nat → D} {n m B : Nat} {M : Mp} {as : List Addr} {eds : Nat → List Nat} {p : Addr} {l : List Nat} (h : EdAt lab n m B M as eds) (hp : p ∉ as) (e : M p = some (.lst (l.map lab))) (hl : ∀ y ∈ l, y < n) (hB : l.length ≤ B) :
    EdAt lab n (m + 1) B M (as ++ [p]) fun j => if j = m then l else eds j := by
  refine ⟨by rw [List.length_append, h.len]; rfl, ?_, fun i x hx => ?_⟩
  · rw [List.nodup_append]
    exact ⟨h.nd, by simp, fun a ha b hb q => by simp at hb; subst hb; subst q; exact hp ha⟩
  · rcases get_app hx with ⟨h1, h2⟩ | ⟨rfl, rfl⟩
    · rw [if_neg (by rw [h.len] at h1; omega)]
      exact h.at_ i x h2
    · rw [if_pos h.len]
      exact ⟨e, hl, hB⟩
def spEdges : Sp3 := fun ds M Q => ∃ (a b L : Addr) (n : Nat) (lab : Nat → D) (d : Int), ds = [.ref a, .ref L, .int d] ∧ PoolAt M a b ∧ L ≠ a ∧ M L = some (.lst ((List.range n).map lab)) ∧ 1 ≤ n ∧ n ≤ 61 ∧ 1 ≤ d ∧ d ≤ 5 ∧
  ∀ p as eds M', M p = none → M' p = some (.lst (as.map D.ref)) → EdAt lab n n 5 M' as eds → (∀ x ∈ as, M x = none ∧ x ≠ p) → PoolAt M' a b → Keep a M M' → Q (.ref p) M'
def spNet : Sp3 := fun ds M Q => ∃ a b : Addr, ds = [.ref a] ∧ PoolAt M a b ∧
  ∀ (st n : Nat) (L p ps pg : Addr) (as : List Addr) (eds : Nat → List Nat) (S G : List Nat) M', st < 6 → 1 ≤ n → n ≤ 61 → M' L = some (.lst ((List.range n).map (labF st))) → M' p = some (.lst (as.map D.ref)) → EdAt (labF st) n n 100 M' as eds →
    M' ps = some (.lst (S.map (labF st))) → M' pg = some (.lst (G.map (labF st))) → (∀ x ∈ S, x < n) → (∀ x ∈ G, x < n) → S.length ≤ 4 → G.length ≤ 4 → PoolAt M' a b → Keep a M M' → Q (.tup [.ref L, .ref p, .ref ps, .ref pg]) M'
section
variable {P : Program} {w : World} {K : PySem.W.Frag} {mg : Str → Option Value} {base : Heap} {f : Addr} {fd : FuncData}
theorem ok_labels (F : Fun K "_law_labels" "_law_labels" st__law_labels f fd) (b : Binds K fd ["_law_pool_here", "_law_many"] []) (g : mg "_law_labels" = some (.ref f)) (m_range : mg "range" = none) (m_str : mg "str" = none) (C__law_draw : Callee P w K mg base "_law_draw" 1 ["_law_pool_here", "_law_many"] spDraw) :
    Callee P w K mg base "_law_labels" 2 ["_law_pool_here", "_law_many"] spLabs := by
  refine callee F scope__law_labels g b (fun ds M Q ⟨_, _, _, e, _⟩ => by rw [e]; rfl) (fun cdv A outer s H E hr ds M Q ⟨a, b, n, e, hp, n1, n61, q⟩ => ?_)
  subst e
  refine ss_cons (s_asg 2 scope__law_labels.nd (e_call C__law_draw (hr.mono (by omega)) (a_cons (e_var 0 rfl (a_cons (e_int (a_nil ⟨a, b, 6, rfl, hp, by decide, by decide, fun sy M1 s0 s1 hp1 k1 => ?_⟩)))))))
  obtain ⟨st, rfl⟩ : ∃ st : Nat, sy = (st : Int) := ⟨sy.toNat, by omega⟩
  have fin : ∀ p M', M1 p = none → M' p = some (.lst ((List.range n).map (labF st))) → Mle M1 M' → Wk Q (.ref p) M' := fun p M' f e l => Wk.here (q st p M' (by omega) (k1.fresh hp1.some f) e (hp1.le l) (k1.to l))
  refine ss_if (t_eq ⟨_, hr⟩ (e_var 2 rfl (e_int ⟨trivial, ?_⟩)))
  rw [eqv_int]
  refine ⟨fun hc => ?_, fun h0 => ?_⟩
  · have hs : st = 0 := by have := of_decide_eq_true hc; omega
    subst hs
    refine ss_one (s_ret (e_lc 3 scope__law_labels.nd (blkOk_by (N := nmN__law_labels) (sc := defScope st__law_labels) (by decide +kernel)) (i_rng1 m_range (e_var 1 rfl ⟨by omega, by omega, fun p hp => ?_⟩))))
    refine ⟨fun i M' => Mle M1 M' ∧ M' p = some (.lst ((List.range i).map (labF 0))), fun M' e l => ⟨l, e⟩, fun i M' _ _ => trivial, fun i d M' hd ⟨lm, ep⟩ s H0 C cl fp => ?_, fun M' ⟨lm, ep⟩ => ?_⟩
    · obtain ⟨hi, rfl⟩ := rgD_get hd
      refine e_var 3 rfl ⟨_, ep, szlt (by rw [List.length_map, List.length_range]; omega), fun M3 e3 k3 => ⟨lm.other k3 hp, ?_⟩⟩
      rw [e3, rg_snoc (F := labF 0) (by simp only [labF, Int.zero_add])]
    · rw [rgD_length, Int.toNat_natCast] at ep
      exact fin p M' hp ep lm
  have h0 := of_decide_eq_false h0
  refine ss_if (t_eq ⟨_, hr⟩ (e_var 2 rfl (e_int ⟨trivial, ?_⟩)))
  rw [eqv_int]
  refine ⟨fun hc => ?_, fun h1 => ?_⟩
  · have hs : st = 1 := by have := of_decide_eq_true hc; omega
    subst hs
    refine ss_one (s_ret (e_lc 3 scope__law_labels.nd (blkOk_by (N := nmN__law_labels) (sc := defScope st__law_labels) (by decide +kernel)) (i_rng1 m_range (e_var 1 rfl ⟨by omega, by omega, fun p hp => ?_⟩))))
    refine ⟨fun i M' => Mle M1 M' ∧ M' p = some (.lst ((List.range i).map (labF 1))), fun M' e l => ⟨l, e⟩, fun i M' _ _ => trivial, fun i d M' hd ⟨lm, ep⟩ s H0 C cl fp => ?_, fun M' ⟨lm, ep⟩ => ?_⟩
    · obtain ⟨hi, rfl⟩ := rgD_get hd
      have hi : i < n := by omega
      refine e_add (e_str (e_strI m_str (a_cons (e_var 3 rfl (a_nil ⟨?_, ?_⟩)))))
      · rw [Int.zero_add]
        exact Nat.lt_of_le_of_lt (Nat.log2_le_self _) (by omega)
      · refine ⟨?_, _, ep, szlt (by rw [List.length_map, List.length_range]; omega), fun M3 e3 k3 => ⟨lm.other k3 hp, ?_⟩⟩
        · have := num_len (i := 0 + ((i : Nat) : Int)) (by omega)
          have h2 : (Str.ofString (toString (0 + ((i : Nat) : Int)))).length ≤ 21 := this
          refine sz ?_
          show ("n" : Str).length + (Str.ofString (toString (0 + ((i : Nat) : Int)))).length ≤ 100000
          have : ("n" : Str).length = 1 := by decide +kernel
          omega
        · rw [e3, rg_snoc (F := labF 1) (by simp only [labF, Int.zero_add])]
    · rw [rgD_length, Int.toNat_natCast] at ep
      exact fin p M' hp ep lm
  have h1 := of_decide_eq_false h1
  refine ss_if (t_eq ⟨_, hr⟩ (e_var 2 rfl (e_int ⟨trivial, ?_⟩)))
  rw [eqv_int]
  refine ⟨fun hc => ?_, fun h2 => ?_⟩
  · have hs : st = 2 := by have := of_decide_eq_true hc; omega
    subst hs
    refine ss_one (s_ret (e_lc 3 scope__law_labels.nd (blkOk_by (N := nmN__law_labels) (sc := defScope st__law_labels) (by decide +kernel)) (i_rng1 m_range (e_var 1 rfl ⟨by omega, by omega, fun p hp => ?_⟩))))
    refine ⟨fun i M' => Mle M1 M' ∧ M' p = some (.lst ((List.range i).map (labF 2))), fun M' e l => ⟨l, e⟩, fun i M' _ _ => trivial, fun i d M' hd ⟨lm, ep⟩ s H0 C cl fp => ?_, fun M' ⟨lm, ep⟩ => ?_⟩
    · obtain ⟨hi, rfl⟩ := rgD_get hd
      refine e_tup (a_cons (e_var 3 rfl (a_cons (e_non (a_nil ⟨by show 2 ≤ sizeLine; decide, _, ep, szlt (by rw [List.length_map, List.length_range]; omega), fun M3 e3 k3 => ⟨lm.other k3 hp, ?_⟩⟩)))))
      rw [e3, rg_snoc (F := labF 2) (by simp only [labF, Int.zero_add])]
    · rw [rgD_length, Int.toNat_natCast] at ep
      exact fin p M' hp ep lm
  have h2 := of_decide_eq_false h2
  refine ss_if (t_eq ⟨_, hr⟩ (e_var 2 rfl (e_int ⟨trivial, ?_⟩)))
  rw [eqv_int]
  refine ⟨fun hc => ?_, fun h3 => ?_⟩
  · have hs : st = 3 := by have := of_decide_eq_true hc; omega
    subst hs
    refine ss_one (s_ret (e_lc 3 scope__law_labels.nd (blkOk_by (N := nmN__law_labels) (sc := defScope st__law_labels) (by decide +kernel)) (i_rng1 m_range (e_var 1 rfl ⟨by omega, by omega, fun p hp => ?_⟩))))
    refine ⟨fun i M' => Mle M1 M' ∧ M' p = some (.lst ((List.range i).map (labF 3))), fun M' e l => ⟨l, e⟩, fun i M' _ _ => trivial, fun i d M' hd ⟨lm, ep⟩ s H0 C cl fp => ?_, fun M' ⟨lm, ep⟩ => ?_⟩
    · obtain ⟨hi, rfl⟩ := rgD_get hd
      refine e_tup (a_cons (e_mod (e_var 3 rfl (e_int ?_))))
      refine ⟨by show (0 : Int) < _; decide, ?_⟩
      refine a_cons (e_tup (a_cons (e_str (a_cons (e_tup (a_cons (e_str (a_cons (e_tup (a_cons (e_fdiv (e_var 3 rfl (e_int ?_)))))))))))))
      refine ⟨⟨by decide, by decide⟩, ?_⟩
      refine a_cons (e_str (a_nil ?_))
      refine ⟨by show 2 ≤ sizeLine; decide, ?_⟩
      refine a_nil ?_
      refine ⟨by show 2 ≤ sizeLine; decide, ?_⟩
      refine a_cons (e_mod (e_var 3 rfl (e_int ?_)))
      refine ⟨by show (0 : Int) < _; decide, ?_⟩
      refine a_nil ?_
      refine ⟨by show 3 ≤ sizeLine; decide, ?_⟩
      refine a_nil ?_
      refine ⟨by show 2 ≤ sizeLine; decide, _, ep, szlt (by rw [List.length_map, List.length_range]; omega), fun M3 e3 k3 => ⟨lm.other k3 hp, ?_⟩⟩
      rw [e3, rg_snoc (F := labF 3) (by simp only [labF, Int.zero_add])]
    · rw [rgD_length, Int.toNat_natCast] at ep
      exact fin p M' hp ep lm
  have h3 := of_decide_eq_false h3
  refine ss_cons (s_asg 4 scope__law_labels.nd (e_lst (a_cons (e_non (a_cons (e_str (a_cons (e_tup (a_nil ?_)))))))))
  refine ⟨by show 0 ≤ sizeLine; decide, ?_⟩
  refine a_cons (e_str (a_cons (e_tup (a_cons (e_str (a_nil ?_))))))
  refine ⟨by show 1 ≤ sizeLine; decide, ?_⟩
  refine a_cons (e_tup (a_cons (e_str (a_cons (e_non (a_nil ?_))))))
  refine ⟨by show 2 ≤ sizeLine; decide, ?_⟩
  refine a_nil ?_
  refine ⟨by show 6 ≤ sizeLine; decide, fun p4 M4 f4 e4 l4 => ?_⟩
  have e4 : M4 p4 = some (.lst ((List.range 6).map labB)) := e4
  have fin2 : ∀ {G : Nat → D} {p5 p7 : Addr} {M5 M' M7 : Mp} , (∀ k, labF st k = if k < 6 then labB k else G k) → M4 p5 = none → Mle M4 M5 → Mle M5 M' → M' p7 = none → M7 p7 = some (.lst (((List.range 6).map labB).take n ++ (List.range (n - 6)).map fun i => G (6 + i))) → Mle M' M7 → Wk Q (.ref p7) M7 :=
    fun hG f5 l5 lm f7 e7 l7 => fin _ _ (((l4.trans l5).trans lm).fresh f7) (by rw [e7, labs_cut hG]) (((l4.trans l5).trans lm).trans l7)
  refine ss_if (t_eq ⟨_, hr⟩ (e_var 2 rfl (e_int ⟨trivial, ?_⟩)))
  rw [eqv_int]
  refine ⟨fun hc => ?_, fun h4 => ?_⟩
  · have hs : st = 4 := by have := of_decide_eq_true hc; omega
    subst hs
    refine ss_one (s_ret (e_add (e_sl (x := .ref p4) (l := none) (u := some ((n : Nat) : Int)) (M1 := M4) (e_var 4 rfl ⟨rfl, rfl⟩) (o_none ⟨rfl, rfl⟩) (o_some (e_var 1 rfl ⟨rfl, rfl⟩)) ⟨_, e4, fun p5 M5 f5 e5 l5 => ?_⟩)))
    rw [cutD_take, List.map_take] at e5
    refine e_lc 3 scope__law_labels.nd (blkOk_by (N := nmN__law_labels) (sc := defScope st__law_labels) (by decide +kernel)) (i_rng2 m_range (a_cons (e_int (a_cons (e_var 1 rfl (a_nil ⟨⟨by omega, by omega, by omega, by omega⟩, fun p hp => ?_⟩))))))
    refine ⟨fun i M' => Mle M5 M' ∧ M' p = some (.lst ((List.range i).map fun i => (fun k : Nat => D.tup [.str "a", .int (k : Nat)]) (6 + i))), fun M' e l => ⟨l, e⟩, fun i M' _ _ => trivial, fun i d M' hd ⟨lm, ep⟩ s H0 C cl fp => ?_, fun M' ⟨lm, ep⟩ => ?_⟩
    · obtain ⟨hi, rfl⟩ := rgD_get hd
      refine e_tup (a_cons (e_str (a_cons (e_var 3 rfl (a_nil ⟨by show 2 ≤ sizeLine; decide, _, ep, szlt (by rw [List.length_map, List.length_range]; omega), fun M3 e3 k3 => ⟨lm.other k3 hp, ?_⟩⟩)))))
      rw [e3, rg_snoc (F := fun i => (fun k : Nat => D.tup [.str "a", .int (k : Nat)]) (6 + i)) (by show D.tup [.str "a", .int (6 + ((i : Nat) : Int))] = D.tup [.str "a", .int ((6 + i : Nat) : Int)]; rw [show ((6 + i : Nat) : Int) = 6 + ((i : Nat) : Int) by omega])]
    · rw [rgD_length] at ep
      refine ⟨_, _, lm.at e5, ep, sz (by rw [List.length_take, List.length_map, List.length_range, List.length_map, List.length_range]; omega), fun p7 M7 f7 e7 l7 => fin2 (G := fun k : Nat => D.tup [.str "a", .int (k : Nat)]) (fun k => rfl) f5 l5 lm f7 (by rw [e7, show (((n : Nat) : Int) - 6).toNat = n - 6 by omega]) l7⟩
  · have h4 := of_decide_eq_false h4
    have hs : st = 5 := by omega
    subst hs
    refine ss_one (s_ret (e_add (e_sl (x := .ref p4) (l := none) (u := some ((n : Nat) : Int)) (M1 := M4) (e_var 4 rfl ⟨rfl, rfl⟩) (o_none ⟨rfl, rfl⟩) (o_some (e_var 1 rfl ⟨rfl, rfl⟩)) ⟨_, e4, fun p5 M5 f5 e5 l5 => ?_⟩)))
    rw [cutD_take, List.map_take] at e5
    refine e_lc 3 scope__law_labels.nd (blkOk_by (N := nmN__law_labels) (sc := defScope st__law_labels) (by decide +kernel)) (i_rng2 m_range (a_cons (e_int (a_cons (e_var 1 rfl (a_nil ⟨⟨by omega, by omega, by omega, by omega⟩, fun p hp => ?_⟩))))))
    refine ⟨fun i M' => Mle M5 M' ∧ M' p = some (.lst ((List.range i).map fun i => (fun k : Nat => D.int (k : Nat)) (6 + i))), fun M' e l => ⟨l, e⟩, fun i M' _ _ => trivial, fun i d M' hd ⟨lm, ep⟩ s H0 C cl fp => ?_, fun M' ⟨lm, ep⟩ => ?_⟩
    · obtain ⟨hi, rfl⟩ := rgD_get hd
      refine e_var 3 rfl ⟨_, ep, szlt (by rw [List.length_map, List.length_range]; omega), fun M3 e3 k3 => ⟨lm.other k3 hp, ?_⟩⟩
      rw [e3, rg_snoc (F := fun i => (fun k : Nat => D.int (k : Nat)) (6 + i)) (by show D.int (6 + ((i : Nat) : Int)) = D.int ((6 + i : Nat) : Int); rw [show ((6 + i : Nat) : Int) = 6 + ((i : Nat) : Int) by omega])]
    · rw [rgD_length] at ep
      refine ⟨_, _, lm.at e5, ep, sz (by rw [List.length_take, List.length_map, List.length_range, List.length_map, List.length_range]; omega), fun p7 M7 f7 e7 l7 => fin2 (G := fun k : Nat => D.int (k : Nat)) (fun k => rfl) f5 l5 lm f7 (by rw [e7, show (((n : Nat) : Int) - 6).toNat = n - 6 by omega]) l7⟩
theorem ok_edges (F : Fun K "_law_edges" "_law_edges" st__law_edges f fd) (b : Binds K fd ["_law_pool_here", "_law_labels_here", "_law_dense"] []) (g : mg "_law_edges" = some (.ref f)) (m_range : mg "range" = none) (m_len : mg "len" = none) (C__law_draw : Callee P w K mg base "_law_draw" 1 ["_law_pool_here", "_law_many"] spDraw) :
    Callee P w K mg base "_law_edges" 2 ["_law_pool_here", "_law_labels_here", "_law_dense"] spEdges := by
  refine callee F scope__law_edges g b (fun ds M Q ⟨_, _, _, _, _, _, e, _⟩ => by rw [e]; rfl) (fun cdv A outer s H E hr ds M Q ⟨a, b, L, n, lab, d, e, hp, hLa, eL, n1, n61, d1, d5, q⟩ => ?_)
  subst e
  refine ss_cons (s_asg 3 scope__law_edges.nd (e_lst (a_nil ⟨by show 0 ≤ sizeLine; decide, fun p3 M3 f3 e3 l3 => ?_⟩)))
  have nL3 : L ≠ p3 := mne eL f3
  have n3a := hp.apart f3
  refine ss_cut (fun σ' M' => ∃ (as : List Addr) (eds : Nat → List Nat) (d4 : Option D), σ' = [some (.ref a), some (.ref L), some (.int d), some (.ref p3), d4, none] ∧ PoolAt M' a b ∧ Keep a M M' ∧ M' p3 = some (.lst (as.map D.ref)) ∧ EdAt lab n n 5 M' as eds ∧ ∀ x ∈ as, M x = none ∧ x ≠ p3) ?_ ?_
  · refine s_for PassesOwn.never (i_rng1 m_range (e_len m_len (a_cons (e_var 1 rfl (a_nil ⟨_, l3.at eL, ?_⟩)))))
    rw [List.length_map, List.length_range]
    refine ⟨by omega, by omega, fun i σ' M' => ∃ (as : List Addr) (eds : Nat → List Nat) (d4 : Option D), σ' = [some (.ref a), some (.ref L), some (.int d), some (.ref p3), d4, none] ∧ PoolAt M' a b ∧ Keep a M M' ∧ M' p3 = some (.lst (as.map D.ref)) ∧ EdAt lab n i 5 M' as eds ∧ ∀ x ∈ as, M x = none ∧ x ≠ p3,
      ⟨[], fun _ => [], none, rfl, hp.le l3, l3.keep, e3, ⟨rfl, List.nodup_nil, fun _ _ h => by simp at h⟩, fun _ h => by cases h⟩, fun _ _ _ _ _ => trivial, ?_, fun σ' M' h => by rwa [rgD_length, Int.toNat_natCast] at h⟩
    rintro i dd σ' M' hd ⟨as, eds, d4, rfl, hp', kk, ep, ed, hx⟩
    obtain ⟨hi, rfl⟩ := rgD_get hd
    have hi : i < n := by omega
    have eL' := kk.at hLa eL
    refine g_name 4 scope__law_edges.nd (ss_one (s_expr (e_lm PySem.F.slot_list_append PySem.F.type_list_append mt_append rd_app (e_var 3 rfl ⟨⟨_, ep⟩, a_cons (e_lc 5 scope__law_edges.nd (blkOk_by (N := nmN__law_edges) (sc := defScope st__law_edges) (by decide +kernel)) (i_rng1 m_range (e_call C__law_draw (hr.mono (by omega)) (a_cons (e_var 0 rfl (a_cons (e_var 2 rfl (a_nil ⟨a, b, d, rfl, hp', by omega, by omega, fun c M1 c0 c1 hp1 k1 => ⟨by omega, by omega, fun p hpn => ?_⟩⟩))))))))⟩))))
    have np := hp1.apart hpn
    have ep1 := k1.at n3a.1 ep
    have np3 : p ≠ p3 := (mne ep1 hpn).symm
    have eL1 := k1.at hLa eL'
    have npL : p ≠ L := (mne eL1 hpn).symm
    have as1 : ∀ x ∈ as, x ≠ a ∧ x ≠ b := fun x h => hp.apart (hx x h).1
    have ed1 : EdAt lab n i 5 M1 as eds := ed.keep k1 fun h => (as1 a h).1 rfl
    have npx : p ∉ as := fun h => by
      obtain ⟨j, hj⟩ := List.mem_iff_getElem?.mp h
      rw [(ed1.at_ j p hj).1] at hpn
      cases hpn
    have fM : M p = none := kk.fresh hp'.some (k1.fresh hp1.some hpn)
    refine ⟨fun j M2 => ∃ l : List Nat, M2 p = some (.lst (l.map lab)) ∧ l.length = j ∧ (∀ y ∈ l, y < n) ∧ PoolAt M2 a b ∧ Keep a M1 M2, fun M2 e l => ⟨[], e, rfl, (fun _ h => by cases h), hp1.le l, l.keep⟩, fun _ _ _ _ => trivial, fun j dj M2 hdj ⟨l, el, ll, hl, hp2, k2⟩ s1 H1 C1 cl1 fp1 => ?_, fun M2 ⟨l, el, ll, hl, hp2, k2⟩ => ?_⟩
    · obtain ⟨hj, rfl⟩ := rgD_get hdj
      refine e_ix (e_var 1 rfl (e_call C__law_draw (hr.mono (by omega)) (a_cons (e_var 0 rfl (a_cons (e_len m_len (a_cons (e_var 1 rfl (a_nil ⟨_, k2.at hLa eL1, a_nil ⟨a, b, (n : Nat), by rw [List.length_map, List.length_range], hp2, by omega, by omega, fun x M4 x0 x1 hp4 k4 => ?_⟩⟩)))))))))
      obtain ⟨y, rfl⟩ : ∃ y : Nat, x = (y : Int) := ⟨x.toNat, by omega⟩
      have hy : y < n := by omega
      refine ⟨_, lab y, k4.at hLa (k2.at hLa eL1), atI_map_nat (List.getElem?_range hy), _, k4.at np.1 el, szlt (by rw [List.length_map]; omega), fun M5 e5 k5 => ⟨l ++ [y], by rw [e5, List.map_append]; rfl, by rw [List.length_append, ll]; rfl, fun z hz => ?_, hp4.keep k5 np, (k2.trans k4).other k5 hpn⟩⟩
      rcases List.mem_append.mp hz with h | h
      · exact hl z h
      · simp at h; omega
    · rw [rgD_length] at ll
      have ep2 := k2.at n3a.1 ep1
      refine a_nil ⟨_, ep2, szlt (by rw [List.length_map, ed.len]; omega), fun M5 e5 k5 => ?_⟩
      refine ⟨as ++ [p], fun j => if j = i then l else eds j, _, rfl, hp2.keep k5 n3a, ((kk.trans k1).trans k2).other k5 f3, by rw [e5, List.map_append]; rfl, EdAt.keep (EdAt.add (ed1.keep k2 fun h => (as1 a h).1 rfl) npx el hl (by omega)) k5 (fun h => ?_), fun x hx' => ?_⟩
      · rcases List.mem_append.mp h with h | h
        · exact (hx p3 h).2 rfl
        · simp at h; exact np3 h.symm
      · rcases List.mem_append.mp hx' with h | h
        · exact hx x h
        · simp at h; subst h; exact ⟨fM, np3⟩
  rintro σ1 M1 ⟨as, eds, d4, rfl, hp1, k1, ep, ed, hx⟩
  exact ss_one (s_ret (e_var 3 rfl (Wk.here (q p3 as eds M1 f3 ep ed hx hp1 k1))))
theorem ok_net (F : Fun K "_law_net" "_law_net" st__law_net f fd) (b : Binds K fd ["_law_pool_here"] []) (g : mg "_law_net" = some (.ref f)) (m_range : mg "range" = none) (C__law_draw : Callee P w K mg base "_law_draw" 1 ["_law_pool_here", "_law_many"] spDraw) (C__law_pick : Callee P w K mg base "_law_pick" 2 ["_law_pool_here", "_law_rows"] spPick)
    (C__law_labels : Callee P w K mg base "_law_labels" 2 ["_law_pool_here", "_law_many"] spLabs) (C__law_edges : Callee P w K mg base "_law_edges" 2 ["_law_pool_here", "_law_labels_here", "_law_dense"] spEdges) :
    Callee P w K mg base "_law_net" 3 ["_law_pool_here"] spNet := by
  refine callee F scope__law_net g b (fun ds M Q ⟨_, _, e, _⟩ => by rw [e]; rfl) (fun cdv A outer s H E hr ds M Q ⟨a, b, e, hp, q⟩ => ?_)
  subst e
  refine ss_cons (s_asg 1 scope__law_net.nd (e_add (e_int (e_call C__law_draw (hr.mono (by omega)) (a_cons (e_var 0 rfl (a_cons (e_call C__law_pick (hr.mono (by omega)) (a_cons (e_var 0 rfl (a_cons (e_lst (a_cons (e_int (a_cons (e_int (a_cons (e_int (a_nil ⟨by show 3 ≤ sizeLine; decide, fun pl Ml fl el ll => a_nil ⟨a, b, .ref pl, rfl, hp.le ll, .inl ⟨pl, _, rfl, el, (hp.apart fl).1, by decide, by decide, fun d hd M1 hp1 k1 => ?_⟩⟩⟩)))))))))))))))))))
  obtain ⟨c, rfl, c1, c60⟩ : ∃ c : Int, d = .int c ∧ 1 ≤ c ∧ c ≤ 60 := by
    simp only [List.mem_cons, List.not_mem_nil, or_false] at hd
    rcases hd with rfl | rfl | rfl <;> exact ⟨_, rfl, by decide, by decide⟩
  refine a_nil ⟨a, b, c, rfl, hp1, by omega, by omega, fun m M2 m0 m1 hp2 k2 => ?_⟩
  obtain ⟨n, en⟩ : ∃ n : Nat, 1 + m = (n : Int) := ⟨(1 + m).toNat, by omega⟩
  have n1 : 1 ≤ n := by omega
  have n61 : n ≤ 61 := by omega
  unfold RAdd
  dsimp only
  rw [en]
  have K2 : Keep a M M2 := (ll.keep.trans k1).trans k2
  refine ss_cons (s_asg 2 scope__law_net.nd (e_call C__law_labels (hr.mono (by omega)) (a_cons (e_var 0 rfl (a_cons (e_var 1 rfl (a_nil ⟨a, b, n, rfl, hp2, n1, n61, fun st L M3 hst fL eL hp3 k3 => ?_⟩)))))))
  have hLa : L ≠ a := (hp2.apart fL).1
  refine ss_cons (s_asg 3 scope__law_net.nd (e_call C__law_edges (hr.mono (by omega)) (a_cons (e_var 0 rfl (a_cons (e_var 2 rfl (a_cons (e_call C__law_pick (hr.mono (by omega)) (a_cons (e_var 0 rfl (a_cons (e_lst (a_cons (e_int (a_cons (e_int (a_cons (e_int (a_nil ⟨by show 3 ≤ sizeLine; decide, fun pm Mm fm em lm => a_nil ⟨a, b, .ref pm, rfl, hp3.le lm, .inl ⟨pm, _, rfl, em, (hp3.apart fm).1, by decide, by decide, fun d hd M4 hp4 k4 => ?_⟩⟩⟩)))))))))))))))))))
  obtain ⟨c', rfl, c1', c5⟩ : ∃ c : Int, d = .int c ∧ 1 ≤ c ∧ c ≤ 5 := by
    simp only [List.mem_cons, List.not_mem_nil, or_false] at hd
    rcases hd with rfl | rfl | rfl <;> exact ⟨_, rfl, by decide, by decide⟩
  have eL4 := k4.at hLa (lm.at eL)
  refine a_nil ⟨a, b, L, n, labF st, c', rfl, hp4, hLa, eL4, n1, n61, c1', c5, fun p as eds M5 fp ep ed hx hp5 k5 => ?_⟩
  have K5 : Keep a M M5 := ((((K2.trans k3).trans lm.keep).trans k4).trans k5)
  have eL5 := k5.at hLa eL4
  have npL : p ≠ L := (mne eL4 fp).symm
  have npa := hp4.apart fp
  have asx : ∀ x ∈ as, x ≠ a ∧ x ≠ b ∧ x ≠ L ∧ x ≠ p := fun x h => ⟨(hp4.apart (hx x h).1).1, (hp4.apart (hx x h).1).2, (mne eL4 (hx x h).1).symm, (hx x h).2⟩
  have fas : ∀ x ∈ as, M x = none := fun x h => by
    have h1 : M4 x = none := (hx x h).1
    exact (((K2.trans k3).trans lm.keep).trans k4).fresh hp4.some h1
  refine ss_cut (fun σ' M' => ∃ (eds : Nat → List Nat) (d4 : Option D), σ' = [some (.ref a), some (.int (n : Nat)), some (.ref L), some (.ref p), d4, none, none] ∧ PoolAt M' a b ∧ Keep a M M' ∧ M' L = some (.lst ((List.range n).map (labF st))) ∧ M' p = some (.lst (as.map D.ref)) ∧ EdAt (labF st) n n 100 M' as eds) ?_ ?_
  · refine s_if (t_eq ⟨_, hr⟩ (e_call C__law_draw (hr.mono (by omega)) (a_cons (e_var 0 rfl (a_cons (e_int (a_nil ⟨a, b, 3, rfl, hp5, by decide, by decide, fun x M6 x0 x1 hp6 k6 => e_int ⟨trivial, ?_⟩⟩)))))))
    have ed6 : EdAt (labF st) n n 5 M6 as eds := ed.keep k6 fun h => (asx a h).1 rfl
    have ep6 := k6.at npa.1 ep
    have eL6 := k6.at hLa eL5
    refine ⟨fun hc => ?_, fun hc => ss_nil ⟨eds, _, rfl, hp6, K5.trans k6, eL6, ep6, ⟨ed6.len, ed6.nd, fun i y e => ⟨(ed6.at_ i y e).1, (ed6.at_ i y e).2.1, by have := (ed6.at_ i y e).2.2; omega⟩⟩⟩⟩
    refine ss_one (s_for PassesOwn.never (i_rng1 m_range (e_sub (e_var 1 rfl (e_int ⟨by omega, by omega, ?_⟩)))))
    refine ⟨fun i σ' M' => ∃ (eds : Nat → List Nat) (d4 : Option D), σ' = [some (.ref a), some (.int (n : Nat)), some (.ref L), some (.ref p), d4, none, none] ∧ PoolAt M' a b ∧ Keep a M M' ∧ M' L = some (.lst ((List.range n).map (labF st))) ∧ M' p = some (.lst (as.map D.ref)) ∧ EdAt (labF st) n n (5 + i) M' as eds,
      ⟨eds, _, rfl, hp6, K5.trans k6, eL6, ep6, ed6⟩, fun _ _ _ _ _ => trivial, ?_, fun σ' M' ⟨eds, d4, e, hp', kk, eL', ep', ed'⟩ => ⟨eds, d4, e, hp', kk, eL', ep', ⟨ed'.len, ed'.nd, fun i y e => ⟨(ed'.at_ i y e).1, (ed'.at_ i y e).2.1, by have := (ed'.at_ i y e).2.2; rw [rgD_length] at this; omega⟩⟩⟩⟩
    rintro i dd σ' M' hd ⟨eds, d4, rfl, hp', kk, eL', ep', ed'⟩
    obtain ⟨hi, rfl⟩ := rgD_get hd
    have hi : i + 1 < n := by omega
    obtain ⟨x, hxi⟩ : ∃ x, as[i]? = some x := ⟨_, List.getElem?_eq_getElem (by rw [ed'.len]; omega)⟩
    have hxm := List.mem_of_getElem? hxi
    obtain ⟨n1x, n2x, n3x, n4x⟩ := asx x hxm
    obtain ⟨ex, hyl, hlen⟩ := ed'.at_ i x hxi
    refine g_name 4 scope__law_net.nd (ss_one (s_expr (e_lm PySem.F.slot_list_append PySem.F.type_list_append mt_append rd_app (e_ix (e_var 3 rfl (e_var 4 rfl ⟨_, .ref x, ep', by rw [Int.zero_add]; exact atI_map_nat hxi, ⟨_, ex⟩, a_cons (e_ix (e_var 2 rfl (e_add (e_var 4 rfl (e_int ⟨_, labF st (i + 1), eL', by rw [Int.zero_add]; exact atI_map_nat (j := i + 1) (List.getElem?_range hi), a_nil ⟨_, ex, szlt (by rw [List.length_map]; omega), fun M7 e7 k7 => ?_⟩⟩)))))⟩))))))
    refine ⟨fun j => if j = i then eds i ++ [i + 1] else eds j, _, rfl, hp'.keep k7 ⟨n1x, n2x⟩, kk.other k7 (fas x hxm), k7.at n3x.symm eL', k7.at n4x.symm ep', ⟨ed'.len, ed'.nd, fun j y e => ?_⟩⟩
    by_cases hj : j = i
    · subst hj
      rw [hxi] at e
      cases e
      rw [if_pos rfl]
      refine ⟨by rw [e7, List.map_append]; rfl, fun z hz => ?_, by rw [List.length_append]; simp; omega⟩
      rcases List.mem_append.mp hz with h | h
      · exact hyl z h
      · simp at h; omega
    · rw [if_neg hj]
      have hyx : y ≠ x := fun q => by
        subst q
        exact hj ((List.getElem?_inj (lt_of_get e) ed'.nd).mp (e.trans hxi.symm))
      have := ed'.at_ j y e
      exact ⟨k7.at hyx this.1, this.2.1, by omega⟩
  rintro σ1 M6 ⟨eds, d4, rfl, hp6, K6, eL6, ep6, ed6⟩
  refine ss_cons (s_lc 5 4 scope__law_net.nd (blkOk_by (N := nmN__law_net) (sc := defScope st__law_net) (by decide +kernel)) (i_rng1 m_range (e_call C__law_draw (hr.mono (by omega)) (a_cons (e_var 0 rfl (a_cons (e_int (a_nil ⟨a, b, 4, rfl, hp6, by decide, by decide, fun c M7 c0 c1 hp7 k7 => ⟨by omega, by omega, fun ps fs => ?_⟩⟩))))))))
  have eL7 := k7.at hLa eL6
  have ep7 := k7.at npa.1 ep6
  have ed7 := ed6.keep k7 fun h => (asx a h).1 rfl
  have nsa := hp7.apart fs
  have nsL : ps ≠ L := (mne eL7 fs).symm
  have nsp : ps ≠ p := (mne ep7 fs).symm
  have nsx : ps ∉ as := fun h => by
    obtain ⟨j, hj⟩ := List.mem_iff_getElem?.mp h
    rw [(ed7.at_ j ps hj).1] at fs
    cases fs
  have fsM : M ps = none := K6.fresh hp6.some (k7.fresh hp7.some fs)
  refine ⟨fun j M2 => ∃ l : List Nat, M2 ps = some (.lst (l.map (labF st))) ∧ l.length = j ∧ (∀ y ∈ l, y < n) ∧ PoolAt M2 a b ∧ Keep a M7 M2, fun M2 e l => ⟨[], e, rfl, (fun _ h => by cases h), hp7.le l, l.keep⟩, fun _ _ _ _ => trivial, fun j dj M2 hdj ⟨l, el, ll, hl, hp2, k2⟩ s1 H1 C1 cl1 fp1 => ?_, fun M8 ⟨S, eS, lS, hS, hp8, k8⟩ => ?_⟩
  · obtain ⟨hj, rfl⟩ := rgD_get hdj
    refine e_ix (e_var 2 rfl (e_call C__law_draw (hr.mono (by omega)) (a_cons (e_var 0 rfl (a_cons (e_var 1 rfl (a_nil ⟨a, b, (n : Nat), rfl, hp2, by omega, by omega, fun x M4 x0 x1 hp4 k4 => ?_⟩)))))))
    obtain ⟨y, rfl⟩ : ∃ y : Nat, x = (y : Int) := ⟨x.toNat, by omega⟩
    have hy : y < n := by omega
    refine ⟨_, labF st y, k4.at hLa (k2.at hLa eL7), atI_map_nat (List.getElem?_range hy), _, k4.at nsa.1 el, szlt (by rw [List.length_map]; omega), fun M5 e5 k5 => ⟨l ++ [y], by rw [e5, List.map_append]; rfl, by rw [List.length_append, ll]; rfl, fun z hz => ?_, hp4.keep k5 nsa, (k2.trans k4).other k5 fs⟩⟩
    rcases List.mem_append.mp hz with h | h
    · exact hl z h
    · simp at h; omega
  rw [rgD_length] at lS
  have eL8 := k8.at hLa eL7
  have ep8 := k8.at npa.1 ep7
  have ed8 := ed7.keep k8 fun h => (asx a h).1 rfl
  refine ss_cons (s_lc 6 4 scope__law_net.nd (blkOk_by (N := nmN__law_net) (sc := defScope st__law_net) (by decide +kernel)) (i_rng1 m_range (e_call C__law_draw (hr.mono (by omega)) (a_cons (e_var 0 rfl (a_cons (e_int (a_nil ⟨a, b, 3, rfl, hp8, by decide, by decide, fun c M9 c0 c1 hp9 k9 => ⟨by omega, by omega, fun pg fg => ?_⟩⟩))))))))
  have eL9 := k9.at hLa eL8
  have ep9 := k9.at npa.1 ep8
  have eS9 := k9.at nsa.1 eS
  have ed9 := ed8.keep k9 fun h => (asx a h).1 rfl
  have nga := hp9.apart fg
  refine ⟨fun j M2 => ∃ l : List Nat, M2 pg = some (.lst (l.map (labF st))) ∧ l.length = j ∧ (∀ y ∈ l, y < n) ∧ PoolAt M2 a b ∧ Keep a M9 M2, fun M2 e l => ⟨[], e, rfl, (fun _ h => by cases h), hp9.le l, l.keep⟩, fun _ _ _ _ => trivial, fun j dj M2 hdj ⟨l, el, ll, hl, hp2, k2⟩ s1 H1 C1 cl1 fp1 => ?_, fun M10 ⟨G, eG, lG, hG, hp10, k10⟩ => ?_⟩
  · obtain ⟨hj, rfl⟩ := rgD_get hdj
    refine e_ix (e_var 2 rfl (e_sub (e_sub (e_var 1 rfl (e_int (e_call C__law_draw (hr.mono (by omega)) (a_cons (e_var 0 rfl (a_cons (e_var 1 rfl (a_nil ⟨a, b, (n : Nat), rfl, hp2, by omega, by omega, fun x M4 x0 x1 hp4 k4 => ?_⟩)))))))))))
    obtain ⟨y, ey⟩ : ∃ y : Nat, ((n : Nat) : Int) - 1 - x = (y : Int) := ⟨(((n : Nat) : Int) - 1 - x).toNat, by omega⟩
    have hy : y < n := by omega
    refine ⟨_, labF st y, k4.at hLa (k2.at hLa eL9), by rw [ey]; exact atI_map_nat (List.getElem?_range hy), _, k4.at nga.1 el, szlt (by rw [List.length_map]; omega), fun M5 e5 k5 => ⟨l ++ [y], by rw [e5, List.map_append]; rfl, by rw [List.length_append, ll]; rfl, fun z hz => ?_, hp4.keep k5 nga, (k2.trans k4).other k5 fg⟩⟩
    rcases List.mem_append.mp hz with h | h
    · exact hl z h
    · simp at h; omega
  rw [rgD_length] at lG
  refine ss_one (s_ret (e_tup (a_cons (e_var 2 rfl (a_cons (e_var 3 rfl (a_cons (e_var 5 rfl (a_cons (e_var 6 rfl (a_nil ⟨by show 4 ≤ sizeLine; decide, ?_⟩)))))))))))
  exact Wk.here (q st n L p ps pg as eds S G M10 hst n1 n61 (k10.at hLa eL9) (k10.at npa.1 ep9) (ed9.keep k10 fun h => (asx a h).1 rfl) (k10.at nsa.1 eS9) eG hS hG (by omega) (by omega) hp10 ((((K6.trans k7).trans k8).trans k9).trans k10))
end
def Res (lab : Nat → D) (r : Option (List Nat)) (d : D) (M : Mp) : Prop := match r with
  | none => d = .non
  | some l => ∃ p, d = .ref p ∧ M p = some (.lst (l.reverse.map lab)) ∧ l.length ≤ 1000000
theorem Res.le {lab : Nat → D} {r : Option (List Nat)} {d : D} {M M' : Mp} (h : Res lab r d M) (l : Mle M M') : Res lab r d M' := by
  cases r with
  | none => exact h
  | some z => obtain ⟨p, e, ep, b⟩ := h; exact ⟨p, e, l.at ep, b⟩
end My
set_option maxHeartbeats 4000000
namespace My
open PySem L2 DL
/-! ### rounds: all that is within so many steps -/
structure Rnd (E : Nat → List Nat) (S : List Nat) (n k : Nat) (re : List Nat) : Prop where
  lt : ∀ x ∈ re, x < n
  way : ∀ x ∈ re, ∃ d, d ≤ k ∧ Way E S d x
  all : ∀ d x, d ≤ k → Way E S d x → x ∈ re
  sz : ∃ nw, re = S ++ nw ∧ nw.Nodup
theorem Rnd.len {E : Nat → List Nat} {S : List Nat} {n k : Nat} {re : List Nat} (h : Rnd E S n k re) : re.length ≤ S.length + n := by
  obtain ⟨nw, e, nd⟩ := h.sz
  have := nodup_le n nw nd fun x hx => h.lt x (by rw [e]; exact List.mem_append_right _ hx)
  rw [e, List.length_append]
  omega
theorem Rnd.start {E : Nat → List Nat} {S : List Nat} {n : Nat} (hS : ∀ x ∈ S, x < n) : Rnd E S n 0 S :=
  ⟨hS, fun x hx => ⟨0, Nat.le_refl _, .start hx⟩, fun d x hd w => by
    cases w with
    | start hx => exact hx
    | step _ _ => omega, [], by simp, List.nodup_nil⟩
/-- one round more -/
theorem Rnd.next {E : Nat → List Nat} {S : List Nat} {n k : Nat} {re re2 mo : List Nat} (h : Rnd E S n k re) (hE : ∀ x, x < n → ∀ y ∈ E x, y < n) (m1 : ∀ y ∈ mo, ∃ x ∈ re, y ∈ E x) (m2 : ∀ x ∈ re, ∀ y ∈ E x, y ∈ re ∨ y ∈ mo) (r1 : ∀ x ∈ re2, x ∈ re ∨ x ∈ mo) (r2 : ∀ x ∈ re, x ∈ re2) (r3 : ∀ x ∈ mo, x ∈ re2)
    (r4 : ∃ nw, re2 = S ++ nw ∧ nw.Nodup) : Rnd E S n (k + 1) re2 := by
  refine ⟨fun x hx => ?_, fun x hx => ?_, fun d x hd w => ?_, r4⟩
  · rcases r1 x hx with q | q
    · exact h.lt x q
    · obtain ⟨y, hy, e⟩ := m1 x q
      exact hE y (h.lt y hy) x e
  · rcases r1 x hx with q | q
    · obtain ⟨d, hd, w⟩ := h.way x q
      exact ⟨d, by omega, w⟩
    · obtain ⟨y, hy, e⟩ := m1 x q
      obtain ⟨d, hd, w⟩ := h.way y hy
      exact ⟨d + 1, by omega, .step w e⟩
  · cases w with
    | start hx => exact r2 x (h.all 0 x (Nat.zero_le _) (.start hx))
    | @step d' y _ w' hy =>
      rcases m2 y (h.all d' y (by omega) w') x hy with q | q
      · exact r2 x q
      · exact r3 x q
/-- what the rounds answer -/
def RndA (E : Nat → List Nat) (S G : List Nat) (n : Nat) (m : Nat) : Prop :=
  (m = 0 ∧ ∀ d y, d ≤ n → Way E S d y → y ∉ G) ∨ ∃ r, m = r + 1 ∧ r ≤ n ∧ (∃ d y, d ≤ r ∧ Way E S d y ∧ y ∈ G) ∧ ∀ d y, d < r → Way E S d y → y ∉ G
theorem rnd_srch {E : Nat → List Nat} {S G : List Nat} {n m : Nat} {W : Nat → Bool} (hW : ∀ x, W x = true ↔ x ∈ G) {r : Option (List Nat)} (hr : Srch W S E r) (hl : ∀ l, r = some l → l.length ≤ n) (h : RndA E S G n m) : m = (match (generalizing := false) r with | none => 0 | some l => l.length) := by
  cases r with
  | none =>
    rcases h with ⟨e, _⟩ | ⟨r, e, _, ⟨d, y, _, w, hy⟩, _⟩
    · exact e
    · have := hr d y w
      rw [(hW y).mpr hy] at this
      cases this
  | some l =>
    obtain ⟨x, c, hw, hb⟩ := hr
    obtain ⟨d0, ed, w0⟩ := c.way
    have hx := (hW x).mp hw
    have := hl l rfl
    rcases h with ⟨e, q⟩ | ⟨r, e, hr', ⟨d, y, hd, w, hy⟩, q⟩
    · exact absurd hx (q d0 x (by omega) w0)
    · have h1 := hb d y w ((hW y).mpr hy)
      have h2 : ¬ d0 < r := fun z => q d0 x z w0 hx
      show m = l.length
      omega
/-! chains, place by place -/
theorem Chn.head {E : Nat → List Nat} {S : List Nat} {x : Nat} {l : List Nat} (h : Chn E S x l) : l[0]? = some x := by cases h <;> rfl
theorem Chn.lt {E : Nat → List Nat} {S : List Nat} {n x : Nat} {l : List Nat} (hS : ∀ x ∈ S, x < n) (hE : ∀ x, x < n → ∀ y ∈ E x, y < n) (h : Chn E S x l) : ∀ y ∈ l, y < n := by
  induction h with
  | one hx => intro y hy; simp at hy; subst hy; exact hS _ hx
  | cons hx c ih =>
    intro y hy
    rcases List.mem_cons.mp hy with rfl | hy
    · exact hE _ (ih _ (List.mem_of_getElem? c.head)) _ hx
    · exact ih y hy
theorem Chn.nxt {E : Nat → List Nat} {S : List Nat} {x : Nat} {l : List Nat} (h : Chn E S x l) : ∀ (i u v : Nat), l[i]? = some u → l[i + 1]? = some v → u ∈ E v := by
  induction h with
  | one hx => intro i u v h1 h2; simp at h2
  | @cons x y l hx c ih =>
    intro i u v h1 h2
    cases i with
    | zero =>
      simp only [List.getElem?_cons_zero, Option.some.injEq] at h1
      simp only [List.getElem?_cons_succ] at h2
      rw [c.head] at h2
      cases h2
      subst h1
      exact hx
    | succ i =>
      simp only [List.getElem?_cons_succ] at h1 h2
      exact ih i u v h1 h2
theorem Chn.last {E : Nat → List Nat} {S : List Nat} {x : Nat} {l : List Nat} (h : Chn E S x l) : ∃ s, l[l.length - 1]? = some s ∧ s ∈ S := by
  induction h with
  | one hx => exact ⟨_, rfl, hx⟩
  | @cons x y l hx c ih =>
    obtain ⟨s, e, hs⟩ := ih
    have hl : 0 < l.length := by have := c.head; have := lt_of_get this; omega
    refine ⟨s, ?_, hs⟩
    rw [List.length_cons, show l.length + 1 - 1 = (l.length - 1) + 1 by omega, List.getElem?_cons_succ]
    exact e
/-! ### the law's rounds, the law's chain -/
/-- the net as it stands -/
structure NetAt (lab : Nat → D) (n : Nat) (M : Mp) (L p ps pg : Addr) (as : List Addr) (eds : Nat → List Nat) (S G : List Nat) : Prop where
  l : LabS lab n
  n1 : 1 ≤ n
  n61 : n ≤ 61
  eL : M L = some (.lst ((List.range n).map lab))
  ep : M p = some (.lst (as.map D.ref))
  ed : EdAt lab n n 100 M as eds
  eS : M ps = some (.lst (S.map lab))
  eG : M pg = some (.lst (G.map lab))
  hS : ∀ x ∈ S, x < n
  hG : ∀ x ∈ G, x < n
  lS : S.length ≤ 4
  lG : G.length ≤ 4
theorem NetAt.le {lab : Nat → D} {n : Nat} {M M' : Mp} {L p ps pg : Addr} {as : List Addr} {eds : Nat → List Nat} {S G : List Nat} (h : NetAt lab n M L p ps pg as eds S G) (l : Mle M M') : NetAt lab n M' L p ps pg as eds S G :=
  ⟨h.l, h.n1, h.n61, l.at h.eL, l.at h.ep, h.ed.mono fun _ _ _ e => l.at e, l.at h.eS, l.at h.eG, h.hS, h.hG, h.lS, h.lG⟩
theorem NetAt.lt {lab : Nat → D} {n : Nat} {M : Mp} {L p ps pg : Addr} {as : List Addr} {eds : Nat → List Nat} {S G : List Nat} (h : NetAt lab n M L p ps pg as eds S G) : ∀ x, x < n → ∀ y ∈ eds x, y < n := fun x hx y hy => by
  obtain ⟨z, hz⟩ : ∃ z, as[x]? = some z := ⟨_, List.getElem?_eq_getElem (by rw [h.ed.len]; exact hx)⟩
  exact (h.ed.at_ x z hz).2.1 y hy
theorem NetAt.edge {lab : Nat → D} {n : Nat} {M : Mp} {L p ps pg : Addr} {as : List Addr} {eds : Nat → List Nat} {S G : List Nat} (h : NetAt lab n M L p ps pg as eds S G) {x : Nat} (hx : x < n) : ∃ z, as[x]? = some z ∧ M z = some (.lst ((eds x).map lab)) ∧ (eds x).length ≤ 100 := by
  obtain ⟨z, hz⟩ : ∃ z, as[x]? = some z := ⟨_, List.getElem?_eq_getElem (by rw [h.ed.len]; exact hx)⟩
  exact ⟨z, hz, (h.ed.at_ x z hz).1, (h.ed.at_ x z hz).2.2⟩
def spRounds : Sp3 := fun ds M Q => ∃ (L p ps pg : Addr) (lab : Nat → D) (n : Nat) (as : List Addr) (eds : Nat → List Nat) (S G : List Nat), ds = [.ref L, .ref p, .ref ps, .ref pg] ∧ NetAt lab n M L p ps pg as eds S G ∧
  ∀ m M', RndA eds S G n m → m ≤ 62 → Mle M M' → Q (.int (m : Nat)) M'
def spChain : Sp3 := fun ds M Q => ∃ (d : D) (L p ps pg : Addr) (lab : Nat → D) (n : Nat) (as : List Addr) (eds : Nat → List Nat) (S G : List Nat) (r : Option (List Nat)) (m : Nat) (W : Nat → Bool), ds = [d, .ref L, .ref p, .ref ps, .ref pg, .int (m : Nat)] ∧ NetAt lab n M L p ps pg as eds S G ∧ Res lab r d M ∧ Srch W S eds r ∧ (∀ x, W x = true ↔ x ∈ G) ∧ m = (match r with | none => 0 | some l => l.length) ∧
  ∀ M', Mle M M' → Q (.bl true) M'
section
variable {P : Program} {w : World} {K : PySem.W.Frag} {mg : Str → Option Value} {base : Heap} {f : Addr} {fd : FuncData}
theorem ok_rounds (F : Fun K "_law_rounds" "_law_rounds" st__law_rounds f fd) (b : Binds K fd ["_law_labels_here", "_law_edges_here", "_law_start", "_law_goals"] []) (g : mg "_law_rounds" = some (.ref f)) (m_len : mg "len" = none) (m_range : mg "range" = none) (m_list : mg "list" = none) :
    Callee P w K mg base "_law_rounds" 1 ["_law_labels_here", "_law_edges_here", "_law_start", "_law_goals"] spRounds := by
  refine callee F scope__law_rounds g b (fun ds M Q ⟨_, _, _, _, _, _, _, _, _, _, e, _⟩ => by rw [e]; rfl) (fun cdv A outer s H E hr ds M Q ⟨L, p, ps, pg, lab, n, as, eds, S, G, e, N, q⟩ => ?_)
  subst e
  have hl := N.l
  have n61 := N.n61
  refine ss_cons (s_asg 4 scope__law_rounds.nd (e_listc m_list (a_cons (e_var 2 rfl (a_nil ⟨_, N.eS, fun pr M1 f1 e1 l1 => ?_⟩)))))
  refine ss_cons (s_for PassesOwn.never (i_rng1 m_range (e_add (e_len m_len (a_cons (e_var 0 rfl (a_nil ⟨_, l1.at N.eL, e_int ?_⟩)))))))
  rw [List.length_map, List.length_range]
  refine ⟨by omega, by omega, fun i σ' M' => ∃ (re : List Nat) (d5 d6 d7 : Option D), σ' = [some (.ref L), some (.ref p), some (.ref ps), some (.ref pg), some (.ref pr), d5, d6, d7, none] ∧ Mle M M' ∧ M' pr = some (.lst (re.map lab)) ∧ Rnd eds S n i re ∧ ∀ d y, d < i → Way eds S d y → y ∉ G,
    ⟨S, none, none, none, rfl, l1, e1, Rnd.start N.hS, fun _ _ h => by omega⟩, fun _ _ _ _ _ => trivial, ?_, ?_⟩
  · rintro i dd σ' M' hd ⟨re, d5, d6, d7, rfl, lm, er, R, hno⟩
    obtain ⟨hi, rfl⟩ := rgD_get hd
    have hi : i ≤ n := by omega
    have hrl := R.len
    have hS4 := N.lS
    refine g_name 5 scope__law_rounds.nd ?_
    refine ss_if (t_gt (e_len m_len (a_cons (e_lcIf 7 scope__law_rounds.nd (blkOk_by (N := nmN__law_rounds) (sc := defScope st__law_rounds) (by decide +kernel)) (i_list (e_var 4 rfl ⟨_, er, fun pn fn => ?_⟩))))))
    refine ⟨fun j M2 => Mle M' M2 ∧ M2 pn = some (.lst (((re.take j).filter fun x => decide (x ∈ G)).map lab)), fun M2 e l => ⟨l, e⟩, fun j M2 _ ⟨l, _⟩ => l.at er, fun j dj M2 hdj ⟨l2, e2⟩ s1 H1 C1 cl1 fp1 => ?_, fun M2 ⟨l2, e2⟩ => ?_⟩
    · rw [List.getElem?_map] at hdj
      cases hx : re[j]? with
      | none => rw [hx] at hdj; cases hdj
      | some x =>
        rw [hx] at hdj
        cases hdj
        have hxn := R.lt x (List.mem_of_getElem? hx)
        have snoc : ∀ c : Bool, decide (x ∈ G) = c → (re.take (j + 1)).filter (fun x => decide (x ∈ G)) = (re.take j).filter (fun x => decide (x ∈ G)) ++ if c then [x] else [] := fun c h => by
          rw [List.take_add_one, hx, List.filter_append]
          simp only [Option.toList, List.filter_cons, h]
          cases c <;> rfl
        refine t_inDp ⟨_, hr⟩ (e_var 7 rfl (e_var 3 rfl ⟨_, l2.at (lm.at N.eG), hl.shp hxn, hl.shl N.hG, ?_⟩))
        rw [if_neg Bool.false_ne_true, hl.inD N.hG hxn]
        refine ⟨fun hc => ?_, fun hc => ⟨l2, by rw [snoc false hc, if_neg Bool.false_ne_true, List.append_nil]; exact e2⟩⟩
        intro s2 H2 C2 cl2 fp2
        have hfl := List.length_filter_le (fun x => decide (x ∈ G)) (re.take j)
        rw [List.length_take] at hfl
        refine e_var 7 rfl ⟨_, e2, szlt (by rw [List.length_map]; omega), fun M3 e3 k3 => ⟨l2.other k3 fn, ?_⟩⟩
        rw [e3, snoc true hc, if_pos rfl, List.map_append]
        rfl
    rw [List.length_map, List.take_length] at e2
    refine a_nil ⟨_, e2, e_int ?_⟩
    rw [List.length_map]
    refine ⟨fun hc => ?_, fun hc => ?_⟩
    · have hc : 0 < (re.filter fun x => decide (x ∈ G)).length := by have := of_decide_eq_true hc; omega
      obtain ⟨x, hx⟩ := List.exists_mem_of_length_pos hc
      rw [List.mem_filter] at hx
      obtain ⟨d, hd', w⟩ := R.way x hx.1
      refine ss_one (s_ret (e_add (e_var 5 rfl (e_int (Wk.here ?_)))))
      rw [show (0 : Int) + ((i : Nat) : Int) + 1 = ((i + 1 : Nat) : Int) by omega]
      exact q (i + 1) M2 (.inr ⟨i, rfl, hi, ⟨d, x, hd', w, of_decide_eq_true hx.2⟩, hno⟩) (by omega) (lm.trans l2)
    have hc : (re.filter fun x => decide (x ∈ G)) = [] := by
      have := of_decide_eq_false hc
      exact List.length_eq_zero_iff.mp (by omega)
    have hrG : ∀ x ∈ re, x ∉ G := fun x hx hg => by
      have : x ∈ re.filter fun x => decide (x ∈ G) := List.mem_filter.mpr ⟨hx, decide_eq_true hg⟩
      rw [hc] at this
      cases this
    have lm2 := lm.trans l2
    have er2 := l2.at er
    refine ss_cons (s_asg 6 scope__law_rounds.nd (e_lst (a_nil ⟨by show 0 ≤ sizeLine; decide, fun pm M3 f3 e3 l3 => ?_⟩)))
    have npr : pm ≠ pr := (mne er2 f3).symm
    have fmM : M pm = none := lm2.fresh f3
    refine ss_cut (fun σ' M' => ∃ (mo : List Nat) (d7 : Option D), σ' = [some (.ref L), some (.ref p), some (.ref ps), some (.ref pg), some (.ref pr), some (.int (0 + ((i : Nat) : Int))), some (.ref pm), d7, none] ∧ Mle M2 M' ∧ M' pm = some (.lst (mo.map lab)) ∧ (∀ y ∈ mo, ∃ x ∈ re, y ∈ eds x) ∧ (∀ x ∈ re, ∀ y ∈ eds x, y ∈ re ∨ y ∈ mo)) ?_ ?_
    · refine s_for PassesOwn.never (i_list (e_var 4 rfl ⟨_, l3.at er2, ?_⟩))
      refine ⟨fun j σ' M' => ∃ (mo : List Nat) (d7 : Option D), σ' = [some (.ref L), some (.ref p), some (.ref ps), some (.ref pg), some (.ref pr), some (.int (0 + ((i : Nat) : Int))), some (.ref pm), d7, none] ∧ Mle M2 M' ∧ M' pm = some (.lst (mo.map lab)) ∧ (∀ y ∈ mo, ∃ x ∈ re, y ∈ eds x) ∧ (∀ x ∈ re.take j, ∀ y ∈ eds x, y ∈ re ∨ y ∈ mo) ∧ mo.length ≤ 100 * j,
        ⟨[], _, rfl, l3, e3, (fun _ h => nomatch h), fun _ h => by simp at h, Nat.zero_le _⟩, fun j σ' M' _ ⟨_, _, _, l, _⟩ => l.at er2, ?_, fun σ' M' ⟨mo, d7, e, l, em, h1, h2, _⟩ => ⟨mo, d7, e, l, em, h1, by rwa [List.length_map, List.take_length] at h2⟩⟩
      rintro j dj σ' M4 hdj ⟨mo, d7, rfl, l4, em, h1, h2, h3⟩
      rw [List.getElem?_map] at hdj
      cases hx : re[j]? with
      | none => rw [hx] at hdj; cases hdj
      | some x =>
        rw [hx] at hdj
        cases hdj
        have hjl := lt_of_get hx
        have hxr := List.mem_of_getElem? hx
        have hxn := R.lt x hxr
        have N4 := N.le (lm2.trans l4)
        obtain ⟨z, hz, ez, hzl⟩ := N4.edge hxn
        refine g_name 7 scope__law_rounds.nd (ss_one (s_expr (e_lm PySem.F.slot_list_extend PySem.F.type_list_extend mt_extend rd_ext (e_var 6 rfl ⟨⟨_, em⟩, a_cons (e_lcIf 8 scope__law_rounds.nd (blkOk_by (N := nmN__law_rounds) (sc := defScope st__law_rounds) (by decide +kernel)) (i_list (e_ix (e_var 1 rfl (e_indexDp ⟨_, hr⟩ (e_var 0 rfl ⟨⟨_, N4.eL⟩, a_cons (e_var 7 rfl (a_nil (hl.index N4.eL hxn ⟨_, _, N4.ep, atI_map_nat hz, _, ez, fun pc fc => ?_⟩)))⟩))))))⟩))))
        refine ⟨fun k M5 => Mle M4 M5 ∧ M5 pc = some (.lst ((((eds x).take k).filter fun y => !decide (y ∈ re)).map lab)), fun M5 e l => ⟨l, e⟩, fun k M5 _ ⟨l, _⟩ => l.at ez, fun k dk M5 hdk ⟨l5, e5⟩ s1 H1 C1 cl1 fp1 => ?_, fun M5 ⟨l5, e5⟩ => ?_⟩
        · rw [List.getElem?_map] at hdk
          cases hy : (eds x)[k]? with
          | none => rw [hy] at hdk; cases hdk
          | some y =>
            rw [hy] at hdk
            cases hdk
            have hkl := lt_of_get hy
            have hyn := N.lt x hxn y (List.mem_of_getElem? hy)
            have snoc : ∀ c : Bool, (!decide (y ∈ re)) = c → ((eds x).take (k + 1)).filter (fun y => !decide (y ∈ re)) = ((eds x).take k).filter (fun y => !decide (y ∈ re)) ++ if c then [y] else [] := fun c h => by
              rw [List.take_add_one, hy, List.filter_append]
              simp only [Option.toList, List.filter_cons, h]
              cases c <;> rfl
            refine t_notInDp ⟨_, hr⟩ (e_var 8 rfl (e_var 4 rfl ⟨_, l5.at (l4.at er2), hl.shp hyn, hl.shl R.lt, ?_⟩))
            rw [if_pos rfl, hl.inD R.lt hyn]
            refine ⟨fun hc => ?_, fun hc => ⟨l5, by rw [snoc false hc, if_neg Bool.false_ne_true, List.append_nil]; exact e5⟩⟩
            intro s2 H2 C2 cl2 fp2
            have hfl := List.length_filter_le (fun y => !decide (y ∈ re)) ((eds x).take k)
            rw [List.length_take] at hfl
            refine e_var 8 rfl ⟨_, e5, szlt (by rw [List.length_map]; omega), fun M6 e6 k6 => ⟨l5.other k6 fc, ?_⟩⟩
            rw [e6, snoc true hc, if_pos rfl, List.map_append]
            rfl
        · rw [List.length_map, List.take_length] at e5
          have hfl := List.length_filter_le (fun y => !decide (y ∈ re)) (eds x)
          refine a_nil ⟨_, _, l5.at em, e5, sz (by rw [List.length_map, List.length_map]; omega), fun M6 e6 k6 => ?_⟩
          refine ⟨mo ++ (eds x).filter (fun y => !decide (y ∈ re)), _, rfl, (l4.trans l5).other k6 f3, by rw [e6, List.map_append], fun y hy => ?_, fun u hu y hy => ?_, by rw [List.length_append]; omega⟩
          · rcases List.mem_append.mp hy with h | h
            · exact h1 y h
            · exact ⟨x, hxr, (List.mem_filter.mp h).1⟩
          · rw [List.take_add_one, hx] at hu
            rcases List.mem_append.mp hu with h | h
            · exact (h2 u h y hy).elim .inl fun z => .inr (List.mem_append_left _ z)
            · simp at h
              subst h
              by_cases hyr : y ∈ re
              · exact .inl hyr
              · exact .inr (List.mem_append_right _ (List.mem_filter.mpr ⟨hy, by simp [hyr]⟩))
    rintro σ1 M4 ⟨mo, d7, rfl, l4, em, h1, h2⟩
    have er4 := l4.at er2
    have mo_lt : ∀ y ∈ mo, y < n := fun y hy => by
      obtain ⟨x, hx, e⟩ := h1 y hy
      exact N.lt x (R.lt x hx) y e
    refine ss_one (s_for PassesOwn.never (i_list (e_var 6 rfl ⟨_, em, ?_⟩)))
    refine ⟨fun j σ' M' => ∃ (re2 : List Nat) (d7 : Option D), σ' = [some (.ref L), some (.ref p), some (.ref ps), some (.ref pg), some (.ref pr), some (.int (0 + ((i : Nat) : Int))), some (.ref pm), d7, none] ∧ Keep pr M4 M' ∧ M' pr = some (.lst (re2.map lab)) ∧ (∀ x ∈ re2, x ∈ re ∨ x ∈ mo) ∧ (∀ x ∈ re, x ∈ re2) ∧ (∀ x ∈ mo.take j, x ∈ re2) ∧ ∃ nw, re2 = S ++ nw ∧ nw.Nodup,
      ⟨re, _, rfl, Keep.refl, er4, fun _ h => .inl h, fun _ h => h, fun _ h => by simp at h, R.sz⟩, fun j σ' M' _ ⟨_, _, _, k, _⟩ => k.at npr em, ?_, fun σ' M' ⟨re2, d7, e, k, e2', r1, r2, r3, r4⟩ => ?_⟩
    · rintro j dj σ' M5 hdj ⟨re2, d7, rfl, k5, e5, r1, r2, r3, nw, r4, r5⟩
      rw [List.getElem?_map] at hdj
      cases hx : mo[j]? with
      | none => rw [hx] at hdj; cases hdj
      | some x =>
        rw [hx] at hdj
        cases hdj
        have hxm := List.mem_of_getElem? hx
        have hxn := mo_lt x hxm
        have re2_lt : ∀ x ∈ re2, x < n := fun x hx => (r1 x hx).elim (R.lt x) (mo_lt x)
        have tk : ∀ z ∈ mo.take (j + 1), z ∈ mo.take j ∨ z = x := fun z hz => by
          rw [List.take_add_one, hx] at hz
          rcases List.mem_append.mp hz with h | h
          · exact .inl h
          · simp at h; exact .inr h
        have h61 := nodup_le n nw r5 fun x hx => re2_lt x (by rw [r4]; exact List.mem_append_right _ hx)
        have hlen : re2.length ≤ 65 := by rw [r4, List.length_append]; omega
        refine g_name 7 scope__law_rounds.nd (ss_one (s_if (t_notInDp ⟨_, hr⟩ (e_var 7 rfl (e_var 4 rfl ⟨_, e5, hl.shp hxn, hl.shl re2_lt, ?_⟩)))))
        rw [if_pos rfl, hl.inD re2_lt hxn]
        refine ⟨fun hc => ?_, fun hc => ?_⟩
        · have hc : x ∉ re2 := by simpa using hc
          refine ss_one (s_expr (e_lm PySem.F.slot_list_append PySem.F.type_list_append mt_append rd_app (e_var 4 rfl ⟨⟨_, e5⟩, a_cons (e_var 7 rfl (a_nil ⟨_, e5, szlt (by rw [List.length_map]; omega), fun M6 e6 k6 => ?_⟩))⟩)))
          refine ⟨re2 ++ [x], _, rfl, k5.trans k6, by rw [e6, List.map_append]; rfl, fun z hz => ?_, fun z hz => List.mem_append_left _ (r2 z hz), fun z hz => ?_, nw ++ [x], by rw [r4, List.append_assoc], ?_⟩
          · rcases List.mem_append.mp hz with h | h
            · exact r1 z h
            · simp at h; subst h; exact .inr hxm
          · rcases tk z hz with h | h
            · exact List.mem_append_left _ (r3 z h)
            · rw [h]; exact List.mem_append_right _ (by simp)
          · rw [List.nodup_append]
            refine ⟨r5, by simp, fun u hu v hv e => ?_⟩
            simp at hv
            subst hv
            subst e
            exact hc (by rw [r4]; exact List.mem_append_right _ hu)
        · have hc : x ∈ re2 := by simpa using hc
          refine ss_nil ⟨re2, _, rfl, k5, e5, r1, r2, fun z hz => ?_, nw, r4, r5⟩
          rcases tk z hz with h | h
          · exact r3 z h
          · rw [h]; exact hc
    · rw [List.length_map, List.take_length] at r3
      refine ⟨re2, _, _, _, e, (lm2.trans l4).other k f1, e2', R.next N.lt h1 h2 r1 r2 r3 r4, fun d y hd w => ?_⟩
      by_cases hdi : d < i
      · exact hno d y hdi w
      · exact hrG y (R.all d y (by omega) w)
  · rintro σ' M' ⟨re, d5, d6, d7, rfl, lm, er, R, hno⟩
    rw [rgD_length] at hno
    exact ss_one (s_ret (e_int (Wk.here (q 0 M' (.inl ⟨rfl, fun d y hd w => hno d y (by omega) w⟩) (by omega) lm))))
theorem ok_chain (F : Fun K "_law_chain_holds" "_law_chain_holds" st__law_chain_holds f fd) (b : Binds K fd ["_law_found", "_law_labels_here", "_law_edges_here", "_law_start", "_law_goals", "_law_many"] []) (g : mg "_law_chain_holds" = some (.ref f)) (m_len : mg "len" = none) (m_range : mg "range" = none) (m_list : mg "list" = none) (m_isinstance : mg "isinstance" = none) :
    Callee P w K mg base "_law_chain_holds" 1 ["_law_found", "_law_labels_here", "_law_edges_here", "_law_start", "_law_goals", "_law_many"] spChain := by
  refine callee F scope__law_chain_holds g b (fun ds M Q ⟨_, _, _, _, _, _, _, _, _, _, _, _, _, _, e, _⟩ => by rw [e]; rfl) (fun cdv A outer s H E hr ds M Q ⟨d, L, p, ps, pg, lab, n, as, eds, S, G, r, m, W, e, N, res, hs, hW, em, q⟩ => ?_)
  subst e
  have hl := N.l
  refine ss_if (t_eq ⟨_, hr⟩ (e_var 5 rfl (e_int ⟨trivial, ?_⟩)))
  rw [eqv_int]
  cases r with
  | none =>
    have e0 : d = .non := res
    subst e0
    subst em
    exact BQ.t (ss_one (s_ret (e_isN (e_var 0 rfl (e_non (Wk.here (q M (Mle.refl _))))))))
  | some l =>
    obtain ⟨pf, rfl, ef, _⟩ := res
    obtain ⟨x, c, hw, _⟩ := hs
    have em : m = l.length := em
    subst em
    have hx := (hW x).mp hw
    have hl0 : 0 < l.length := by have := lt_of_get c.head; omega
    have llt := c.lt N.hS N.lt
    obtain ⟨s0, es0, hs0⟩ := c.last
    have at_ : ∀ i u, l[l.length - 1 - i]? = some u → i < l.length → (l.reverse)[i]? = some u := fun i u h hi => by
      rw [List.getElem?_reverse hi]
      exact h
    rw [decide_eq_false (by omega)]
    refine BQ.f ?_
    refine ss_if (t_w (w_or (t_not (t_truth (e_isi m_isinstance (a_cons (e_var 0 rfl (a_cons (e_tyname (n := "list") m_list (by decide +kernel) (a_nil ⟨"list", true, by simp only [tyD, ef], by decide +kernel, ?_⟩))))))))))
    refine BQ.f (w_or1 (t_ne ⟨_, hr⟩ (e_len m_len (a_cons (e_var 0 rfl (a_nil ⟨_, ef, e_var 5 rfl ⟨trivial, ?_⟩⟩))))))
    rw [List.length_map, List.length_reverse, eqv_int, decide_eq_true rfl]
    refine BQ.f ?_
    refine ss_if (t_w (w_or (t_notInDp ⟨_, hr⟩ (e_ix (e_var 0 rfl (e_int ⟨_, lab s0, ef, atI_map_nat (j := 0) (at_ 0 s0 (by rw [Nat.sub_zero]; exact es0) hl0), e_var 3 rfl ⟨_, N.eS, hl.shp (N.hS s0 hs0), hl.shl N.hS, ?_⟩⟩))))))
    rw [if_pos rfl, hl.inD N.hS (N.hS s0 hs0), decide_eq_true hs0]
    have hgx := N.hG x hx
    refine BQ.f (w_or1 (t_notInDp ⟨_, hr⟩ (e_ix (e_var 0 rfl (e_sub (e_var 5 rfl (e_int ⟨_, lab x, ef, by rw [show ((l.length : Nat) : Int) - 1 = ((l.length - 1 : Nat) : Int) by omega]; exact atI_map_nat (at_ (l.length - 1) x (by rw [Nat.sub_self]; exact c.head) (by omega)), e_var 4 rfl ⟨_, N.eG, hl.shp hgx, hl.shl N.hG, ?_⟩⟩)))))))
    rw [if_pos rfl, hl.inD N.hG hgx, decide_eq_true hx]
    refine BQ.f ?_
    refine ss_cons (s_for PassesOwn.never (i_rng1 m_range (e_sub (e_var 5 rfl (e_int ⟨by omega, by omega, ?_⟩)))))
    refine ⟨fun i σ' M' => ∃ d6 : Option D, σ' = [some (.ref pf), some (.ref L), some (.ref p), some (.ref ps), some (.ref pg), some (.int (l.length : Nat)), d6] ∧ M' = M, ⟨none, rfl, rfl⟩, fun _ _ _ _ _ => trivial, ?_, fun σ' M' ⟨d6, e, eM⟩ => ?_⟩
    · rintro i dd σ' M' hd ⟨d6, rfl, rfl⟩
      obtain ⟨hi, rfl⟩ := rgD_get hd
      have hi : i + 1 < l.length := by omega
      obtain ⟨u, hu⟩ : ∃ u, l[l.length - 1 - (i + 1)]? = some u := ⟨_, List.getElem?_eq_getElem (by omega)⟩
      obtain ⟨v, hv⟩ : ∃ v, l[l.length - 1 - i]? = some v := ⟨_, List.getElem?_eq_getElem (by omega)⟩
      have huv := c.nxt (l.length - 1 - (i + 1)) u v hu (by rw [show l.length - 1 - (i + 1) + 1 = l.length - 1 - i by omega]; exact hv)
      have hun := llt u (List.mem_of_getElem? hu)
      have hvn := llt v (List.mem_of_getElem? hv)
      obtain ⟨z, hz, ez, _⟩ := N.edge hvn
      refine g_name 6 scope__law_chain_holds.nd (ss_one (s_if (t_notInDp ⟨_, hr⟩ (e_ix (e_var 0 rfl (e_add (e_var 6 rfl (e_int ⟨_, lab u, ef, by rw [show (0 : Int) + ((i : Nat) : Int) + 1 = ((i + 1 : Nat) : Int) by omega]; exact atI_map_nat (at_ (i + 1) u hu hi), e_ix (e_var 2 rfl (e_indexDp ⟨_, hr⟩ (e_var 1 rfl ⟨⟨_, N.eL⟩, a_cons (e_ix (e_var 0 rfl (e_var 6 rfl ⟨_, lab v, ef, by rw [Int.zero_add]; exact atI_map_nat (at_ i v hv (by omega)), a_nil (hl.index N.eL hvn ⟨_, _, N.ep, atI_map_nat hz, _, ez, hl.shp hun, hl.shl (N.lt v hvn), ?_⟩)⟩)))⟩)))⟩))))))))
      rw [if_pos rfl, hl.inD (N.lt v hvn) hun, decide_eq_true huv]
      exact BQ.f (ss_nil ⟨_, rfl, rfl⟩)
    · subst eM
      exact ss_one (s_ret (e_bl (Wk.here (q M' (Mle.refl _)))))
end
end My
set_option maxHeartbeats 4000000
namespace My
open PySem L2 DL
/-! ### the law called from outside (own end: the guards around it are known to be none) -/
section
open PyProof.Rows PySem.Spec
variable {P : Program} {w : World} {K : PySem.W.Frag} {mg mb : Str → Option Value} {fa a c Pt : Addr} {fd : FuncData} {s₁ : Shared} {vs : List Value} {ns : List Int}
/-- what is tracked at the call: the table, and the script unless it is a part of the text -/
structure Trk (K : PySem.W.Frag) (a Pt : Addr) (vs : List Value) (ns : List Int) (H : Hp) : Prop where
  tab : H Pt = some (.tbl #[])
  scr : SqL K H a (ns.map V.int)
  only : ∀ b u, H b = some u → (b = Pt ∧ u = .tbl #[]) ∨ (b = a ∧ K.lookup a = none ∧ u = .frz { cls := .type "list", data := .seq vs.toArray } (.lst (ns.map V.int)))
theorem trk_ex (KX : K.In s₁.heap) (ha : s₁.heap.get? a = some { cls := .type "list", data := .seq vs.toArray }) (hne : a ≠ Pt) (hi : IntsAre vs ns) (hl : ns.length ≤ sizeLine) : ∃ H, Trk K a Pt vs ns H := by
  have rv := vals_ints hi
  have lenV := hi.length
  cases hk : K.lookup a with
  | some o =>
    have e := KX a o hk
    rw [ha] at e
    cases e
    refine ⟨fun b => if b = Pt then some (.tbl #[]) else none, if_pos rfl, .inr ⟨_, vs.toArray, _, hk, rfl, rfl, rfl, by rw [List.size_toArray, lenV]; exact hl, by simpa using rv⟩, fun b u e => ?_⟩
    by_cases hb : b = Pt
    · rw [if_pos hb] at e; exact .inl ⟨hb, (Option.some.inj e).symm⟩
    · rw [if_neg hb] at e; cases e
  | none =>
    refine ⟨fun b => if b = Pt then some (.tbl #[]) else if b = a then some (.frz { cls := .type "list", data := .seq vs.toArray } (.lst (ns.map V.int))) else none, if_pos rfl, .inl (.inr ⟨_, (if_neg hne).trans (if_pos rfl)⟩), fun b u e => ?_⟩
    by_cases hb : b = Pt
    · rw [if_pos hb] at e; exact .inl ⟨hb, (Option.some.inj e).symm⟩
    · rw [if_neg hb] at e
      by_cases hb2 : b = a
      · rw [if_pos hb2] at e; exact .inr ⟨hb2, hk, (Option.some.inj e).symm⟩
      · rw [if_neg hb2] at e; cases e
theorem top_call {k : Nat} {x : Str} {sp3 : Sp3} (KX : K.In s₁.heap) (hns : s₁.heap.Ns mainGlobals mg) (hb : s₁.heap.Ns builtinsNs mb) (hbb : ∀ x : Str, x ≠ "__name__" → mb x = bootBuiltins x) (hlim : s₁.heap.NoLimit) (hg : s₁.gens = #[])
    (hT : s₁.heap.get? Pt = some { cls := .none, data := .fields #[] }) (nT : K.lookup Pt = none) (C : PySem.W.CodeHd s₁.heap c Pt)
    (hbm : ∃ (bm : Addr) (ob : Obj), mg "__builtins__" = some (.ref bm) ∧ bm ≠ builtinsNs ∧ s₁.heap.get? bm = some ob ∧ ob.cls = .type "module" ∧ ob.dict = some builtinsNs ∧ ob.data = .plain)
    (ha : s₁.heap.get? a = some { cls := .type "list", data := .seq vs.toArray }) (hi : IntsAre vs ns) (hl : ns.length ≤ sizeLine) (hr : Room k callerA)
    (F : ∀ base : Heap, K.In base → base.Ns mainGlobals mg → LamX.TabB base mg c Pt → FnTop P w K mg base k fa fd [x] sp3) (hbind : ∀ (s : Shared) (u : Value), BindsTo s fd ⟨[u], []⟩ [(x, u)])
    (hsp : ∀ H : Hp, H Pt = some (.tbl #[]) → SqL K H a (ns.map V.int) → spD K sp3 [.ref a] H (fun v _ => v = .bl true) E0) :
    codeAny (model P w) callerA (.call (.ref fa) ⟨[.ref a], []⟩) (fun r s' => r = .ok (.ret (.bool true)) ∧ OldK s₁.heap s'.heap ∧ s'.os = s₁.os ∧ AllBare s'.gens) s₁ := by
  have hne : a ≠ Pt := fun z => by
    rw [z, hT] at ha
    have z' : Data.fields #[] = Data.seq vs.toArray _ := congrArg Obj.data (Option.some.inj ha)
    cases z'
  obtain ⟨H, T⟩ := trk_ex (Pt := Pt) KX ha hne hi hl
  have rv := vals_ints hi
  have un : ∀ {b : Addr} {o : Obj}, s₁.heap.get? b = some o → (∀ v n, o.data ≠ .seq v n) → o.data ≠ .fields #[] → H b = none := fun {b o} e h1 h2 => by
    cases q : H b with
    | none => rfl
    | some u =>
      rcases T.only b u q with ⟨rfl, _⟩ | ⟨rfl, _⟩
      · rw [hT] at e; cases e; exact (h2 rfl).elim
      · rw [ha] at e; cases e; exact (h1 _ _ rfl).elim
  have old : ∀ {b : Addr} {o : Obj}, s₁.heap.get? b = some o → (∀ v n, o.data ≠ .seq v n) → o.data ≠ .fields #[] → (hidT s₁.heap H).get? b = some o := fun e h1 h2 => hidT_get e (un e h1 h2)
  have nsB : ∀ {b : Addr} {m : Str → Option Value}, s₁.heap.Ns b m → (hidT s₁.heap H).Ns b m := fun {b m} ⟨o, es, ep, e, d, r⟩ =>
    ⟨o, es, ep, old e (fun v n z => by rw [d] at z; cases z) (fun z => by rw [d] at z; cases z), d, r⟩
  have kB : K.In (hidT s₁.heap H) := fun b o e => hidT_get (KX b o e) (by
    cases q : H b with
    | none => rfl
    | some u =>
      rcases T.only b u q with ⟨rfl, _⟩ | ⟨rfl, hk, _⟩
      · rw [nT] at e; cases e
      · rw [hk] at e; cases e)
  have tb : LamX.TabB (hidT s₁.heap H) mg c Pt := by
    refine ⟨?_, ?_, fun z => ?_⟩
    · obtain ⟨o, us, file, tf, flags, tg, inF, text, tt, e1, r1, r2, r3, rest⟩ := C
      refine ⟨o, us, file, tf, flags, tg, inF, text, tt, old e1 (fun v n z => by rw [r2] at z; cases z) (fun z => ?_), r1, r2, r3, rest⟩
      rw [r2] at z
      cases z
      simp at r3
    · obtain ⟨bm, ob, b1, b2, b3, b4, b5, b6⟩ := hbm
      refine ⟨bm, ob, b1, b2, fun q => ?_, fun q => ?_, old b3 (fun v n z => by rw [b6] at z; cases z) (fun z => by rw [b6] at z; cases z), b4, b5, b6⟩
      · obtain ⟨o, es, ep, e, hd, _⟩ := hns
        rw [q, e] at b3; cases b3
        rw [hd] at b6; cases b6
      · rw [q, hT] at b3; cases b3
        cases b6
    · obtain ⟨o, es, ep, e, hd, _⟩ := hns
      rw [z, hT] at e; cases e
      cases hd
  have hok : HOk P w H s₁.heap := fun b u e => by
    rcases T.only b u e with ⟨rfl, rfl⟩ | ⟨rfl, _, rfl⟩
    · exact hT
    · exact ⟨ha, by rw [List.length_map]; exact hl, vs, _, rv, ha⟩
  have e0 : Env0 P w K mg (hidT s₁.heap H) callerA [] s₁ H := ⟨rfl, ⟨kB, nsB hns, ⟨mb, nsB hb, hbb⟩, let ⟨mc, h1, h2⟩ := hlim; ⟨mc, nsB h1, h2⟩⟩, fun b o e => of_hidT e, Nat.le_of_eq (hidT_size _ _), trivial, fun b hb => absurd (show b ∈ ([] : List Addr) from hb) (by simp), hok, .of_eq hg⟩
  refine codeAny_mono (F _ kB (nsB hns) tb s₁ H [.ref a] [.ref a] hr e0 (hbind s₁ (.ref a)) (.cons rfl .nil) (hsp H T.tab T.scr)) fun r s' h => ?_
  cases r with
  | error e => exact False.elim h
  | ok fl =>
    cases fl with
    | next => exact False.elim h
    | brk => exact False.elim h
    | cont => exact False.elim h
    | ret u =>
      obtain ⟨v, H', os, bare, un', hok', r', q⟩ := h
      have q' : v = .bl true := q
      subst q'
      obtain rfl : u = Value.bool true := r'
      obtain ⟨more, hm⟩ := un'.tbls Pt #[] T.tab
      have hmt : s'.heap.get? Pt = some { cls := .none, data := .fields (#[] ++ more) } := hok' Pt _ hm
      have key : ∀ b o, b ≠ Pt → s₁.heap.get? b = some o → s'.heap.get? b = some o := fun b o nb e => by
        cases z : H b with
        | none => exact un'.keep b o e z (by intro y; exact absurd (show b ∈ ([] : List Addr) from y) (by simp)) (by simp)
        | some u =>
          rcases T.only b u z with ⟨y, _⟩ | ⟨rfl, _, rfl⟩
          · exact absurd y nb
          · have z2 := un'.frzs b _ _ z
            obtain ⟨e1, _⟩ := hok b _ z
            obtain ⟨e2, _⟩ := hok' b _ z2
            rw [e] at e1; cases e1
            exact e2
      refine ⟨rfl, ⟨fun b o e => ?_, fun b o e => ?_⟩, os, bare⟩
      · by_cases hbP : b = Pt
        · subst hbP
          rw [hT] at e
          cases e
          exact .inr (.inl ⟨(C.tab hT).isCodeTable, rfl, #[], more, rfl, hmt⟩)
        · exact .inl (key b o hbP e)
      · by_cases hbP : b = Pt
        · subst hbP
          exact ⟨_, hmt⟩
        · exact ⟨o, key b o hbP e⟩
end
/-! ### the law -/
def nmBv : Nat → Nat → Str := fun _ _ => "law.<locals>.<lambda>"
def spLaw (Pt : Addr) : Sp3 := fun ds M Q => ∃ (ns : List Int) (ds0 : D), ds = [ds0] ∧ ScrD ns M ds0 ∧ M Pt = some (.tab nmBv) ∧ ∀ M', Q (.bl true) M'
def spFol (lab : Nat → D) (n B : Nat) (p L : Addr) (as : List Addr) (eds : Nat → List Nat) : Sp3 := fun ds M Q => ∃ x, x < n ∧ ds = [lab x] ∧ M L = some (.lst ((List.range n).map lab)) ∧ M p = some (.lst (as.map D.ref)) ∧ EdAt lab n n B M as eds ∧
  ∀ q M', M q = none → M' q = some (.lst ((eds x).map lab)) → Mle M M' → Q (.ref q) M'
def spWan (lab : Nat → D) (n : Nat) (g : Addr) (G : List Nat) : Sp3 := fun ds M Q => ∃ x, x < n ∧ ds = [lab x] ∧ M g = some (.lst (G.map lab)) ∧ (∀ y ∈ G, y < n) ∧ Q (.bl (decide (x ∈ G))) M
/-! the labels' texts are short -/
def chkS (F : Nat → D) : Bool := (List.range 61).all fun i => (F i).py.showable && !(F i).py.hasDict && decide ((F i).py.shown.length ≤ 60)
theorem chk_show : ([0, 1, 2, 3, 4, 5].all fun st => chkS (labF st)) = true := by decide +kernel
theorem lab_show {st i : Nat} (hs : st < 6) (hi : i < 61) : showB (labF st i).py 60 := by
  have h := chk_show
  simp only [List.all_cons, List.all_nil, Bool.and_true, Bool.and_eq_true] at h
  obtain ⟨h0, h1, h2, h3, h4, h5⟩ := h
  have go : ∀ F : Nat → D, chkS F = true → showB (F i).py 60 := fun F h => by
    unfold chkS at h
    rw [List.all_eq_true] at h
    have := h i (List.mem_range.mpr hi)
    simp only [Bool.and_eq_true, decide_eq_true_eq, Bool.not_eq_true'] at this
    exact ⟨this.1.1, this.1.2, this.2⟩
  have : st = 0 ∨ st = 1 ∨ st = 2 ∨ st = 3 ∨ st = 4 ∨ st = 5 := by omega
  rcases this with rfl | rfl | rfl | rfl | rfl | rfl
  · exact go _ h0
  · exact go _ h1
  · exact go _ h2
  · exact go _ h3
  · exact go _ h4
  · exact go _ h5
/-- the net as plain data -/
def netY (lab : Nat → D) (n : Nat) (eds : Nat → List Nat) (S : List Nat) : PyData :=
  .list [.list ((List.range n).map fun i => (lab i).py), .list ((List.range n).map fun i => .list ((eds i).map fun k => (lab k).py)), .list (S.map fun i => (lab i).py)]
theorem netY_snap {lab : Nat → D} {n : Nat} {M : Mp} {L p ps pg q : Addr} {as : List Addr} {eds : Nat → List Nat} {S G : List Nat} (N : NetAt lab n M L p ps pg as eds S G) (e : M q = some (.lst [.ref L, .ref p, .ref ps])) : Snap M (.ref q) (netY lab n eds S) := by
  have pu : ∀ i, i < n → (lab i).pure = true := fun i hi => by
    have := N.l.sh i hi
    unfold D.shn at this
    simp only [Bool.and_eq_true] at this
    exact this.1.1
  refine .lst e (.cons (.lst N.eL (Snaps.maps fun i hi => .pure (pu i (List.mem_range.mp hi)))) (.cons (.lst N.ep ?_) (.cons (.lst N.eS (Snaps.maps fun i hi => .pure (pu i (N.hS i hi)))) .nil)))
  have ea : as.map D.ref = (List.range n).map fun i => D.ref (as.getD i 0) := by
    refine List.ext_getElem? fun i => ?_
    rw [List.getElem?_map, List.getElem?_map]
    by_cases hi : i < n
    · rw [List.getElem?_range hi, List.getElem?_eq_getElem (by rw [N.ed.len]; exact hi)]
      simp [List.getD_eq_getElem?_getD, N.ed.len, hi]
    · rw [List.getElem?_eq_none (by rw [N.ed.len]; omega), List.getElem?_eq_none (by rw [List.length_range]; omega)]
      rfl
  rw [ea]
  refine Snaps.maps fun i hi => ?_
  have hi := List.mem_range.mp hi
  obtain ⟨z, hz, ez, _⟩ := N.edge hi
  have : as.getD i 0 = z := by rw [List.getD_eq_getElem?_getD, hz]; rfl
  rw [this]
  exact .lst ez (Snaps.maps fun k hk => .pure (pu k (N.lt i hi k hk)))
theorem netY_show {lab : Nat → D} {n : Nat} {M : Mp} {L p ps pg : Addr} {as : List Addr} {eds : Nat → List Nat} {S G : List Nat} (N : NetAt lab n M L p ps pg as eds S G) (hs : ∀ i, i < n → showB (lab i).py 60) : showB (netY lab n eds S) 10000000 := by
  have n61 := N.n61
  have one : ∀ l : List Nat, (∀ x ∈ l, x < n) → l.length ≤ 100 → showB (.list (l.map fun i => (lab i).py)) 6202 := fun l hl hlen => by
    have := showB.list (ys := l.map fun i => (lab i).py) (B := 60) fun y hy => by
      obtain ⟨x, hx, rfl⟩ := List.mem_map.mp hy
      exact hs x (hl x hx)
    refine this.mono ?_
    rw [List.length_map]
    omega
  have two : showB (.list ((List.range n).map fun i => .list ((eds i).map fun k => (lab k).py))) 378446 := by
    have := showB.list (ys := (List.range n).map fun i => .list ((eds i).map fun k => (lab k).py)) (B := 6202) fun y hy => by
      obtain ⟨x, hx, rfl⟩ := List.mem_map.mp hy
      have hx := List.mem_range.mp hx
      obtain ⟨z, hz, ez, hl⟩ := N.edge hx
      exact one _ (N.lt x hx) hl
    refine this.mono ?_
    rw [List.length_map, List.length_range]
    omega
  have hS := N.lS
  have := showB.list (ys := [.list ((List.range n).map fun i => (lab i).py), .list ((List.range n).map fun i => .list ((eds i).map fun k => (lab k).py)), .list (S.map fun i => (lab i).py)]) (B := 378446) fun y hy => by
    simp only [List.mem_cons, List.not_mem_nil, or_false] at hy
    rcases hy with rfl | rfl | rfl
    · exact (one (List.range n) (fun x hx => List.mem_range.mp hx) (by rw [List.length_range]; omega)).mono (by omega)
    · exact two
    · exact (one S N.hS (by omega)).mono (by omega)
  exact this.mono (by simp)
theorem netY_depth {lab : Nat → D} {n : Nat} {M : Mp} {L p ps pg : Addr} {as : List Addr} {eds : Nat → List Nat} {S G : List Nat} (N : NetAt lab n M L p ps pg as eds S G) : (netY lab n eds S).depth ≤ 60 := by
  have dl : ∀ i, i < n → (lab i).py.depth ≤ 8 := fun i hi => by
    have := N.l.sh i hi
    unfold D.shn at this
    simp only [Bool.and_eq_true, decide_eq_true_eq] at this
    exact this.2
  have one : ∀ l : List Nat, (∀ x ∈ l, x < n) → PyData.depthAll (l.map fun i => (lab i).py) ≤ 8 := fun l hl => depthAll_le _ fun y hy => by
    obtain ⟨x, hx, rfl⟩ := List.mem_map.mp hy
    exact dl x (hl x hx)
  have two : PyData.depthAll ((List.range n).map fun i => PyData.list ((eds i).map fun k => (lab k).py)) ≤ 9 := depthAll_le _ fun y hy => by
    obtain ⟨x, hx, rfl⟩ := List.mem_map.mp hy
    have := one (eds x) (N.lt x (List.mem_range.mp hx))
    simp only [PyData.depth]
    omega
  have h1 := one (List.range n) fun x hx => List.mem_range.mp hx
  have h3 := one S N.hS
  simp only [netY, PyData.depth, PyData.depthAll]
  omega
section
variable {P : Program} {w : World} {K : PySem.W.Frag} {mg : Str → Option Value} {base : Heap} {f : Addr} {fd : FuncData}
theorem ok_law {cT Pt : Addr} (TB : LamX.TabB base mg cT Pt) (hc : fd.code = .ref cT) (F : Fun K "law" "law" st_law f fd) (m_range : mg "range" = none) (m_list : mg "list" = none) (m_repr : mg "repr" = none)
    (C__law_pool : Callee P w K mg base "_law_pool" 1 ["_law_script"] spPool2) (C__law_net : Callee P w K mg base "_law_net" 3 ["_law_pool_here"] spNet) (C_shortest : CalleeF P w K mg base "shortest" 3 ["start", "following", "wanted"] (spShort 2))
    (C__law_rounds : Callee P w K mg base "_law_rounds" 1 ["_law_labels_here", "_law_edges_here", "_law_start", "_law_goals"] spRounds) (C__law_chain_holds : Callee P w K mg base "_law_chain_holds" 1 ["_law_found", "_law_labels_here", "_law_edges_here", "_law_start", "_law_goals", "_law_many"] spChain) :
    FnTop P w K mg base 56 f fd ["_law_script"] (spLaw Pt) := by
  refine fnTop F hc scope_law (fun ds M Q ⟨ns, _, e, _⟩ => by rw [e]; rfl) (fun A0 outer sh H E hGA hr ds M Q ⟨ns, d0, e, hsc, et, q⟩ => ?_)
  subst e
  have hr3 : Room 3 (cxOf CX0 P w K mg base nmN_law "law" (defScope st_law) f (.ref cT) A0 outer sh H E).nox.A := hr.mono (by omega)
  have hGX : (cxOf CX0 P w K mg base nmN_law "law" (defScope st_law) f (.ref cT) A0 outer sh H E).nox.A.guards = some [] := hGA
  refine ss_cons (s_asg 1 scope_law.nd (e_call C__law_pool (hr.mono (by omega)) (a_cons (e_var 0 rfl (a_nil ⟨ns, d0, rfl, hsc, fun a b M1 fa l1 hp1 => ?_⟩)))))
  have hna : Pt ≠ a := fun h => by rw [← h, et] at fa; cases fa
  refine ss_cons (s_asgG (e_call C__law_net (hr.mono (by omega)) (a_cons (e_var 1 rfl (a_nil ⟨a, b, rfl, hp1, fun st n L p ps pg as eds S G M2 hst n1 n61 eL ep ed eS eG hS hG lS lG hp2 k2 => ?_⟩)))))
  have et2 : M2 Pt = some (.tab nmBv) := k2.at hna (l1.at et)
  have hl := lab_all hst n61
  have hsh : ∀ i, i < n → showB (labF st i).py 60 := fun i hi => lab_show hst (by omega)
  generalize labF st = lab at *
  have N2 : NetAt lab n M2 L p ps pg as eds S G := ⟨hl, n1, n61, eL, ep, ed, eS, eG, hS, hG, lS, lG⟩
  clear eL ep ed eS eG
  refine g_tup rfl (gs_cons (g_name 2 scope_law.nd (gs_cons (g_name 3 scope_law.nd (gs_cons (g_name 4 scope_law.nd (gs_cons (g_name 5 scope_law.nd (gs_nil ?_)))))))))
  refine ss_cons (s_asg 6 scope_law.nd (e_repr hGX ⟨_, hr⟩ m_repr (a_cons (e_lst (a_cons (e_var 2 rfl (a_cons (e_var 3 rfl (a_cons (e_var 4 rfl (a_nil ⟨by show 3 ≤ sizeLine; decide, fun q3 M3 f3 e3 l3 => a_nil ⟨_, q3, netY lab n eds S, rfl, rfl, netY_snap (N2.le l3) e3, netY_show N2 hsh, netY_depth N2, ?_⟩⟩)))))))))))
  have N3 := N2.le l3
  refine ss_cons (s_asg 7 scope_law.nd (e_call C__law_rounds (hr.mono (by omega)) (a_cons (e_var 2 rfl (a_cons (e_var 3 rfl (a_cons (e_var 4 rfl (a_cons (e_var 5 rfl (a_nil ⟨L, p, ps, pg, lab, n, as, eds, S, G, rfl, N3, fun m M4 hm hm62 l4 => ?_⟩)))))))))))
  have N4 := N3.le l4
  have et4 := l4.at (l3.at et2)
  refine ss_cons (s_for PassesOwn.never (i_rng1 m_range (e_int ⟨by decide, by decide, ?_⟩)))
  refine ⟨fun i σ' M' => ∃ d8 d9 : Option D, σ' = [some d0, some (.ref a), some (.ref L), some (.ref p), some (.ref ps), some (.ref pg), some (.str (netY lab n eds S).shown), some (.int (m : Nat)), d8, d9] ∧ Mle M4 M', ⟨none, none, rfl, Mle.refl M4⟩, fun _ _ _ _ _ => trivial, ?_, ?_⟩
  · rintro i dd σ' M5 hd ⟨d8, d9, rfl, l5⟩
    refine g_name 8 scope_law.nd ?_
    have N5 := N4.le l5
    have et5 := l5.at et4
    refine ss_cut (fun σ' M' => ∃ (r : Option (List Nat)) (d9 : D), σ' = [some d0, some (.ref a), some (.ref L), some (.ref p), some (.ref ps), some (.ref pg), some (.str (netY lab n eds S).shown), some (.int (m : Nat)), some dd, some d9] ∧ Srch (fun x => decide (x ∈ G)) S eds r ∧ (∀ l, r = some l → l.length ≤ n) ∧ Res lab r d9 M' ∧ Mle M4 M') (s_asg 9 scope_law.nd ?_) ?_
    · refine e_callF C_shortest hr3 (a_cons (e_var 4 rfl ?_))
      refine a_cons (e_lam TB rfl et5 rfl rfl (NdefX.ndef_free (sc := defScope st_law) (fr := ["_law_edges_here", "_law_labels_here"]) (by decide +kernel)) fun f1 c1 M6 h1 a1 b1 l6 => ?_)
      refine a_cons (e_lam TB rfl (l6.at et5) rfl rfl (NdefX.ndef_free (sc := defScope st_law) (fr := ["_law_goals"]) (by decide +kernel)) fun f2 c2 M7 h2 a2 b2 l7 => a_nil ?_)
      have l57 : Mle M5 M7 := l6.trans l7
      have N7 := N5.le l57
      refine ⟨[LmS.of 2 ["_law_edges_here", "_law_labels_here"] [p, L] (spFol lab n 100 p L as eds) a1, LmS.of 2 ["_law_goals"] [pg] (spWan lab n pg G) a2], fun Ls hLs => ?_, ?_⟩
      · simp only [List.mem_cons, List.not_mem_nil, or_false] at hLs
        rcases hLs with rfl | rfl
        · refine lam_use (k := 1) (ps := ["_law_node"]) (N := ["_law_node", "_law_edges_here", "_law_labels_here"]) (js := [3, 2]) a1 (NdefX.nscope_by (by decide +kernel)) (fun pm ctv us hu => match us, hu with | [_], _ => rfl) (fun ds M Q ⟨_, _, e, _⟩ => by rw [e]; rfl) (fun A1 o1 s1 H1 hr1 ds M Q ⟨x, hx, e, eL, ep, ed, q⟩ => ?_) (NdefX.ndef_free (sc := defScope st_law) (fr := ["_law_edges_here", "_law_labels_here"]) (by decide +kernel)) (NdefX.ndef_fr (sc := defScope st_law) (by decide +kernel)) rfl rfl
          subst e
          obtain ⟨z, hz⟩ : ∃ z, as[x]? = some z := ⟨_, List.getElem?_eq_getElem (by rw [ed.len]; exact hx)⟩
          exact e_listc m_list (a_cons (e_ix (e_var 1 rfl (e_indexDp ⟨_, hr1⟩ (e_var 2 rfl ⟨⟨_, eL⟩, a_cons (e_var 0 rfl (a_nil (hl.index eL hx ⟨_, _, ep, atI_map_nat hz, a_nil ⟨_, (ed.at_ x z hz).1, fun q2 M8 g2 e8 l8 => Wk.here (q q2 M8 g2 e8 l8)⟩⟩)))⟩)))))
        · refine lam_use (k := 1) (ps := ["_law_other"]) (N := ["_law_other", "_law_goals"]) (js := [5]) a2 (NdefX.nscope_by (by decide +kernel)) (fun pm ctv us hu => match us, hu with | [_], _ => rfl) (fun ds M Q ⟨_, _, e, _⟩ => by rw [e]; rfl) (fun A1 o1 s1 H1 hr1 ds M Q ⟨x, hx, e, eG, hG, q⟩ => ?_) (NdefX.ndef_free (sc := defScope st_law) (fr := ["_law_goals"]) (by decide +kernel)) (NdefX.ndef_fr (sc := defScope st_law) (by decide +kernel)) rfl rfl
          subst e
          refine e_inDp ⟨_, hr1⟩ (e_var 0 rfl (e_var 1 rfl ⟨_, eG, hl.shp hx, hl.shl hG, ?_⟩))
          rw [if_neg Bool.false_ne_true, hl.inD hG hx]
          exact Wk.here q
      · refine ⟨ps, _, _, lab, n, S, eds, fun x => decide (x ∈ G), rfl, List.mem_cons_self, List.mem_cons_of_mem _ List.mem_cons_self, Nat.le_refl _, Nat.le_refl _, ⟨l7.at a1, l7.at b1⟩, ⟨a2, b2⟩, N7.eS, hl.l, hS, N7.lt, ?_, ?_, ?_, ?_⟩
        · exact fun x hx M8 Q8 l8 q8 => let N8 := N7.le l8; ⟨x, hx, rfl, N8.eL, N8.ep, N8.ed, q8⟩
        · exact fun x hx M8 Q8 l8 q8 => ⟨x, hx, rfl, (N7.le l8).eG, hG, q8 M8 (Mle.refl _)⟩
        · exact fun M8 hs l8 => ⟨none, _, rfl, hs, (fun _ h => nomatch h), rfl, (l5.trans l57).trans l8⟩
        · exact fun q2 l M8 hs hle g8 e8 l8 => ⟨some l, _, rfl, hs, fun _ h => by cases h; exact hle, ⟨q2, rfl, e8, by omega⟩, (l5.trans l57).trans l8⟩
    · rintro σ6 M6 ⟨r, d9', rfl, hs, hle, res, l6⟩
      have N6 := N4.le l6
      have hmr := rnd_srch (fun x => decide_eq_true_iff) hs hle hm
      refine ss_one (s_if (t_not (t_truth (e_call C__law_chain_holds (hr.mono (by omega)) (a_cons (e_var 9 rfl (a_cons (e_var 2 rfl (a_cons (e_var 3 rfl (a_cons (e_var 4 rfl (a_cons (e_var 5 rfl (a_cons (e_var 7 rfl (a_nil ⟨_, L, p, ps, pg, lab, n, as, eds, S, G, r, m, _, rfl, N6, res, hs, fun x => decide_eq_true_iff, hmr, fun M7 l7 => ?_⟩)))))))))))))))))
      exact BQ.f (ss_nil ⟨_, _, rfl, l6.trans l7⟩)
  · rintro σ' M5 ⟨d8, d9, rfl, l5⟩
    have N5 := N4.le l5
    refine ss_one (s_ret (e_eq ⟨_, hr⟩ (e_repr hGX ⟨_, hr⟩ m_repr (a_cons (e_lst (a_cons (e_var 2 rfl (a_cons (e_var 3 rfl (a_cons (e_var 4 rfl (a_nil ⟨by show 3 ≤ sizeLine; decide, fun q3 M6 f6 e6 l6 => a_nil ⟨_, q3, netY lab n eds S, rfl, rfl, netY_snap (N5.le l6) e6, netY_show N5 hsh, netY_depth N5, e_var 6 rfl ⟨trivial, ?_⟩⟩⟩))))))))))))
    rw [eqv_str, decide_eq_true rfl]
    exact Wk.here (q _)
end
end My
set_option maxHeartbeats 4000000
namespace My
open PySem L2 DL
theorem exm_of {K : PySem.W.Frag} {S T : Addr} {b : Bool} (h1 : PySem.W.subIn K (.ref T) (.type "BaseException") = some true) (h2 : PySem.W.isClsIn K T = true) (h3 : PySem.W.typeIn K (.ref T) = some (.type "type")) (h4 : PySem.W.subIn K (.ref S) (.ref T) = some b) :
    PySem.W.exmOne K (.ref S) (.ref T) = some b := by
  have e1 : (PySem.W.subIn K (.ref T) (.type "BaseException") == some true) = true := by rw [h1] <;> rfl
  have e2 : ((PySem.W.clsIn K T).isSome && PySem.W.typeIn K (.ref T) == some (.type "type")) = true := by
    have h2' : (PySem.W.clsIn K T).isSome = true := h2
    rw [h2', h3] <;> rfl
  show (if (PySem.W.subIn K (.ref T) (.type "BaseException") == some true) = true then (if ((PySem.W.clsIn K T).isSome && PySem.W.typeIn K (.ref T) == some (.type "type")) = true then PySem.W.subIn K (.ref S) (.ref T) else none) else none) = some b
  rw [if_pos e1, if_pos e2]
  exact h4
theorem kcl_of {K : PySem.W.Frag} {S T : Addr} {b : Bool} (h2 : PySem.W.isClsIn K T = true) (h3 : PySem.W.typeIn K (.ref T) = some (.type "type")) (h4 : PySem.W.subIn K (.ref S) (.ref T) = some b) : PySem.W.kitCls K (.ref S) (.ref T) = some b := by
  have e2 : ((PySem.W.clsIn K T).isSome && PySem.W.typeIn K (.ref T) == some (.type "type")) = true := by
    have h2' : (PySem.W.clsIn K T).isSome = true := h2
    rw [h2', h3] <;> rfl
  show (if ((PySem.W.clsIn K T).isSome && PySem.W.typeIn K (.ref T) == some (.type "type")) = true then PySem.W.subIn K (.ref S) (.ref T) else none) = some b
  rw [if_pos e2]
  exact h4
theorem kit_yes {K : PySem.W.Frag} {S T : Addr} (h2 : PySem.W.isClsIn K T = true) (h3 : PySem.W.typeIn K (.ref T) = some (.type "type")) (h4 : PySem.W.subIn K (.ref S) (.ref T) = some true) : PySem.W.kitOne K (.ref S) (.ref T) = some true := by
  unfold PySem.W.kitOne
  split
  · rfl
  · exact kcl_of h2 h3 h4
theorem kit_no {K : PySem.W.Frag} {S T : Addr} (h2 : PySem.W.isClsIn K T = true) (h3 : PySem.W.typeIn K (.ref T) = some (.type "type")) (hs : PySem.W.subIn K (.ref S) (.ref S) = some true) (h4 : PySem.W.subIn K (.ref S) (.ref T) = some false) : PySem.W.kitOne K (.ref S) (.ref T) = some false := by
  have hne : S ≠ T := by
    rintro rfl
    rw [hs] at h4
    cases h4
  unfold PySem.W.kitOne
  rw [if_neg (by simpa using hne)]
  exact kcl_of h2 h3 h4
theorem kit_val {K : PySem.W.Frag} {S : Addr} (h : PySem.W.subIn K (.ref S) (.type "ValueError") = some true) : PySem.W.kitOne K (.ref S) (.type "ValueError") = some true := by
  unfold PySem.W.kitOne
  rw [if_neg (by simp)]
  show (if PySem.W.kitMeta "ValueError" = true then PySem.W.subIn K (.ref S) (.type "ValueError") else none) = some true
  rw [if_pos (by decide +kernel)]
  exact h
theorem all_mk {cT PT : Addr} {w : World} {K : PySem.W.Frag} {h : Heap} {mg : Str → Option Value} {fa f1 f2 f3 f4 f5 f6 f7 f8 f9 f10 f11 : Addr} (X : K.In h) (G : h.Ns mainGlobals mg) (hfa : mg "law" = some (.ref fa))
    {od1 an1 od2 an2 od3 an3 od4 an4 od5 an5 od6 an6 od7 an7 od8 an8 od9 an9 od10 an10 od11 an11 : Option Addr} {sl1 sl2 sl3 sl4 sl5 sl6 sl7 sl8 sl9 sl10 sl11 : Array (Option Value)} {oc1 kV1 dc1 pm1 cd1 ct1 oc2 kV2 dc2 pm2 cd2 ct2 oc3 kV3 dc3 pm3 cd3 ct3 oc4 kV4 dc4 pm4 cd4 ct4 oc5 kV5 dc5 pm5 cd5 ct5 oc6 kV6 dc6 pm6 cd6 ct6 oc7 kV7 dc7 pm7 cd7 ct7 oc8 kV8 dc8 pm8 cd8 ct8 oc9 kV9 dc9 pm9 cd9 ct9 oc10 kV10 dc10 pm10 cd10 ct10 oc11 kV11 dc11 pm11 cd11 ct11 : Value}
    (a1 : PySem.W.nsIn K mainGlobals "shortest" = some (some (.ref f1))) (l1 : K.lookup f1 = some ⟨oc1, od1, .func (PySem.W.fnOf "shortest" "shortest" (defArgs st_shortest) (defBody st_shortest) (defScope st_shortest) .none kV1 dc1 pm1 an1 cd1 ct1), sl1⟩) (c1 : PySem.W.codeIn K cd1 "shortest" = true) (k1 : PySem.W.keepIn K (.ref f1) = true)
    (a2 : PySem.W.nsIn K mainGlobals "trace" = some (some (.ref f2))) (l2 : K.lookup f2 = some ⟨oc2, od2, .func (PySem.W.fnOf "trace" "trace" (defArgs st_trace) (defBody st_trace) (defScope st_trace) .none kV2 dc2 pm2 an2 cd2 ct2), sl2⟩) (c2 : PySem.W.codeIn K cd2 "trace" = true) (k2 : PySem.W.keepIn K (.ref f2) = true)
    (a3 : PySem.W.nsIn K mainGlobals "_law_pool" = some (some (.ref f3))) (l3 : K.lookup f3 = some ⟨oc3, od3, .func (PySem.W.fnOf "_law_pool" "_law_pool" (defArgs st__law_pool) (defBody st__law_pool) (defScope st__law_pool) .none kV3 dc3 pm3 an3 cd3 ct3), sl3⟩) (c3 : PySem.W.codeIn K cd3 "_law_pool" = true) (k3 : PySem.W.keepIn K (.ref f3) = true)
    (a4 : PySem.W.nsIn K mainGlobals "_law_draw" = some (some (.ref f4))) (l4 : K.lookup f4 = some ⟨oc4, od4, .func (PySem.W.fnOf "_law_draw" "_law_draw" (defArgs st__law_draw) (defBody st__law_draw) (defScope st__law_draw) .none kV4 dc4 pm4 an4 cd4 ct4), sl4⟩) (c4 : PySem.W.codeIn K cd4 "_law_draw" = true) (k4 : PySem.W.keepIn K (.ref f4) = true)
    (a5 : PySem.W.nsIn K mainGlobals "_law_pick" = some (some (.ref f5))) (l5 : K.lookup f5 = some ⟨oc5, od5, .func (PySem.W.fnOf "_law_pick" "_law_pick" (defArgs st__law_pick) (defBody st__law_pick) (defScope st__law_pick) .none kV5 dc5 pm5 an5 cd5 ct5), sl5⟩) (c5 : PySem.W.codeIn K cd5 "_law_pick" = true) (k5 : PySem.W.keepIn K (.ref f5) = true)
    (a6 : PySem.W.nsIn K mainGlobals "_law_labels" = some (some (.ref f6))) (l6 : K.lookup f6 = some ⟨oc6, od6, .func (PySem.W.fnOf "_law_labels" "_law_labels" (defArgs st__law_labels) (defBody st__law_labels) (defScope st__law_labels) .none kV6 dc6 pm6 an6 cd6 ct6), sl6⟩) (c6 : PySem.W.codeIn K cd6 "_law_labels" = true) (k6 : PySem.W.keepIn K (.ref f6) = true)
    (a7 : PySem.W.nsIn K mainGlobals "_law_edges" = some (some (.ref f7))) (l7 : K.lookup f7 = some ⟨oc7, od7, .func (PySem.W.fnOf "_law_edges" "_law_edges" (defArgs st__law_edges) (defBody st__law_edges) (defScope st__law_edges) .none kV7 dc7 pm7 an7 cd7 ct7), sl7⟩) (c7 : PySem.W.codeIn K cd7 "_law_edges" = true) (k7 : PySem.W.keepIn K (.ref f7) = true)
    (a8 : PySem.W.nsIn K mainGlobals "_law_net" = some (some (.ref f8))) (l8 : K.lookup f8 = some ⟨oc8, od8, .func (PySem.W.fnOf "_law_net" "_law_net" (defArgs st__law_net) (defBody st__law_net) (defScope st__law_net) .none kV8 dc8 pm8 an8 cd8 ct8), sl8⟩) (c8 : PySem.W.codeIn K cd8 "_law_net" = true) (k8 : PySem.W.keepIn K (.ref f8) = true)
    (a9 : PySem.W.nsIn K mainGlobals "_law_rounds" = some (some (.ref f9))) (l9 : K.lookup f9 = some ⟨oc9, od9, .func (PySem.W.fnOf "_law_rounds" "_law_rounds" (defArgs st__law_rounds) (defBody st__law_rounds) (defScope st__law_rounds) .none kV9 dc9 pm9 an9 cd9 ct9), sl9⟩) (c9 : PySem.W.codeIn K cd9 "_law_rounds" = true) (k9 : PySem.W.keepIn K (.ref f9) = true)
    (a10 : PySem.W.nsIn K mainGlobals "_law_chain_holds" = some (some (.ref f10))) (l10 : K.lookup f10 = some ⟨oc10, od10, .func (PySem.W.fnOf "_law_chain_holds" "_law_chain_holds" (defArgs st__law_chain_holds) (defBody st__law_chain_holds) (defScope st__law_chain_holds) .none kV10 dc10 pm10 an10 cd10 ct10), sl10⟩) (c10 : PySem.W.codeIn K cd10 "_law_chain_holds" = true) (k10 : PySem.W.keepIn K (.ref f10) = true)
    (a11 : PySem.W.nsIn K mainGlobals "law" = some (some (.ref f11))) (l11 : K.lookup f11 = some ⟨oc11, od11, .func (PySem.W.fnOf "law" "law" (defArgs st_law) (defBody st_law) (defScope st_law) .none kV11 dc11 pm11 an11 cd11 ct11), sl11⟩) (c11 : PySem.W.codeIn K cd11 "law" = true) (k11 : PySem.W.keepIn K (.ref f11) = true)
    (z_abs : PySem.W.nsIn K mainGlobals "abs" = some none)
    (z_int : PySem.W.nsIn K mainGlobals "int" = some none)
    (z_isinstance : PySem.W.nsIn K mainGlobals "isinstance" = some none)
    (z_len : PySem.W.nsIn K mainGlobals "len" = some none)
    (z_list : PySem.W.nsIn K mainGlobals "list" = some none)
    (z_range : PySem.W.nsIn K mainGlobals "range" = some none)
    (z_repr : PySem.W.nsIn K mainGlobals "repr" = some none)
    (z_str : PySem.W.nsIn K mainGlobals "str" = some none)
    (ce : cd11 = .ref cT) (tg : h.get? PT = some { cls := .none, data := .fields #[] }) (tn : K.lookup PT = none) (tc : PySem.W.CodeHd h cT PT)
    : ∃ (cT PT : Addr) (fd : FuncData), h.get? PT = some { cls := .none, data := .fields #[] } ∧ K.lookup PT = none ∧ PySem.W.CodeHd h cT PT ∧ (∀ (s : Shared) (v : Value), BindsTo s fd ⟨[v], []⟩ [("_law_script", v)]) ∧ ∀ base : Heap, K.In base → base.Ns mainGlobals mg → LamX.TabB base mg cT PT → FnTop lw.prog w K mg base 56 fa fd ["_law_script"] (spLaw PT) := by
  have e := hfa.symm.trans (PySem.W.mg_of X G a11)
  cases e
  have F1 := fun_mk (st := st_shortest) l1 c1 k1
  have b1 := F1.binds (ps := ["start", "following", "wanted"]) fun _ _ _ _ _ _ us hl => match us, hl with | [_, _, _], _ => rfl
  have F2 := fun_mk (st := st_trace) l2 c2 k2
  have b2 := F2.binds (ps := ["nodes", "before", "at"]) fun _ _ _ _ _ _ us hl => match us, hl with | [_, _, _], _ => rfl
  have F3 := fun_mk (st := st__law_pool) l3 c3 k3
  have b3 := F3.binds (ps := ["_law_script"]) fun _ _ _ _ _ _ us hl => match us, hl with | [_], _ => rfl
  have F4 := fun_mk (st := st__law_draw) l4 c4 k4
  have b4 := F4.binds (ps := ["_law_pool_here", "_law_many"]) fun _ _ _ _ _ _ us hl => match us, hl with | [_, _], _ => rfl
  have F5 := fun_mk (st := st__law_pick) l5 c5 k5
  have b5 := F5.binds (ps := ["_law_pool_here", "_law_rows"]) fun _ _ _ _ _ _ us hl => match us, hl with | [_, _], _ => rfl
  have F6 := fun_mk (st := st__law_labels) l6 c6 k6
  have b6 := F6.binds (ps := ["_law_pool_here", "_law_many"]) fun _ _ _ _ _ _ us hl => match us, hl with | [_, _], _ => rfl
  have F7 := fun_mk (st := st__law_edges) l7 c7 k7
  have b7 := F7.binds (ps := ["_law_pool_here", "_law_labels_here", "_law_dense"]) fun _ _ _ _ _ _ us hl => match us, hl with | [_, _, _], _ => rfl
  have F8 := fun_mk (st := st__law_net) l8 c8 k8
  have b8 := F8.binds (ps := ["_law_pool_here"]) fun _ _ _ _ _ _ us hl => match us, hl with | [_], _ => rfl
  have F9 := fun_mk (st := st__law_rounds) l9 c9 k9
  have b9 := F9.binds (ps := ["_law_labels_here", "_law_edges_here", "_law_start", "_law_goals"]) fun _ _ _ _ _ _ us hl => match us, hl with | [_, _, _, _], _ => rfl
  have F10 := fun_mk (st := st__law_chain_holds) l10 c10 k10
  have b10 := F10.binds (ps := ["_law_found", "_law_labels_here", "_law_edges_here", "_law_start", "_law_goals", "_law_many"]) fun _ _ _ _ _ _ us hl => match us, hl with | [_, _, _, _, _, _], _ => rfl
  have F11 := fun_mk (st := st_law) l11 c11 k11
  have b11 := F11.binds (ps := ["_law_script"]) fun _ _ _ _ _ _ us hl => match us, hl with | [_], _ => rfl
  have m_abs := PySem.W.mg_none_of X G z_abs
  have m_int := PySem.W.mg_none_of X G z_int
  have m_isinstance := PySem.W.mg_none_of X G z_isinstance
  have m_len := PySem.W.mg_none_of X G z_len
  have m_list := PySem.W.mg_none_of X G z_list
  have m_range := PySem.W.mg_none_of X G z_range
  have m_repr := PySem.W.mg_none_of X G z_repr
  have m_str := PySem.W.mg_none_of X G z_str
  refine ⟨cT, PT, PySem.W.fnOf "law" "law" (defArgs st_law) (defBody st_law) (defScope st_law) .none kV11 dc11 pm11 an11 cd11 ct11, tg, tn, tc, fun s v => .of_eq rfl, fun base _ _ TBbv => ?_⟩
  have g1 := PySem.W.mg_of X G a1
  have g2 := PySem.W.mg_of X G a2
  have g3 := PySem.W.mg_of X G a3
  have g4 := PySem.W.mg_of X G a4
  have g5 := PySem.W.mg_of X G a5
  have g6 := PySem.W.mg_of X G a6
  have g7 := PySem.W.mg_of X G a7
  have g8 := PySem.W.mg_of X G a8
  have g9 := PySem.W.mg_of X G a9
  have g10 := PySem.W.mg_of X G a10
  have g11 := PySem.W.mg_of X G a11
  have C__law_draw := ok_draw (P := lw.prog) (w := w) (mg := mg) (base := base) F4 b4 g4 m_len m_int m_abs
  have C__law_pick := ok_gpick (P := lw.prog) (w := w) (mg := mg) (base := base) F5 b5 g5 m_len C__law_draw
  have C__law_pool := ok_pool2 (P := lw.prog) (w := w) (mg := mg) (base := base) F3 b3 g3 m_list
  have C_trace := ok_trace (P := lw.prog) (w := w) (mg := mg) (base := base) F2 b2 g2
  have C_shortest := ok_shortest (P := lw.prog) (w := w) (mg := mg) (base := base) F1 b1 g1 m_len C_trace (show 1 ≤ 2 by decide)
  have C__law_labels := ok_labels (P := lw.prog) (w := w) (mg := mg) (base := base) F6 b6 g6 m_range m_str C__law_draw
  have C__law_edges := ok_edges (P := lw.prog) (w := w) (mg := mg) (base := base) F7 b7 g7 m_range m_len C__law_draw
  have C__law_net := ok_net (P := lw.prog) (w := w) (mg := mg) (base := base) F8 b8 g8 m_range C__law_draw C__law_pick C__law_labels C__law_edges
  have C__law_rounds := ok_rounds (P := lw.prog) (w := w) (mg := mg) (base := base) F9 b9 g9 m_len m_range m_list
  have C__law_chain_holds := ok_chain (P := lw.prog) (w := w) (mg := mg) (base := base) F10 b10 g10 m_len m_range m_list m_isinstance
  exact ok_law TBbv (by exact ce) F11 m_range m_list m_repr C__law_pool C__law_net C_shortest C__law_rounds C__law_chain_holds
theorem walk {l : PySem.W.OpenLaw} {q : Program} {loose : List Str} {XP : (Str → Option Value) → Heap → Prop} {YP : World → Heap → Prop} {d : DefRec} {K : Params → PySem.W.Frag} (hn : l.most = some 63) (hdf : d.params.defaults = [])
    (hY : ∀ (w : World) (h : Heap), YP w h → (K w.params).In h)
    (F : ∀ (w : World) (mg : Str → Option Value) (fa : Addr) (h : Heap), YP w h → (K w.params).In h → h.Ns mainGlobals mg → mg d.name = some (.ref fa) →
      ∃ (cT PT : Addr) (fd : FuncData), h.get? PT = some { cls := .none, data := .fields #[] } ∧ (K w.params).lookup PT = none ∧ PySem.W.CodeHd h cT PT ∧ (∀ (s : Shared) (u : Value), BindsTo s fd ⟨[u], []⟩ [("_law_script", u)]) ∧
        ∀ base : Heap, (K w.params).In base → base.Ns mainGlobals mg → LamX.TabB base mg cT PT → FnTop l.prog w (K w.params) mg base 56 fa fd ["_law_script"] (spLaw PT)) :
    PySem.W.WalkO q loose XP YP l.row.toRowW d [] (fun f vs => PySem.call f vs) := by
  refine Att.attach_callB hn hdf fun w s₀ s₁ mg mb fa o pm cd doc a vs ns G Y ho hd hcd hmg hobj hints hlen hbits hg => ?_
  have KX := hY w _ Y
  obtain ⟨c, Pt, fd, e1, e2, e3, e4, e5⟩ := F w mg fa _ Y KX G.T.g hmg
  exact top_call KX G.T.g G.T.b G.T.builtins G.T.nolimit hg e1 e2 e3 G.T.bmain hobj hints (Nat.le_trans hlen (by decide)) ⟨rfl, by decide, by decide⟩ e5 e4 (fun H hT hS => law_sp2 nmBv hT hS fun d M Q hd et q => ⟨ns, d, rfl, hd, et, q⟩)
abbrev RR (w : World) (mg : Str → Option Value) (fa : Addr) (h : Heap) (K : PySem.W.Frag) : Prop := ∃ (cT PT : Addr) (fd : FuncData), h.get? PT = some { cls := .none, data := .fields #[] } ∧ K.lookup PT = none ∧ PySem.W.CodeHd h cT PT ∧ (∀ (s : Shared) (v : Value), BindsTo s fd ⟨[v], []⟩ [("_law_script", v)]) ∧ ∀ base : Heap, K.In base → base.Ns mainGlobals mg → LamX.TabB base mg cT PT → FnTop lw.prog w K mg base 56 fa fd ["_law_script"] (spLaw PT)
end My
theorem PySem.Challenge.cw_lendback_k45_shortest_lists_holds : PySem.Challenge.rw_lendback_k45_shortest_lists.Holds :=
  My.pre My.RR @My.all_mk (fun hdf hY F => My.walk (l := My.lw) rfl hdf hY F)
#print axioms PySem.Challenge.cw_lendback_k45_shortest_lists_holds
