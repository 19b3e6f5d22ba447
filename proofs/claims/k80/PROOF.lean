import PyProof.Rows.All
import Wide.All
import OpenK.AllK
import Wide.FinOn
import HandS.ForMost
import HandS.ForExc
import HandS.Walk
import HandS.ExcInit
import HandS.IsInst
import KE.DataEq
import HandS.TupAny
import HandS.TupMul
import HandS.NoneIn
import HandS.Zip
import HandS.WordsDict
import HandS.ExcCtx
import HandS.WordsExc
import HandS.ExcOwn
import HandS.ExcField
import HandS.TryMany
import HandS.ExcInitHot
import HandS.HotCalls
import HandS.SortInts
import KE.GoesEnum
import HandS.RevRange
import KE.DatumOrd
import HandS.SortKw
import KE.KDictZip
import KE.KItemsList
import HandS.ListItems
import HandS.SetFor
import HandS.Strs
import HandS.Call
import HandS.ExcIs
import KE.KExcIs
import KE.BitLaws
import PySem.Challenge.RW_coinreaders_k80_whole_paths_forged
set_option Elab.async false
set_option linter.all false
set_option maxRecDepth 100000
set_option maxHeartbeats 4000000
/-! DL: data in the place of the heap. D: values as data; Sl: what a slot holds; Rel: slots, heap and data agree; the readings rdE, rdT, rdA, rdS, .. of plain functions over data. -/
namespace DL
open PySem PySem.Spec L2
open PyProof.Rows hiding St

inductive D where
  | non
  | bl (b : Bool)
  | int (i : Int)
  | str (x : Str)
  | ty (n : String)
  | cl (c : Str)
  | tup (l : List D)
  | lst (l : List D)
  | frl (l : List D)
  | dct (ks : List Key) (vs : List D)
  | obj (c : Str) (ns : List Str) (vs : List D)
  | exc (c : Str) (ns : List Str) (vs : List D)

/-- what a mutable thing of one's own holds -/
inductive Ob where
  | lst (l : List D)
  | dk (ks : List Key) (vs : List D)
  | dt (ks : List (List Key)) (vs : List D)

inductive Sl where
  | no
  | val (d : D)
  | exn (a dx : Addr) (c : Str) (ns : List Str) (vs : List D)
  | own (c : Ob)
  | io (k : Nat) (c : Ob)

def KTup (K : PySem.W.Frag) (a : Addr) (xs : List V) : Prop :=
  ∃ (o : Obj) (its : Array Value) (n : Nat), K.lookup a = some o ∧ o.cls = .type "tuple" ∧ o.data = .seq its n ∧ its.size ≤ sizeLine ∧ Vals xs its.toList
def KLst (K : PySem.W.Frag) (a : Addr) (xs : List V) : Prop :=
  ∃ (o : Obj) (its : Array Value) (n : Nat), K.lookup a = some o ∧ o.cls = .type "list" ∧ o.dict = none ∧ o.data = .seq its n ∧ its.size ≤ sizeLine ∧ Vals xs its.toList
abbrev AP := Addr → Prop
def TupA (K : PySem.W.Frag) (A : AP) (H : Hp) (a : Addr) (xs : List V) : Prop := (Rd H a (.tup xs) ∧ ¬ A a) ∨ KTup K a xs
def LstA (A : AP) (H : Hp) (a : Addr) (xs : List V) : Prop := H a = some (.lst xs) ∧ ¬ A a
def FrlA (K : PySem.W.Frag) (A : AP) (H : Hp) (a : Addr) (xs : List V) : Prop := (Rd H a (.lst xs) ∧ ¬ A a) ∨ KLst K a xs
theorem TupA.sq {K : PySem.W.Frag} {A : AP} {H : Hp} {a : Addr} {xs : List V} (h : TupA K A H a xs) : SqT K H a xs := h.elim (fun z => .inl z.1) .inr
theorem LstA.sq {K : PySem.W.Frag} {A : AP} {H : Hp} {a : Addr} {xs : List V} (h : LstA A H a xs) : SqL K H a xs := .inl (.inl h.1)
theorem FrlA.sq {K : PySem.W.Frag} {A : AP} {H : Hp} {a : Addr} {xs : List V} (h : FrlA K A H a xs) : SqL K H a xs := h.elim (fun z => .inl z.1) .inr

mutual
def Rep (K : PySem.W.Frag) (mg : Str → Option Value) (A : AP) (H : Hp) : D → V → Prop
  | .non, v => v = .non
  | .bl b, v => v = .bl b
  | .int i, v => v = .int i
  | .str x, v => v = .str x
  | .ty n, v => v = .ty n
  | .cl c, v => ∃ C, mg c = some (.ref C) ∧ v = .ref C
  | .tup l, v => ∃ a xs, v = .ref a ∧ TupA K A H a xs ∧ RepL K mg A H l xs
  | .lst l, v => ∃ a xs, v = .ref a ∧ LstA A H a xs ∧ RepL K mg A H l xs
  | .frl l, v => ∃ a xs, v = .ref a ∧ FrlA K A H a xs ∧ RepL K mg A H l xs
  | .dct ks vs, v => ∃ a xs, v = .ref a ∧ ¬ A a ∧ Rd H a (.dK (ks.zip xs)) ∧ ks.length = vs.length ∧ RepL K mg A H vs xs
  | .obj c ns vs, v => ∃ a C dx xs, v = .ref a ∧ ¬ A a ∧ H a = some (.ins C dx (ns.zip xs)) ∧ mg c = some (.ref C) ∧ ns.length = vs.length ∧ RepL K mg A H vs xs
  | .exc c ns vs, v => ∃ a C d oe u xs, v = .ref a ∧ ¬ A a ∧ ¬ A d ∧ H a = some (.frz oe u) ∧ Zc (.ref C) (some d) oe ∧ (∃ fv, oe.data = .fields fv ∧ ∀ kvs, u ≠ .dK kvs) ∧ H d = some (.xd (ns.zip xs)) ∧ mg c = some (.ref C) ∧ ns.length = vs.length ∧ RepL K mg A H vs xs
def RepL (K : PySem.W.Frag) (mg : Str → Option Value) (A : AP) (H : Hp) : List D → List V → Prop
  | [], xs => xs = []
  | d :: ds, xs => ∃ x r, xs = x :: r ∧ Rep K mg A H d x ∧ RepL K mg A H ds r
end

/-- what is not in A stays, and stays out of A' -/
def Mv (A : AP) (H : Hp) (A' : AP) (H' : Hp) : Prop := ∀ a o, ¬ A a → H a = some o → ¬ A' a ∧ H' a = some o
section
variable {K : PySem.W.Frag} {mg : Str → Option Value} {A A' A2 : AP} {H H' H2 : Hp}
theorem Mv.refl : Mv A H A H := fun _ _ h e => ⟨h, e⟩
theorem Mv.trans (a : Mv A H A' H') (b : Mv A' H' A2 H2) : Mv A H A2 H2 := fun x o h e => let ⟨h1, e1⟩ := a x o h e; b x o h1 e1
theorem rd_mv (m : Mv A H A' H') {a : Addr} {u : HO} (h : Rd H a u) (n : ¬ A a) : Rd H' a u ∧ ¬ A' a := by
  rcases h with h | ⟨o, h⟩
  · obtain ⟨n', h'⟩ := m a _ n h; exact ⟨.inl h', n'⟩
  · obtain ⟨n', h'⟩ := m a _ n h; exact ⟨.inr ⟨o, h'⟩, n'⟩
theorem TupA.mv (m : Mv A H A' H') {a : Addr} {xs : List V} (h : TupA K A H a xs) : TupA K A' H' a xs := h.elim (fun z => .inl (rd_mv m z.1 z.2)) .inr
theorem LstA.mv (m : Mv A H A' H') {a : Addr} {xs : List V} (h : LstA A H a xs) : LstA A' H' a xs := let ⟨n, e⟩ := m a _ h.2 h.1; ⟨e, n⟩
theorem FrlA.mv (m : Mv A H A' H') {a : Addr} {xs : List V} (h : FrlA K A H a xs) : FrlA K A' H' a xs := h.elim (fun z => .inl (rd_mv m z.1 z.2)) .inr
mutual
theorem Rep.mv (m : Mv A H A' H') : ∀ (d : D) (v : V), Rep K mg A H d v → Rep K mg A' H' d v
  | .non, v, h => by simp only [Rep] at h ⊢; exact h
  | .bl _, v, h => by simp only [Rep] at h ⊢; exact h
  | .int _, v, h => by simp only [Rep] at h ⊢; exact h
  | .str _, v, h => by simp only [Rep] at h ⊢; exact h
  | .ty _, v, h => by simp only [Rep] at h ⊢; exact h
  | .cl _, v, h => by simp only [Rep] at h ⊢; exact h
  | .tup l, v, h => by
    simp only [Rep] at h ⊢
    obtain ⟨a, xs, e, t, r⟩ := h
    exact ⟨a, xs, e, t.mv m, RepL.mv m l xs r⟩
  | .lst l, v, h => by
    simp only [Rep] at h ⊢
    obtain ⟨a, xs, e, t, r⟩ := h
    exact ⟨a, xs, e, t.mv m, RepL.mv m l xs r⟩
  | .frl l, v, h => by
    simp only [Rep] at h ⊢
    obtain ⟨a, xs, e, t, r⟩ := h
    exact ⟨a, xs, e, t.mv m, RepL.mv m l xs r⟩
  | .dct ks vs, v, h => by
    simp only [Rep] at h ⊢
    obtain ⟨a, xs, e, n, t, z, r⟩ := h
    obtain ⟨t', n'⟩ := rd_mv m t n
    exact ⟨a, xs, e, n', t', z, RepL.mv m vs xs r⟩
  | .obj c ns vs, v, h => by
    simp only [Rep] at h ⊢
    obtain ⟨a, C, dx, xs, e, n, t, g, z, r⟩ := h
    obtain ⟨n', t'⟩ := m a _ n t
    exact ⟨a, C, dx, xs, e, n', t', g, z, RepL.mv m vs xs r⟩
  | .exc c ns vs, v, h => by
    simp only [Rep] at h ⊢
    obtain ⟨a, C, d, oe, u, xs, e, n, nd, t, zc, f, td, g, z, r⟩ := h
    obtain ⟨n', t'⟩ := m a _ n t
    obtain ⟨nd', td'⟩ := m d _ nd td
    exact ⟨a, C, d, oe, u, xs, e, n', nd', t', zc, f, td', g, z, RepL.mv m vs xs r⟩
theorem RepL.mv (m : Mv A H A' H') : ∀ (ds : List D) (xs : List V), RepL K mg A H ds xs → RepL K mg A' H' ds xs
  | [], xs, h => by simp only [RepL] at h ⊢; exact h
  | d :: ds, xs, h => by
    simp only [RepL] at h ⊢
    obtain ⟨x, r, e, h1, h2⟩ := h
    exact ⟨x, r, e, Rep.mv m d x h1, RepL.mv m ds r h2⟩
end
theorem RepL.len : ∀ {ds : List D} {xs : List V}, RepL K mg A H ds xs → xs.length = ds.length
  | [], xs, h => by simp only [RepL] at h; subst h; rfl
  | d :: ds, xs, h => by
    simp only [RepL] at h
    obtain ⟨x, r, e, _, h2⟩ := h
    rw [e, List.length_cons, List.length_cons, RepL.len h2]
theorem RepL.get : ∀ {ds : List D} {xs : List V} {i : Nat} {d : D}, RepL K mg A H ds xs → ds[i]? = some d → ∃ x, xs[i]? = some x ∧ Rep K mg A H d x
  | [], xs, i, d, _, e => by simp at e
  | d0 :: ds, xs, 0, d, h, e => by
    simp only [RepL] at h
    obtain ⟨x, r, e1, h1, _⟩ := h
    simp at e
    subst e e1
    exact ⟨x, rfl, h1⟩
  | d0 :: ds, xs, i + 1, d, h, e => by
    simp only [RepL] at h
    obtain ⟨x, r, e1, _, h2⟩ := h
    subst e1
    obtain ⟨y, e2, h3⟩ := RepL.get (i := i) (d := d) h2 (by simpa using e)
    exact ⟨y, by simpa using e2, h3⟩
theorem RepL.nil : RepL K mg A H [] [] := by simp only [RepL]
theorem RepL.cons {d : D} {x : V} {ds : List D} {xs : List V} (h : Rep K mg A H d x) (r : RepL K mg A H ds xs) : RepL K mg A H (d :: ds) (x :: xs) := by
  simp only [RepL]
  exact ⟨x, xs, rfl, h, r⟩
theorem RepL.append : ∀ {ds es : List D} {xs ys : List V}, RepL K mg A H ds xs → RepL K mg A H es ys → RepL K mg A H (ds ++ es) (xs ++ ys)
  | [], es, xs, ys, h, g => by simp only [RepL] at h; subst h; exact g
  | d :: ds, es, xs, ys, h, g => by
    simp only [RepL] at h
    obtain ⟨x, r, e, h1, h2⟩ := h
    subst e
    exact RepL.cons h1 (RepL.append h2 g)
theorem RepL.take : ∀ (n : Nat) {ds : List D} {xs : List V}, RepL K mg A H ds xs → RepL K mg A H (ds.take n) (xs.take n)
  | 0, ds, xs, _ => by rw [List.take_zero, List.take_zero]; exact RepL.nil
  | n + 1, [], xs, h => by simp only [RepL] at h; subst h; exact RepL.nil
  | n + 1, d :: ds, xs, h => by
    simp only [RepL] at h
    obtain ⟨x, r, e, h1, h2⟩ := h
    subst e
    exact RepL.cons h1 (RepL.take n h2)
theorem RepL.drop : ∀ (n : Nat) {ds : List D} {xs : List V}, RepL K mg A H ds xs → RepL K mg A H (ds.drop n) (xs.drop n)
  | 0, ds, xs, h => h
  | n + 1, [], xs, h => by simp only [RepL] at h; subst h; exact RepL.nil
  | n + 1, d :: ds, xs, h => by
    simp only [RepL] at h
    obtain ⟨x, r, e, h1, h2⟩ := h
    subst e
    exact RepL.drop n h2
theorem RepL.set {e : D} {y : V} (hy : Rep K mg A H e y) : ∀ (n : Nat) {ds : List D} {xs : List V}, RepL K mg A H ds xs → RepL K mg A H (ds.set n e) (xs.set n y)
  | n, [], xs, h => by simp only [RepL] at h; subst h; exact RepL.nil
  | 0, d :: ds, xs, h => by
    simp only [RepL] at h
    obtain ⟨x, r, e1, h1, h2⟩ := h
    subst e1
    exact RepL.cons hy h2
  | n + 1, d :: ds, xs, h => by
    simp only [RepL] at h
    obtain ⟨x, r, e1, h1, h2⟩ := h
    subst e1
    exact RepL.cons h1 (RepL.set hy n h2)
theorem RepL.dropLast {ds : List D} {xs : List V} (h : RepL K mg A H ds xs) : RepL K mg A H ds.dropLast xs.dropLast := by
  rw [List.dropLast_eq_take, List.dropLast_eq_take, h.len]
  exact h.take _
theorem RepL.ints : ∀ {ns : List Int} {xs : List V}, RepL K mg A H (ns.map D.int) xs ↔ xs = ns.map V.int
  | [], xs => by simp [RepL]
  | n :: ns, xs => by
    constructor
    · intro h
      simp only [List.map_cons, RepL, Rep] at h
      obtain ⟨x, r, e, e1, h2⟩ := h
      rw [e, e1, RepL.ints.mp h2]
      rfl
    · intro h
      subst h
      exact RepL.cons (by simp only [Rep]) (RepL.ints.mpr rfl)
theorem RepL.bls : ∀ {ns : List Bool} {xs : List V}, RepL K mg A H (ns.map D.bl) xs ↔ xs = ns.map V.bl
  | [], xs => by simp [RepL]
  | n :: ns, xs => by
    constructor
    · intro h
      simp only [List.map_cons, RepL, Rep] at h
      obtain ⟨x, r, e, e1, h2⟩ := h
      rw [e, e1, RepL.bls.mp h2]
      rfl
    · intro h
      subst h
      exact RepL.cons (by simp only [Rep]) (RepL.bls.mpr rfl)
end

/-! ### slots -/
def ObR (K : PySem.W.Frag) (mg : Str → Option Value) (A : AP) (H : Hp) : Ob → HO → Prop
  | .lst l, o => ∃ xs, o = .lst xs ∧ RepL K mg A H l xs
  | .dk ks vs, o => ∃ xs, o = .dK (ks.zip xs) ∧ ks.length = vs.length ∧ RepL K mg A H vs xs
  | .dt ks vs, o => ∃ xs, o = .dT (ks.zip xs) ∧ ks.length = vs.length ∧ RepL K mg A H vs xs
theorem ObR.mv {K : PySem.W.Frag} {mg : Str → Option Value} {A A' : AP} {H H' : Hp} (m : Mv A H A' H') {c : Ob} {o : HO} (h : ObR K mg A H c o) : ObR K mg A' H' c o := by
  cases c with
  | lst l => obtain ⟨xs, e, r⟩ := h; exact ⟨xs, e, r.mv m⟩
  | dk ks vs => obtain ⟨xs, e, z, r⟩ := h; exact ⟨xs, e, z, r.mv m⟩
  | dt ks vs => obtain ⟨xs, e, z, r⟩ := h; exact ⟨xs, e, z, r.mv m⟩
/-- an object that may be changed -/
theorem ObR.mut {K : PySem.W.Frag} {mg : Str → Option Value} {A : AP} {H : Hp} {c : Ob} {o : HO} (h : ObR K mg A H c o) : Mut (some o) := by
  cases c with
  | lst l => obtain ⟨xs, e, r⟩ := h; subst e; trivial
  | dk ks vs => obtain ⟨xs, e, z, r⟩ := h; subst e; trivial
  | dt ks vs => obtain ⟨xs, e, z, r⟩ := h; subst e; trivial

def OwnAt (δ : List Sl) (σ : St) (a : Addr) : Prop := ∃ (i : Nat) (c : Ob), δ[i]? = some (.own c) ∧ σ[i]? = some (some (.ref a))
def AA (F : AP) (δ : List Sl) (σ : St) : AP := fun a => F a ∨ OwnAt δ σ a
def MM (bs : List Addr) (δ : List Sl) (σ : St) : AP := fun a => a ∈ bs ∨ OwnAt δ σ a
def SlR (K : PySem.W.Frag) (mg : Str → Option Value) (F : AP) (bs : List Addr) (H0 : Hp) (A : AP) (H : Hp) : Sl → Option (Option V) → Prop
  | .no, _ => True
  | .val d, x => ∃ v, x = some (some v) ∧ Rep K mg A H d v
  | .exn a dx c ns vs, x => x = some (some (.ref a)) ∧ ∃ C xs, mg c = some (.ref C) ∧ ¬ A dx ∧ H dx = some (.xd (ns.zip xs)) ∧ ns.length = vs.length ∧ RepL K mg A H vs xs
  | .own c, x => ∃ p o, x = some (some (.ref p)) ∧ H p = some o ∧ ObR K mg A H c o ∧ ¬ F p ∧ H0 p = none
  | .io k c, x => ∃ p o, bs[k]? = some p ∧ x = some (some (.ref p)) ∧ H p = some o ∧ ObR K mg A H c o
structure Rel (K : PySem.W.Frag) (mg : Str → Option Value) (F : AP) (bs : List Addr) (H0 : Hp) (δ : List Sl) (σ : St) (H : Hp) : Prop where
  len : σ.length = δ.length
  slot : ∀ (i : Nat) (s : Sl), δ[i]? = some s → SlR K mg F bs H0 (AA F δ σ) H s σ[i]?
  apart : ∀ (i j : Nat) (c d : Ob) (a : Addr), δ[i]? = some (.own c) → δ[j]? = some (.own d) → σ[i]? = some (some (.ref a)) → σ[j]? = some (some (.ref a)) → i = j
  ext : ∀ a o, a ∉ bs → H0 a = some o → H a = some o
  live : ∀ a, F a → H a ≠ none
  bsF : ∀ b, b ∈ bs → F b
  ioa : ∀ (i j k : Nat) (c d : Ob), δ[i]? = some (.io k c) → δ[j]? = some (.io k d) → i = j
  nd : bs.Nodup
def Keep (bs : List Addr) (δ : List Sl) (σ : St) (H : Hp) (δ' : List Sl) (σ' : St) (H' : Hp) : Prop := Mv (MM bs δ σ) H (MM bs δ' σ') H'
section
variable {K : PySem.W.Frag} {mg : Str → Option Value} {F : AP} {bs : List Addr} {H0 H H' H2 : Hp} {δ δ' δ2 : List Sl} {σ σ' σ2 : St}
theorem Keep.refl : Keep bs δ σ H δ σ H := Mv.refl
theorem Keep.trans (a : Keep bs δ σ H δ' σ' H') (b : Keep bs δ' σ' H' δ2 σ2 H2) : Keep bs δ σ H δ2 σ2 H2 := Mv.trans a b
theorem Rel.mm (R : Rel K mg F bs H0 δ σ H) {a : Addr} (h : ¬ AA F δ σ a) : ¬ MM bs δ σ a := fun z => h (z.elim (fun y => .inl (R.bsF a y)) .inr)
/-- what is kept is kept for data -/
theorem Rel.mv (R : Rel K mg F bs H0 δ σ H) (k : Keep bs δ σ H δ' σ' H') : Mv (AA F δ σ) H (AA F δ' σ') H' := fun a o h e => by
  obtain ⟨h1, e1⟩ := k a o (R.mm h) e
  exact ⟨fun z => z.elim (fun y => h (.inl y)) (fun y => h1 (.inr y)), e1⟩
theorem Rel.own_live (R : Rel K mg F bs H0 δ σ H) {a : Addr} (h : OwnAt δ σ a) : H a ≠ none := by
  obtain ⟨i, c, e1, e2⟩ := h
  obtain ⟨p, o, e3, e4, _⟩ := R.slot i _ e1
  rw [e2] at e3
  cases e3
  rw [e4]
  exact fun z => nomatch z
theorem Rel.fresh (R : Rel K mg F bs H0 δ σ H) {p : Addr} (h : H p = none) : ¬ AA F δ σ p := fun z => z.elim (fun y => R.live p y h) fun y => R.own_live y h
theorem Rel.freshM (R : Rel K mg F bs H0 δ σ H) {p : Addr} (h : H p = none) : ¬ MM bs δ σ p := R.mm (R.fresh h)
theorem Rel.fresh0 (R : Rel K mg F bs H0 δ σ H) {p : Addr} (h : H p = none) : H0 p = none := by
  cases e : H0 p with
  | none => rfl
  | some o =>
    have nb : p ∉ bs := fun z => R.live p (R.bsF p z) h
    rw [R.ext p o nb e] at h
    cases h
/-- the slots stay, the heap grows or what is one's own changes -/
theorem keep_new {p : Addr} {o : HO} (h : H p = none) : Keep bs δ σ H δ σ (upd H p o) := fun a u n e => ⟨n, by rw [upd_ne (ne_of_none e h)]; exact e⟩
theorem exn_mv {A A' : AP} (m : Mv A H A' H') {a dx : Addr} {c : Str} {ns : List Str} {vs : List D} {x : Option (Option V)} (h : SlR K mg F bs H0 A H (.exn a dx c ns vs) x) : SlR K mg F bs H0 A' H' (.exn a dx c ns vs) x := by
  obtain ⟨e, C, xs, g, n, t, l, r⟩ := h
  obtain ⟨n', t'⟩ := m dx _ n t
  exact ⟨e, C, xs, g, n', t', l, r.mv m⟩
theorem SlR.mv {A A' : AP} (m : Mv A H A' H') {s : Sl} {x : Option (Option V)} (hm : ∀ p o, A p → H p = some o → H' p = some o) (hb : ∀ b, b ∈ bs → A b) (ho : ∀ c p, s = .own c → x = some (some (.ref p)) → A p) (h : SlR K mg F bs H0 A H s x) : SlR K mg F bs H0 A' H' s x := by
  cases s with
  | no => trivial
  | val d => obtain ⟨v, e, r⟩ := h; exact ⟨v, e, r.mv m⟩
  | exn _ _ _ _ _ => exact exn_mv m h
  | own c => obtain ⟨p, o, e, e1, r, n, z⟩ := h; exact ⟨p, o, e, hm p o (ho c p rfl e) e1, r.mv m, n, z⟩
  | io k c => obtain ⟨p, o, eb, e, e1, r⟩ := h; exact ⟨p, o, eb, e, hm p o (hb p (List.mem_of_getElem? eb)) e1, r.mv m⟩
/-- a new object beside -/
theorem Rel.new (R : Rel K mg F bs H0 δ σ H) {p : Addr} {o : HO} (h : H p = none) : Rel K mg F bs H0 δ σ (upd H p o) := by
  have m : Mv (AA F δ σ) H (AA F δ σ) (upd H p o) := R.mv (keep_new h)
  refine ⟨R.len, fun i s e => (R.slot i s e).mv m (fun q u _ z => by rw [upd_ne (ne_of_none z h)]; exact z) (fun b hb => .inl (R.bsF b hb)) (fun c q es ex => .inr ⟨i, c, es ▸ e, ex⟩), R.apart, fun a u n e => ?_, fun a f => ?_, R.bsF, R.ioa, R.nd⟩
  · have := R.ext a u n e
    rw [upd_ne (ne_of_none this h)]
    exact this
  · by_cases z : a = p
    · rw [z, upd_same]; exact fun y => nomatch y
    · rw [upd_ne z]; exact R.live a f
end
end DL
set_option Elab.async false
set_option linter.all false
set_option maxRecDepth 100000
set_option maxHeartbeats 4000000
/-! DL: readings of functions over data, and how they are joined. -/
namespace DL
open PySem PySem.Spec L2
open PyProof.Rows hiding St

/-- a value: data, or the slot of a mutable thing -/
inductive Ag where
  | v (d : D)
  | s (i : Nat)
inductive R (α : Type) where
  | ok (a : α) (δ : List Sl)
  | exc (c : Str) (ns : List Str) (vs : List D) (δ : List Sl)
  | bad
def R.bind {α β : Type} (r : R α) (f : α → List Sl → R β) : R β :=
  match r with
  | .ok a δ => f a δ
  | .exc c ns vs δ => .exc c ns vs δ
  | .bad => .bad
theorem R.bind_ok {α β : Type} {a : α} {δ : List Sl} {f : α → List Sl → R β} : (R.ok a δ).bind f = f a δ := rfl
theorem R.bind_exc {α β : Type} {c : Str} {ns : List Str} {vs : List D} {δ : List Sl} {f : α → List Sl → R β} : (R.exc c ns vs δ : R α).bind f = .exc c ns vs δ := rfl
theorem R.bind_bad {α β : Type} {f : α → List Sl → R β} : (R.bad : R α).bind f = .bad := rfl
inductive RS where
  | nx (δ : List Sl)
  | rt (d : D) (δ : List Sl)
  | rtN (c : Ob) (δ : List Sl)
  | bk (δ : List Sl)
  | ct (δ : List Sl)
  | exc (c : Str) (ns : List Str) (vs : List D) (δ : List Sl)
  | bad
abbrev SE := List Sl → R Ag
abbrev SB := List Sl → R Bool
abbrev SA := List Sl → R (List Ag)
abbrev SN := List Sl → R Ob
abbrev SS := List Sl → RS

def obD : Ob → Option D
  | .lst l => some (.lst l)
  | .dk ks vs => some (.dct ks vs)
  | .dt _ _ => none
def look (δ : List Sl) : Ag → Option D
  | .v d => some d
  | .s i => match δ[i]? with
    | some (.own c) => obD c
    | some (.io _ c) => obD c
    | _ => none
def AgR (K : PySem.W.Frag) (mg : Str → Option Value) (F : AP) (δ : List Sl) (σ : St) (H : Hp) : Ag → V → Prop
  | .v d, x => Rep K mg (AA F δ σ) H d x
  | .s i, x => σ[i]? = some (some x)
def AgsR (K : PySem.W.Frag) (mg : Str → Option Value) (F : AP) (δ : List Sl) (σ : St) (H : Hp) : List Ag → List V → Prop
  | [], xs => xs = []
  | a :: as, xs => ∃ x r, xs = x :: r ∧ AgR K mg F δ σ H a x ∧ AgsR K mg F δ σ H as r
/-- what may be read -/
def RepW (K : PySem.W.Frag) (mg : Str → Option Value) (A : AP) (H : Hp) : D → V → Prop
  | .lst l, v => ∃ a xs, v = .ref a ∧ H a = some (.lst xs) ∧ RepL K mg A H l xs
  | .frl l, v => ∃ a xs, v = .ref a ∧ SqL K H a xs ∧ RepL K mg A H l xs
  | .dct ks vs, v => ∃ a xs, v = .ref a ∧ Rd H a (.dK (ks.zip xs)) ∧ ks.length = vs.length ∧ RepL K mg A H vs xs
  | d, v => Rep K mg A H d v
section
variable {K : PySem.W.Frag} {mg : Str → Option Value} {F : AP} {bs : List Addr} {H0 H H' H1 H2 : Hp} {δ δ' δ1 δ2 : List Sl} {σ σ' σ2 : St} {A : AP}
theorem Rep.w {d : D} {v : V} (h : Rep K mg A H d v) : RepW K mg A H d v := by
  cases d with
  | lst l => simp only [Rep] at h; obtain ⟨a, xs, e, t, r⟩ := h; exact ⟨a, xs, e, t.1, r⟩
  | frl l => simp only [Rep] at h; obtain ⟨a, xs, e, t, r⟩ := h; exact ⟨a, xs, e, t.sq, r⟩
  | dct ks vs => simp only [Rep] at h; obtain ⟨a, xs, e, n, t, z, r⟩ := h; exact ⟨a, xs, e, t, z, r⟩
  | non => exact h
  | bl _ => exact h
  | int _ => exact h
  | str _ => exact h
  | ty _ => exact h
  | cl _ => exact h
  | tup _ => exact h
  | obj _ _ _ => exact h
  | exc _ _ _ => exact h
theorem Rel.look (R : Rel K mg F bs H0 δ σ H) {g : Ag} {x : V} (h : AgR K mg F δ σ H g x) {d : D} (e : look δ g = some d) : RepW K mg (AA F δ σ) H d x := by
  cases g with
  | v d' => cases e; exact Rep.w h
  | s i =>
    have h' : σ[i]? = some (some x) := h
    have key : ∀ {c : Ob} {p : Addr} {o : HO}, obD c = some d → x = .ref p → H p = some o → ObR K mg (AA F δ σ) H c o → RepW K mg (AA F δ σ) H d x := by
      intro c p o ec ex ep r
      cases c with
      | lst l => cases ec; obtain ⟨xs, eo, r⟩ := r; subst eo; exact ⟨p, xs, ex, ep, r⟩
      | dk ks vs => cases ec; obtain ⟨xs, eo, z, r⟩ := r; subst eo; exact ⟨p, xs, ex, .inl ep, z, r⟩
      | dt ks vs => cases ec
    cases es : δ[i]? with
    | none => simp [DL.look, es] at e
    | some s =>
      have q := R.slot i s es
      cases s with
      | no => simp [DL.look, es] at e
      | val _ => simp [DL.look, es] at e
      | exn _ _ _ _ _ => simp [DL.look, es] at e
      | own c =>
        obtain ⟨p, o, e1, e2, r, _⟩ := q
        rw [h'] at e1
        cases e1
        exact key (by simpa [DL.look, es] using e) rfl e2 r
      | io k c =>
        obtain ⟨p, o, _, e1, e2, r⟩ := q
        rw [h'] at e1
        cases e1
        exact key (by simpa [DL.look, es] using e) rfl e2 r
theorem AgR.mv (R : Rel K mg F bs H0 δ σ H) (k : Keep bs δ σ H δ' σ H') {g : Ag} {x : V} (h : AgR K mg F δ σ H g x) : AgR K mg F δ' σ H' g x := by
  cases g with
  | v d => exact Rep.mv (R.mv k) d x h
  | s i => exact h
theorem AgsR.mv (R : Rel K mg F bs H0 δ σ H) (k : Keep bs δ σ H δ' σ H') : ∀ {gs : List Ag} {xs : List V}, AgsR K mg F δ σ H gs xs → AgsR K mg F δ' σ H' gs xs
  | [], xs, h => h
  | g :: gs, xs, h => by
    obtain ⟨x, r, e, h1, h2⟩ := h
    exact ⟨x, r, e, h1.mv R k, AgsR.mv R k h2⟩

/-! ### what is wanted behind -/
def PX (K : PySem.W.Frag) (mg : Str → Option Value) (W : WX) (F : AP) (bs : List Addr) (H0 : Hp) (δ : List Sl) (σ : St) (H : Hp) (c : Str) (ns : List Str) (vs : List D) (δ' : List Sl) (σ' : St) : Prop :=
  ∀ C dx xs H', mg c = some (.ref C) → H' dx = some (.xd (ns.zip xs)) → ns.length = vs.length → Rel K mg F bs H0 δ' σ' H' → Keep bs δ σ H δ' σ' H' → ¬ AA F δ' σ' dx → RepL K mg (AA F δ' σ') H' vs xs → W (.ref C) (some dx) σ' H'
def Post {α β : Type} (K : PySem.W.Frag) (mg : Str → Option Value) (W : WX) (F : AP) (bs : List Addr) (H0 : Hp) (P : α → List Sl → β → Hp → Prop) (δ : List Sl) (σ : St) (H : Hp) (r : R α) (Q : β → Hp → Prop) : Prop :=
  match r with
  | .ok a δ' => ∀ x H', Rel K mg F bs H0 δ' σ H' → Keep bs δ σ H δ' σ H' → P a δ' x H' → Q x H'
  | .exc c ns vs δ' => PX K mg W F bs H0 δ σ H c ns vs δ' σ
  | .bad => False
def rdE (K : PySem.W.Frag) (mg : Str → Option Value) (W : WX) (f : SE) : TE := fun σ H Q => ∃ F bs H0 δ, Rel K mg F bs H0 δ σ H ∧ Post K mg W F bs H0 (fun a δ' x H' => AgR K mg F δ' σ H' a x) δ σ H (f δ) Q
def rdT (K : PySem.W.Frag) (mg : Str → Option Value) (W : WX) (f : SB) : TT := fun σ H Q => ∃ F bs H0 δ, Rel K mg F bs H0 δ σ H ∧ Post K mg W F bs H0 (fun a _ x _ => x = a) δ σ H (f δ) Q
def rdA (K : PySem.W.Frag) (mg : Str → Option Value) (W : WX) (f : SA) : TA := fun σ H Q => ∃ F bs H0 δ, Rel K mg F bs H0 δ σ H ∧ Post K mg W F bs H0 (fun a δ' x H' => AgsR K mg F δ' σ H' a x) δ σ H (f δ) Q
/-- a new container: told by what it holds, and the heap ahead of it -/
def PN (K : PySem.W.Frag) (mg : Str → Option Value) (F : AP) (bs : List Addr) (H0 : Hp) (σ : St) (c : Ob) (δ' : List Sl) (x : Addr × HO) (H' : Hp) : Prop := H' x.1 = none ∧ ObR K mg (AA F δ' σ) H' c x.2
def rdN (K : PySem.W.Frag) (mg : Str → Option Value) (W : WX) (f : SN) : TE := fun σ H Q => ∃ F bs H0 δ, Rel K mg F bs H0 δ σ H ∧ Post K mg W F bs H0 (PN K mg F bs H0 σ) δ σ H (f δ) fun x H' => Q (.ref x.1) (upd H' x.1 x.2)
def PostS (K : PySem.W.Frag) (mg : Str → Option Value) (W : WX) (F : AP) (bs : List Addr) (H0 : Hp) (δ : List Sl) (σ : St) (H : Hp) (r : RS) (E : Ends) : Prop :=
  match r with
  | .nx δ' => ∀ σ' H', Rel K mg F bs H0 δ' σ' H' → Keep bs δ σ H δ' σ' H' → E.nx σ' H'
  | .rt d δ' => ∀ v σ' H', Rel K mg F bs H0 δ' σ' H' → Keep bs δ σ H δ' σ' H' → Rep K mg F H' d v → E.rt v H'
  | .rtN c δ' => ∀ p o σ' H', H' p = none → Rel K mg F bs H0 δ' σ' H' → Keep bs δ σ H δ' σ' H' → ObR K mg F H' c o → E.rt (.ref p) (upd H' p o)
  | .bk δ' => ∀ σ' H', Rel K mg F bs H0 δ' σ' H' → Keep bs δ σ H δ' σ' H' → E.bk σ' H'
  | .ct δ' => ∀ σ' H', Rel K mg F bs H0 δ' σ' H' → Keep bs δ σ H δ' σ' H' → E.ct σ' H'
  | .exc c ns vs δ' => ∀ σ', PX K mg W F bs H0 δ σ H c ns vs δ' σ'
  | .bad => False
def rdS (K : PySem.W.Frag) (mg : Str → Option Value) (W : WX) (g : SS) : TS := fun E σ H => ∃ F bs H0 δ, Rel K mg F bs H0 δ σ H ∧ PostS K mg W F bs H0 δ σ H (g δ) E
variable {W : WX}
theorem PX.base (k : Keep bs δ σ H δ1 σ' H1) {c : Str} {ns : List Str} {vs : List D} {σ2 : St} (h : PX K mg W F bs H0 δ σ H c ns vs δ2 σ2) : PX K mg W F bs H0 δ1 σ' H1 c ns vs δ2 σ2 :=
  fun C dx xs H' a b z r k' n l => h C dx xs H' a b z r (k.trans k') n l
theorem Post.base {α β : Type} {P : α → List Sl → β → Hp → Prop} {r : R α} {Q : β → Hp → Prop} (k : Keep bs δ σ H δ1 σ H1) (h : Post K mg W F bs H0 P δ σ H r Q) : Post K mg W F bs H0 P δ1 σ H1 r Q := by
  cases r with
  | ok a δ' => exact fun x H' R k' p => h x H' R (k.trans k') p
  | exc c ns vs δ' => exact PX.base k h
  | bad => exact h
theorem PostS.base {r : RS} {E : Ends} (k : Keep bs δ σ H δ1 σ' H1) (h : PostS K mg W F bs H0 δ σ H r E) : PostS K mg W F bs H0 δ1 σ' H1 r E := by
  cases r with
  | nx δ' => exact fun s H' R k' => h s H' R (k.trans k')
  | rt d δ' => exact fun v s H' R k' => h v s H' R (k.trans k')
  | rtN c δ' => exact fun p o s H' hp R k' => h p o s H' hp R (k.trans k')
  | bk δ' => exact fun s H' R k' => h s H' R (k.trans k')
  | ct δ' => exact fun s H' R k' => h s H' R (k.trans k')
  | exc c ns vs δ' => exact fun s => PX.base k (h s)
  | bad => exact h
/-- the first part runs, then the rest -/
theorem Post.first {α β α2 β2 : Type} {P1 : α → List Sl → β → Hp → Prop} {P2 : α2 → List Sl → β2 → Hp → Prop} {r : R α} {k : α → List Sl → R α2} {Q : β2 → Hp → Prop} (h : Post K mg W F bs H0 P2 δ σ H (r.bind k) Q) :
    Post K mg W F bs H0 P1 δ σ H r fun x H1 => ∃ δ1 a, Rel K mg F bs H0 δ1 σ H1 ∧ Keep bs δ σ H δ1 σ H1 ∧ P1 a δ1 x H1 ∧ Post K mg W F bs H0 P2 δ1 σ H1 (k a δ1) Q := by
  cases r with
  | ok a δ' => exact fun x H' R k' p => ⟨δ', a, R, k', p, Post.base k' h⟩
  | exc c ns vs δ' => exact h
  | bad => exact h
/-- .. of a statement -/
def R.bindS {α : Type} (r : R α) (f : α → List Sl → RS) : RS :=
  match r with
  | .ok a δ => f a δ
  | .exc c ns vs δ => .exc c ns vs δ
  | .bad => .bad
/-- the slots of the frame at an exception in an expression are those ahead of it; at PostS any may be -/
theorem PostS.first {α β : Type} {P1 : α → List Sl → β → Hp → Prop} {r : R α} {k : α → List Sl → RS} {E : Ends} (h : PostS K mg W F bs H0 δ σ H (r.bindS k) E) :
    Post K mg W F bs H0 P1 δ σ H r fun x H1 => ∃ δ1 a, Rel K mg F bs H0 δ1 σ H1 ∧ Keep bs δ σ H δ1 σ H1 ∧ P1 a δ1 x H1 ∧ PostS K mg W F bs H0 δ1 σ H1 (k a δ1) E := by
  cases r with
  | ok a δ' => exact fun x H' R k' p => ⟨δ', a, R, k', p, PostS.base k' h⟩
  | exc c ns vs δ' => exact h σ
  | bad => exact h
theorem Post.imp {α β : Type} {P : α → List Sl → β → Hp → Prop} {r : R α} {Q Q' : β → Hp → Prop} (h : Post K mg W F bs H0 P δ σ H r Q) (q : ∀ x H', Q x H' → Q' x H') : Post K mg W F bs H0 P δ σ H r Q' := by
  cases r with
  | ok a δ' => exact fun x H' R k p => q _ _ (h x H' R k p)
  | exc c ns vs δ' => exact h
  | bad => exact h
theorem Post.val {d : D} {v : V} {Q : VK} (R : Rel K mg F bs H0 δ σ H) (r : Rep K mg (AA F δ σ) H d v) (h : Post K mg W F bs H0 (fun a δ' x H' => AgR K mg F δ' σ H' a x) δ σ H (.ok (.v d) δ) Q) : Q v H := h v H R .refl r
/-- an answer -/
theorem Post.yes {α β : Type} {P : α → List Sl → β → Hp → Prop} {a : α} {x : β} {Q : β → Hp → Prop} (R : Rel K mg F bs H0 δ' σ H') (k : Keep bs δ σ H δ' σ H') (p : P a δ' x H') (h : Post K mg W F bs H0 P δ σ H (.ok a δ') Q) : Q x H' := h x H' R k p
end

/-! ### weaker readings -/
section
variable {X : Cx}
theorem _root_.L2.PE.imp {e : Expr} {t t' : TE} (h : PE X e t) (i : ∀ σ H Q, t' σ H Q → t σ H Q) : PE X e t' := ⟨fun pins s σ H Q I q => h.run pins s σ H Q I (i σ H Q q)⟩
theorem _root_.L2.PT.imp {e : Expr} {t t' : TT} (h : PT X e t) (i : ∀ σ H Q, t' σ H Q → t σ H Q) : PT X e t' := ⟨fun pins s σ H Q I q => h.run pins s σ H Q I (i σ H Q q)⟩
theorem _root_.L2.PA.imp {es : List Expr} {t t' : TA} (h : PA X es t) (i : ∀ σ H Q, t' σ H Q → t σ H Q) : PA X es t' := ⟨fun pos pins s σ H Q I q => h.run pos pins s σ H Q I (i σ H Q q)⟩
theorem _root_.L2.PS.imp {st : Stmt} {t t' : TS} (h : PS X st t) (i : ∀ E σ H, t' E σ H → t E σ H) : PS X st t' := ⟨fun pins s σ H E I q => h.run pins s σ H E I (i E σ H q)⟩
theorem _root_.L2.PSs.imp {st : List Stmt} {t t' : TS} (h : PSs X st t) (i : ∀ E σ H, t' E σ H → t E σ H) : PSs X st t' := ⟨fun pins s σ H E I q => h.run pins s σ H E I (i E σ H q)⟩
theorem _root_.L2.PG.imp {e : Expr} {t t' : TG} (h : PG X e t) (i : ∀ v σ H Q, t' v σ H Q → t v σ H Q) : PG X e t' := ⟨fun pins s σ H v u Q I r q => h.run pins s σ H v u Q I r (i v σ H Q q)⟩
theorem _root_.L2.PI.imp {tg it : Expr} {t t' : TI} (h : PI X tg it t) (i : ∀ σ H Q, t' σ H Q → t σ H Q) : PI X tg it t' := ⟨fun pins s σ H Q I q => h.run pins s σ H Q I (i σ H Q q)⟩
end

/-! ### expressions -/
abbrev DE (X : Cx) (W : WX) (e : Expr) (f : SE) : Prop := PE X e (rdE X.K X.mg W f)
abbrev DT (X : Cx) (W : WX) (e : Expr) (f : SB) : Prop := PT X e (rdT X.K X.mg W f)
abbrev DA (X : Cx) (W : WX) (es : List Expr) (f : SA) : Prop := PA X es (rdA X.K X.mg W f)
abbrev DN (X : Cx) (W : WX) (e : Expr) (f : SN) : Prop := PE X e (rdN X.K X.mg W f)
abbrev DS (X : Cx) (W : WX) (st : Stmt) (g : SS) : Prop := PS X st (rdS X.K X.mg W g)
abbrev DSs (X : Cx) (W : WX) (st : List Stmt) (g : SS) : Prop := PSs X st (rdS X.K X.mg W g)

def eC (d : D) : SE := fun δ => .ok (.v d) δ
def eVar (i : Nat) : SE := fun δ => match δ[i]? with
  | some (.val d) => .ok (.v d) δ
  | some (.own _) => .ok (.s i) δ
  | some (.io _ _) => .ok (.s i) δ
  | _ => .bad
def opt (o : Option D) (δ : List Sl) : R Ag := match o with
  | some d => .ok (.v d) δ
  | none => .bad
def eUn (g : D → Option D) (f : SE) : SE := fun δ => (f δ).bind fun a δ1 => match look δ1 a with
  | some x => opt (g x) δ1
  | none => .bad
def eBin (g : D → D → Option D) (fa fb : SE) : SE := fun δ => (fa δ).bind fun a δ1 => (fb δ1).bind fun b δ2 => match look δ2 a, look δ2 b with
  | some x, some y => opt (g x y) δ2
  | _, _ => .bad
section
variable {X : Cx} {W : WX} {K : PySem.W.Frag} {mg : Str → Option Value} {F : AP} {bs : List Addr} {H0 H : Hp} {δ : List Sl} {σ : St} {pos : Pos}
theorem rd_c {d : D} {v : V} (hv : ∀ A H, Rep K mg A H d v) {Q : VK} (h : rdE K mg W (eC d) σ H Q) : tC v σ H Q := by
  obtain ⟨F, bs, H0, δ, R, h⟩ := h
  exact h v H R .refl (hv _ _)
theorem de_int {i j} : DE X W (.Constant (.int i) j pos) (eC (.int i)) := pe_int.imp fun _ _ _ => rd_c fun _ _ => by simp only [Rep]
theorem de_bl {b j} : DE X W (.Constant (.bool b) j pos) (eC (.bl b)) := pe_bl.imp fun _ _ _ => rd_c fun _ _ => by simp only [Rep]
theorem de_non {j} : DE X W (.Constant .none j pos) (eC .non) := pe_non.imp fun _ _ _ => rd_c fun _ _ => by simp only [Rep]
theorem de_str {x j} : DE X W (.Constant (.str x) j pos) (eC (.str x)) := pe_str.imp fun _ _ _ => rd_c fun _ _ => by simp only [Rep]
theorem rd_var {i : Nat} {Q : VK} (h : rdE K mg W (eVar i) σ H Q) : tVar i σ H Q := by
  obtain ⟨F, bs, H0, δ, R, h⟩ := h
  unfold eVar at h
  cases e : δ[i]? with
  | none => rw [e] at h; exact h.elim
  | some s =>
    have q := R.slot i s e
    rw [e] at h
    cases s with
    | no => exact h.elim
    | val d => obtain ⟨v, e1, r⟩ := q; exact ⟨v, e1, h v H R .refl r⟩
    | exn _ _ _ _ _ => exact h.elim
    | own c => obtain ⟨p, o, e1, _⟩ := q; exact ⟨_, e1, h _ H R .refl e1⟩
    | io k c => obtain ⟨p, o, _, e1, _⟩ := q; exact ⟨_, e1, h _ H R .refl e1⟩
theorem dv (i : Nat) {x : Str} (hN : X.N[i]? = some x := by rfl) (hv : Vis X.env.scope x := by first | exact Or.inl rfl | exact Or.inr (Or.inl rfl) | exact Or.inr (Or.inr rfl)) (hd : (x == ("__debug__" : Str)) = false := by decide)
    (hcd : (x == ("__classdict__" : Str)) = false := by decide) : DE X W (.Name x pos) (eVar i) := (pe_var hN hv hd hcd).imp fun _ _ _ => rd_var
/-- an operation on one, on two values: what it asks and gives -/
def UnS (K : PySem.W.Frag) (mg : Str → Option Value) (r : V → Hp → VK → Prop) (g : D → Option D) : Prop :=
  ∀ F bs H0 δ σ H a d x Q, Rel K mg F bs H0 δ σ H → RepW K mg (AA F δ σ) H a x → g a = some d → (∀ v H', Rel K mg F bs H0 δ σ H' → Keep bs δ σ H δ σ H' → Rep K mg (AA F δ σ) H' d v → Q v H') → r x H Q
def OpS (K : PySem.W.Frag) (mg : Str → Option Value) (r : R2) (g : D → D → Option D) : Prop :=
  ∀ F bs H0 δ σ H a b d x y Q, Rel K mg F bs H0 δ σ H → RepW K mg (AA F δ σ) H a x → RepW K mg (AA F δ σ) H b y → g a b = some d → (∀ v H', Rel K mg F bs H0 δ σ H' → Keep bs δ σ H δ σ H' → Rep K mg (AA F δ σ) H' d v → Q v H') → r x y H Q
theorem Post.optd {o : Option D} {δ' : List Sl} {Q : VK} {H' : Hp} (h : Post K mg W F bs H0 (fun a δ' x H' => AgR K mg F δ' σ H' a x) δ σ H (opt o δ') Q) : ∃ d, o = some d ∧ ∀ v H', Rel K mg F bs H0 δ' σ H' → Keep bs δ σ H δ' σ H' → Rep K mg (AA F δ' σ) H' d v → Q v H' := by
  cases o with
  | none => exact h.elim
  | some d => exact ⟨d, rfl, fun v H' R k r => h v H' R k r⟩
theorem rd_un {r : V → Hp → VK → Prop} {g : D → Option D} {f : SE} (sem : UnS K mg r g) {Q : VK} (h : rdE K mg W (eUn g f) σ H Q) : tUn r (rdE K mg W f) σ H Q := by
  obtain ⟨F, bs, H0, δ, R, h⟩ := h
  refine ⟨F, bs, H0, δ, R, Post.imp (Post.first h) fun x H1 ⟨δ1, a, R1, k1, p, h1⟩ => ?_⟩
  cases e : look δ1 a with
  | none => simp only [e] at h1; exact h1.elim
  | some d0 =>
    simp only [e] at h1
    obtain ⟨d, e2, q⟩ := Post.optd (H' := H1) h1
    exact sem F bs H0 δ1 σ H1 d0 d x Q R1 (R1.look p e) e2 q
theorem rd_bin {r : R2} {g : D → D → Option D} {fa fb : SE} (sem : OpS K mg r g) {Q : VK} (h : rdE K mg W (eBin g fa fb) σ H Q) : tOp r (rdE K mg W fa) (rdE K mg W fb) σ H Q := by
  obtain ⟨F, bs, H0, δ, R, h⟩ := h
  refine ⟨F, bs, H0, δ, R, Post.imp (Post.first h) fun x H1 ⟨δ1, a, R1, k1, p, h1⟩ => ?_⟩
  refine ⟨F, bs, H0, δ1, R1, Post.imp (Post.first h1) fun y H2 ⟨δ2, b, R2, k2, q, h2⟩ => ?_⟩
  have p2 := p.mv R1 k2
  cases ea : look δ2 a with
  | none => simp only [ea] at h2; exact h2.elim
  | some d1 =>
    cases eb : look δ2 b with
    | none => simp only [ea, eb] at h2; exact h2.elim
    | some d2 =>
      simp only [ea, eb] at h2
      obtain ⟨d, e2, q2⟩ := Post.optd (H' := H2) h2
      exact sem F bs H0 δ2 σ H2 d1 d2 d x y Q R2 (R2.look p2 ea) (R2.look q eb) e2 q2
theorem de_op {op : Operator} {r : R2} {g : D → D → Option D} {a b : Expr} {fa fb : SE} (ho : OpR X (binaryOp op) r) (sem : OpS X.K X.mg r g) (ha : DE X W a fa) (hb : DE X W b fb) : DE X W (.BinOp a op b pos) (eBin g fa fb) :=
  (pe_op ho ha hb).imp fun _ _ _ => rd_bin sem
theorem de_un {op : UnaryOp} {r : V → Hp → VK → Prop} {g : D → Option D} {a : Expr} {fa : SE} (ho : UnR X (unaryOp op) r) (sem : UnS X.K X.mg r g) (ha : DE X W a fa) : DE X W (.UnaryOp op a pos) (eUn g fa) :=
  (pe_un ho ha).imp fun _ _ _ => rd_un sem
theorem de_cmp {op : CmpOp} {r : R2} {g : D → D → Option D} {a b : Expr} {fa fb : SE} (ho : OpR X (compareOp op) r) (sem : OpS X.K X.mg r g) (ha : DE X W a fa) (hb : DE X W b fb) (hm : behindInMarks op b = false) : DE X W (.Compare a [op] [b] pos) (eBin g fa fb) :=
  (pe_cmpR ho ha hb hm).imp fun _ _ _ => rd_bin sem
end
end DL
set_option Elab.async false
set_option linter.all false
set_option maxRecDepth 100000
set_option maxHeartbeats 4000000
/-! DL: operations on data, tests, statements. -/
namespace DL
open PySem PySem.Spec L2
open PyProof.Rows hiding St

/-- the most items that a thing made here may have -/
abbrev lim : Nat := 1000000
theorem lim_le {n : Nat} (h : n ≤ lim) : n ≤ sizeLine := by rw [sizeLine_eq]; exact Nat.le_trans h (by decide)
theorem lim_lt {n : Nat} (h : n ≤ lim) : n < sizeLine := by rw [sizeLine_eq]; exact Nat.lt_of_le_of_lt h (by decide)

/-! ### what operations do to data -/
def gI (h : Int → Int → D) : D → D → Option D
  | .int i, .int j => some (h i j)
  | _, _ => none
def gIc (C : Int → Int → Bool) (h : Int → Int → D) : D → D → Option D
  | .int i, .int j => if C i j then some (h i j) else none
  | _, _ => none
def uI (h : Int → D) : D → Option D
  | .int i => some (h i)
  | _ => none
abbrev gSub := gI fun i j => .int (i - j)
abbrev gLt := gI fun i j => .bl (decide (i < j))
abbrev gLe := gI fun i j => .bl (decide (i ≤ j))
abbrev gGt := gI fun i j => .bl (decide (j < i))
abbrev gGe := gI fun i j => .bl (decide (j ≤ i))
abbrev gAnd := gI fun i j => .int (Builtin.bitAnd i j)
abbrev gXor := gI fun i j => .int (Builtin.bitXor i j)
abbrev gOr := gI fun i j => .int (Builtin.bitOr i j)
def okMul (i j : Int) : Bool := (decide (-(2 ^ 64) < i) && decide (i < 2 ^ 64)) || (decide (-(2 ^ 64) < j) && decide (j < 2 ^ 64))
def okDiv (i j : Int) : Bool := decide (j ≠ 0) && decide (j.natAbs < 1073741824)
def okMod (_ j : Int) : Bool := decide (j ≠ 0)
def okPow (i j : Int) : Bool := decide (0 ≤ j) && decide (j ≤ 1000000) && decide (i.natAbs < 2 ^ 64)
def okShr (_ j : Int) : Bool := decide (0 ≤ j)
abbrev gDiv := gIc okDiv fun i j => .int (i.fdiv j)
abbrev gMod := gIc okMod fun i j => .int (i.fmod j)
abbrev gPow := gIc okPow fun i j => .int (i ^ j.toNat)
abbrev gShl := gIc okPow fun i j => .int (i * 2 ^ j.toNat)
abbrev gShr := gIc okShr fun i j => .int (i / 2 ^ j.toNat)
def gAdd : D → D → Option D
  | .int i, .int j => some (.int (i + j))
  | .tup a, .tup b => if a.length + b.length ≤ lim then some (.tup (a ++ b)) else none
  | .lst a, .lst b => if a.length + b.length ≤ lim then some (.lst (a ++ b)) else none
  | .str a, .str b => if a.length + b.length ≤ lim then some (.str (a ++ b)) else none
  | _, _ => none
def gMul : D → D → Option D
  | .int i, .int j => if okMul i j then some (.int (i * j)) else none
  | .lst a, .int k => if 0 ≤ k ∧ k ≤ 1000 ∧ a.length ≤ 1000 then some (.lst (List.replicate k.toNat a).flatten) else none
  | .tup a, .int k => if 2 ≤ k ∧ k ≤ 1000 ∧ a.length ≤ 1000 ∧ a ≠ [] then some (.tup (List.replicate k.toNat a).flatten) else none
  | _, _ => none
section
variable {K : PySem.W.Frag} {mg : Str → Option Value} {X : Cx}
theorem RepW.int {A : AP} {H : Hp} {i : Int} {v : V} (h : RepW K mg A H (.int i) v) : v = .int i := by simpa only [RepW, Rep] using h
theorem RepW.bl {A : AP} {H : Hp} {i : Bool} {v : V} (h : RepW K mg A H (.bl i) v) : v = .bl i := by simpa only [RepW, Rep] using h
theorem RepW.str {A : AP} {H : Hp} {i : Str} {v : V} (h : RepW K mg A H (.str i) v) : v = .str i := by simpa only [RepW, Rep] using h
theorem RepW.non {A : AP} {H : Hp} {v : V} (h : RepW K mg A H .non v) : v = .non := by simpa only [RepW, Rep] using h
theorem Rep.int {A : AP} {H : Hp} {i : Int} : Rep K mg A H (.int i) (.int i) := by simp only [Rep]
theorem Rep.bl {A : AP} {H : Hp} {i : Bool} : Rep K mg A H (.bl i) (.bl i) := by simp only [Rep]
theorem Rep.str {A : AP} {H : Hp} {i : Str} : Rep K mg A H (.str i) (.str i) := by simp only [Rep]
theorem Rep.non {A : AP} {H : Hp} : Rep K mg A H .non .non := by simp only [Rep]
theorem RepW.tup {A : AP} {H : Hp} {l : List D} {v : V} (h : RepW K mg A H (.tup l) v) : ∃ a xs, v = .ref a ∧ TupA K A H a xs ∧ RepL K mg A H l xs := by simpa only [RepW, Rep] using h
theorem RepW.lst {A : AP} {H : Hp} {l : List D} {v : V} (h : RepW K mg A H (.lst l) v) : ∃ a xs, v = .ref a ∧ H a = some (.lst xs) ∧ RepL K mg A H l xs := h
theorem RepW.frl {A : AP} {H : Hp} {l : List D} {v : V} (h : RepW K mg A H (.frl l) v) : ∃ a xs, v = .ref a ∧ SqL K H a xs ∧ RepL K mg A H l xs := h
variable {F : AP} {bs : List Addr} {H0 H : Hp} {δ : List Sl} {σ : St}
/-- a new tuple, list as data -/
theorem Rel.tup (R : Rel K mg F bs H0 δ σ H) {l : List D} {xs : List V} (r : RepL K mg (AA F δ σ) H l xs) {p : Addr} (hp : H p = none) :
    Rel K mg F bs H0 δ σ (upd H p (.tup xs)) ∧ Keep bs δ σ H δ σ (upd H p (.tup xs)) ∧ Rep K mg (AA F δ σ) (upd H p (.tup xs)) (.tup l) (.ref p) := by
  have m := R.mv (keep_new (o := .tup xs) hp)
  refine ⟨R.new hp, keep_new hp, ?_⟩
  simp only [Rep]
  exact ⟨p, xs, rfl, .inl ⟨.inl upd_same, R.fresh hp⟩, r.mv m⟩
theorem Rel.lst (R : Rel K mg F bs H0 δ σ H) {l : List D} {xs : List V} (r : RepL K mg (AA F δ σ) H l xs) {p : Addr} (hp : H p = none) :
    Rel K mg F bs H0 δ σ (upd H p (.lst xs)) ∧ Keep bs δ σ H δ σ (upd H p (.lst xs)) ∧ Rep K mg (AA F δ σ) (upd H p (.lst xs)) (.lst l) (.ref p) := by
  have m := R.mv (keep_new (o := .lst xs) hp)
  refine ⟨R.new hp, keep_new hp, ?_⟩
  simp only [Rep]
  exact ⟨p, xs, rfl, ⟨upd_same, R.fresh hp⟩, r.mv m⟩
theorem sem_I0 {g : Int → Int → V} {h : Int → Int → D} (hr : ∀ i j A H, Rep K mg A H (h i j) (g i j)) : OpS K mg (rI0 g) (gI h) := by
  intro F bs H0 δ σ H a b d x y Q R ra rb e q
  cases a <;> try cases e
  cases b <;> cases e
  exact ⟨_, _, ra.int, rb.int, q _ H R .refl (hr _ _ _ _)⟩
theorem sem_I {C : Int → Int → Prop} {c : Int → Int → Bool} {g : Int → Int → V} {h : Int → Int → D} (hc : ∀ i j, c i j = true → C i j) (hr : ∀ i j A H, Rep K mg A H (h i j) (g i j)) : OpS K mg (rI C g) (gIc c h) := by
  intro F bs H0 δ σ H a b d x y Q R ra rb e q
  cases a <;> try cases e
  cases b <;> try cases e
  rename_i i j
  simp only [gIc] at e
  by_cases z : c i j = true
  · rw [if_pos z] at e
    cases e
    exact ⟨_, _, ra.int, rb.int, hc _ _ z, q _ H R .refl (hr _ _ _ _)⟩
  · rw [if_neg z] at e
    cases e
theorem sem_sub : OpS K mg (rI0 fun i j => .int (i - j)) gSub := sem_I0 fun _ _ _ _ => Rep.int
theorem sem_lt : OpS K mg (rI0 fun i j => .bl (decide (i < j))) gLt := sem_I0 fun _ _ _ _ => Rep.bl
theorem sem_le : OpS K mg (rI0 fun i j => .bl (decide (i ≤ j))) gLe := sem_I0 fun _ _ _ _ => Rep.bl
theorem sem_gt : OpS K mg (rI0 fun i j => .bl (decide (j < i))) gGt := sem_I0 fun _ _ _ _ => Rep.bl
theorem sem_ge : OpS K mg (rI0 fun i j => .bl (decide (j ≤ i))) gGe := sem_I0 fun _ _ _ _ => Rep.bl
theorem sem_and : OpS K mg (rI0 fun i j => .int (Builtin.bitAnd i j)) gAnd := sem_I0 fun _ _ _ _ => Rep.int
theorem sem_xor : OpS K mg (rI0 fun i j => .int (Builtin.bitXor i j)) gXor := sem_I0 fun _ _ _ _ => Rep.int
theorem sem_or : OpS K mg (rI0 fun i j => .int (Builtin.bitOr i j)) gOr := sem_I0 fun _ _ _ _ => Rep.int
theorem sem_div : OpS K mg (rI CDivN fun i j => .int (i.fdiv j)) gDiv := sem_I (fun i j h => by simpa [okDiv, CDivN] using h) fun _ _ _ _ => Rep.int
theorem sem_mod : OpS K mg (rI (fun _ j => j ≠ 0) fun i j => .int (i.fmod j)) gMod := sem_I (fun i j h => by simpa [okMod] using h) fun _ _ _ _ => Rep.int
theorem sem_pow : OpS K mg (rI CPow fun i j => .int (i ^ j.toNat)) gPow := sem_I (fun i j h => by simpa [okPow, CPow, and_assoc] using h) fun _ _ _ _ => Rep.int
theorem sem_shl : OpS K mg (rI CPow fun i j => .int (i * 2 ^ j.toNat)) gShl := sem_I (fun i j h => by simpa [okPow, CPow, and_assoc] using h) fun _ _ _ _ => Rep.int
theorem sem_shr : OpS K mg (rI (fun _ j => 0 ≤ j) fun i j => .int (i / 2 ^ j.toNat)) gShr := sem_I (fun i j h => by simpa [okShr] using h) fun _ _ _ _ => Rep.int
def rAddA (K : PySem.W.Frag) : R2 := fun x y H Q => rI0 (fun i j => .int (i + j)) x y H Q ∨ rCatA K x y H Q ∨ rCat x y H Q ∨ (∃ i j, x = .str i ∧ y = .str j ∧ i.length + j.length ≤ sizeLine ∧ Q (.str (i ++ j)) H)
theorem op_addA : OpR X (binaryOp .Add) (rAddA X.K) := op_add.or (op_catA.or (op_cat.or op_add_str))
theorem RepL.nil_iff {A : AP} {l : List D} {xs : List V} (r : RepL K mg A H l xs) : xs = [] ↔ l = [] := by
  have e := r.len
  constructor
  · intro h; subst h; exact List.length_eq_zero_iff.mp (by simpa using e.symm)
  · intro h; subst h; exact List.length_eq_zero_iff.mp (by simpa using e)
theorem sem_add : OpS K mg (rAddA K) gAdd := by
  intro F bs H0 δ σ H a b d x y Q R ra rb e q
  cases a <;> try cases e
  · -- int
    cases b <;> cases e
    exact .inl ⟨_, _, ra.int, rb.int, q _ H R .refl Rep.int⟩
  · -- str
    cases b <;> try cases e
    rename_i i j
    simp only [gAdd] at e
    by_cases z : i.length + j.length ≤ lim
    · rw [if_pos z] at e
      cases e
      exact .inr (.inr (.inr ⟨_, _, ra.str, rb.str, lim_le z, q _ H R .refl Rep.str⟩))
    · rw [if_neg z] at e; cases e
  · -- tuple
    cases b <;> try cases e
    rename_i l m
    simp only [gAdd] at e
    by_cases z : l.length + m.length ≤ lim
    · rw [if_pos z] at e
      cases e
      obtain ⟨p, xs, ex, tx, rx⟩ := ra.tup
      obtain ⟨p2, ys, ey, ty, ry⟩ := rb.tup
      subst ex ey
      refine .inr (.inl ⟨p, p2, xs, ys, rfl, rfl, tx.sq, ty.sq, by rw [rx.len, ry.len]; exact lim_le z, fun h => ?_, fun h h2 => ?_, fun h h2 t ht => ?_⟩)
      · have hl := rx.nil_iff.mp h
        subst hl
        refine q _ H R .refl ?_
        simp only [Rep, List.nil_append]
        exact ⟨p2, ys, rfl, ty, ry⟩
      · have hl := ry.nil_iff.mp h2
        subst hl
        refine q _ H R .refl ?_
        simp only [Rep, List.append_nil]
        exact ⟨p, xs, rfl, tx, rx⟩
      · obtain ⟨R', k', r'⟩ := R.tup (rx.append ry) ht
        exact q _ _ R' k' r'
    · rw [if_neg z] at e; cases e
  · -- list
    cases b <;> try cases e
    rename_i l m
    simp only [gAdd] at e
    by_cases z : l.length + m.length ≤ lim
    · rw [if_pos z] at e
      cases e
      obtain ⟨p, xs, ex, tx, rx⟩ := ra.lst
      obtain ⟨p2, ys, ey, ty, ry⟩ := rb.lst
      subst ex ey
      refine .inr (.inr (.inl ⟨p, p2, xs, ys, rfl, rfl, tx, ty, by rw [rx.len, ry.len]; exact lim_le z, fun t ht => ?_⟩))
      obtain ⟨R', k', r'⟩ := R.lst (rx.append ry) ht
      exact q _ _ R' k' r'
    · rw [if_neg z] at e; cases e
/-- list * int -/
def rMulA (K : PySem.W.Frag) : R2 := fun x y H Q => rI CMul (fun i j => .int (i * j)) x y H Q ∨ rRep x y H Q
theorem op_mulA : OpR X (binaryOp .Mult) (rMulA X.K) := op_mul.or op_rep
def gMul1 : D → D → Option D
  | .int i, .int j => if okMul i j then some (.int (i * j)) else none
  | .lst a, .int k => if 0 ≤ k ∧ k ≤ 1000 ∧ a.length ≤ 1000 then some (.lst (List.replicate k.toNat a).flatten) else none
  | _, _ => none
theorem RepL.rep {A : AP} {l : List D} {xs : List V} (r : RepL K mg A H l xs) : ∀ k : Nat, RepL K mg A H (List.replicate k l).flatten (List.replicate k xs).flatten
  | 0 => RepL.nil
  | k + 1 => by
    rw [List.replicate_succ, List.replicate_succ, List.flatten_cons, List.flatten_cons]
    exact r.append (RepL.rep r k)
theorem sem_mul : OpS K mg (rMulA K) gMul1 := by
  intro F bs H0 δ σ H a b d x y Q R ra rb e q
  cases a <;> try cases e
  · cases b <;> try cases e
    rename_i i j
    simp only [gMul1] at e
    by_cases z : okMul i j = true
    · rw [if_pos z] at e
      cases e
      exact .inl ⟨_, _, ra.int, rb.int, by simpa [okMul, CMul] using z, q _ H R .refl Rep.int⟩
    · rw [if_neg z] at e; cases e
  · cases b <;> try cases e
    rename_i l k
    simp only [gMul1] at e
    by_cases z : 0 ≤ k ∧ k ≤ 1000 ∧ l.length ≤ 1000
    · rw [if_pos z] at e
      cases e
      obtain ⟨p, xs, ex, tx, rx⟩ := ra.lst
      subst ex
      refine .inr ⟨p, k, xs, rfl, rb.int, tx, by omega, by omega, ?_, fun t ht => ?_⟩
      · rw [rx.len]
        refine lim_le ?_
        have h1 : k.toNat ≤ 1000 := by omega
        exact Nat.mul_le_mul z.2.2 h1
      · obtain ⟨R', k', r'⟩ := R.lst (rx.rep k.toNat) ht
        exact q _ _ R' k' r'
    · rw [if_neg z] at e; cases e
theorem sem_neg : UnS K mg (rU fun i => .int (-i)) (uI fun i => .int (-i)) := by
  intro F bs H0 δ σ H a d x Q R ra e q
  cases a <;> cases e
  exact ⟨_, ra.int, q _ H R .refl Rep.int⟩
/-- is None, is not None -/
def isNone : D → Bool
  | .non => true
  | _ => false
theorem RepW.isNone {A : AP} {d : D} {v : V} (h : RepW K mg A H d v) : decide (v = .non) = isNone d := by
  cases d with
  | non => rw [h.non]; rfl
  | bl _ => rw [h.bl]; rfl
  | int _ => rw [h.int]; rfl
  | str _ => rw [h.str]; rfl
  | ty _ => simp only [RepW, Rep] at h; rw [h]; rfl
  | cl _ => simp only [RepW, Rep] at h; obtain ⟨C, _, e⟩ := h; rw [e]; rfl
  | tup _ => obtain ⟨a, xs, e, _⟩ := h.tup; rw [e]; rfl
  | lst _ => obtain ⟨a, xs, e, _⟩ := h; rw [e]; rfl
  | frl _ => obtain ⟨a, xs, e, _⟩ := h; rw [e]; rfl
  | dct _ _ => obtain ⟨a, xs, e, _⟩ := h; rw [e]; rfl
  | obj _ _ _ => simp only [RepW, Rep] at h; obtain ⟨a, C, dx, xs, e, _⟩ := h; rw [e]; rfl
  | exc _ _ _ => simp only [RepW, Rep] at h; obtain ⟨a, C, dd, oe, u, xs, e, _⟩ := h; rw [e]; rfl
def gIsN : D → D → Option D
  | d, .non => some (.bl (isNone d))
  | _, _ => none
def gNotN : D → D → Option D
  | d, .non => some (.bl (!isNone d))
  | _, _ => none
theorem sem_isN : OpS K mg (fun x y H Q => y = .non ∧ Q (.bl (decide (x = .non))) H) gIsN := by
  intro F bs H0 δ σ H a b d x y Q R ra rb e q
  cases b <;> cases e
  exact ⟨rb.non, by rw [ra.isNone]; exact q _ H R .refl Rep.bl⟩
theorem sem_notN : OpS K mg (fun x y H Q => y = .non ∧ Q (.bl (!decide (x = .non))) H) gNotN := by
  intro F bs H0 δ σ H a b d x y Q R ra rb e q
  cases b <;> cases e
  exact ⟨rb.non, by rw [ra.isNone]; exact q _ H R .refl Rep.bl⟩
end

/-! ### tests -/
def bV (f : SE) : SB := fun δ => (f δ).bind fun a δ1 => match a with
  | .v (.bl b) => .ok b δ1
  | _ => .bad
def bAnd (f g : SB) : SB := fun δ => (f δ).bind fun a δ1 => if a then g δ1 else .ok false δ1
def bOr (f g : SB) : SB := fun δ => (f δ).bind fun a δ1 => if a then .ok true δ1 else g δ1
def bNot (f : SB) : SB := fun δ => (f δ).bind fun a δ1 => .ok (!a) δ1
def eAnd (f g : SE) : SE := fun δ => (f δ).bind fun a δ1 => match a with
  | .v (.bl b) => if b then g δ1 else .ok (.v (.bl false)) δ1
  | _ => .bad
def eOr (f g : SE) : SE := fun δ => (f δ).bind fun a δ1 => match a with
  | .v (.bl b) => if b then .ok (.v (.bl true)) δ1 else g δ1
  | _ => .bad
def eNot (f : SE) : SE := fun δ => (f δ).bind fun a δ1 => match a with
  | .v (.bl b) => .ok (.v (.bl (!b))) δ1
  | _ => .bad
def eIf (t : SB) (f g : SE) : SE := fun δ => (t δ).bind fun a δ1 => if a then f δ1 else g δ1
def eChain (g g' : D → D → Option D) (fa fb fc : SE) : SE := fun δ => (fa δ).bind fun a δ1 => (fb δ1).bind fun b δ2 => match look δ2 a, look δ2 b with
  | some x, some y => match g x y with
    | some (.bl k) => if k then (fc δ2).bind fun c δ3 => match look δ3 b, look δ3 c with
      | some y', some z => opt (g' y' z) δ3
      | _, _ => .bad
      else .ok (.v (.bl false)) δ2
    | _ => .bad
  | _, _ => .bad
section
variable {X : Cx} {W : WX} {K : PySem.W.Frag} {mg : Str → Option Value} {pos : Pos} {σ : St} {H : Hp}
theorem rd_bV {f : SE} {Q : Bool → Hp → Prop} (h : rdT K mg W (bV f) σ H Q) : rdE K mg W f σ H fun x H1 => ∃ c, x = .bl c ∧ Q c H1 := by
  obtain ⟨F, bs, H0, δ, R, h⟩ := h
  refine ⟨F, bs, H0, δ, R, Post.imp (Post.first h) fun x H1 ⟨δ1, a, R1, k1, p, h1⟩ => ?_⟩
  cases a with
  | s i => exact h1.elim
  | v d =>
    cases d with
    | bl b => exact ⟨b, by simpa only [AgR, Rep] using p, h1 b H1 R1 .refl rfl⟩
    | non => exact h1.elim
    | int _ => exact h1.elim
    | str _ => exact h1.elim
    | ty _ => exact h1.elim
    | cl _ => exact h1.elim
    | tup _ => exact h1.elim
    | lst _ => exact h1.elim
    | frl _ => exact h1.elim
    | dct _ _ => exact h1.elim
    | obj _ _ _ => exact h1.elim
    | exc _ _ _ => exact h1.elim
theorem dt_val {e : Expr} {f : SE} (h : DE X W e f) (he : ∀ whole, isTrue e X.env whole = (do let v ← whole; standAt e.pos; holding [v] (truthy v)) := by intro _; rfl) : DT X W e (bV f) := (pt_val h he).imp fun _ _ _ => rd_bV
theorem dt_cmp {op : CmpOp} {r : R2} {g : D → D → Option D} {a b : Expr} {fa fb : SE} (ho : OpR X (compareOp op) r) (sem : OpS X.K X.mg r g) (ha : DE X W a fa) (hb : DE X W b fb) (hm : behindInMarks op b = false) : DT X W (.Compare a [op] [b] pos) (bV (eBin g fa fb)) := by
  refine (pt_cmpR ho ha hb hm).imp fun σ H Q h => ?_
  have h2 : rdE X.K X.mg W (eBin g fa fb) σ H fun x H' => ∃ k, x = .bl k ∧ Q k H' := rd_bV h
  exact rd_bin sem h2
theorem rd_and {f g : SB} {Q : Bool → Hp → Prop} (h : rdT K mg W (bAnd f g) σ H Q) : tAnd (rdT K mg W f) (rdT K mg W g) σ H Q := by
  obtain ⟨F, bs, H0, δ, R, h⟩ := h
  refine ⟨F, bs, H0, δ, R, Post.imp (Post.first h) fun x H1 ⟨δ1, a, R1, k1, p, h1⟩ => ?_⟩
  subst p
  cases x with
  | true => exact ⟨F, bs, H0, δ1, R1, h1⟩
  | false => exact h1 false H1 R1 .refl rfl
theorem rd_or {f g : SB} {Q : Bool → Hp → Prop} (h : rdT K mg W (bOr f g) σ H Q) : tOr (rdT K mg W f) (rdT K mg W g) σ H Q := by
  obtain ⟨F, bs, H0, δ, R, h⟩ := h
  refine ⟨F, bs, H0, δ, R, Post.imp (Post.first h) fun x H1 ⟨δ1, a, R1, k1, p, h1⟩ => ?_⟩
  subst p
  cases x with
  | false => exact ⟨F, bs, H0, δ1, R1, h1⟩
  | true => exact h1 true H1 R1 .refl rfl
theorem rd_not {f : SB} {Q : Bool → Hp → Prop} (h : rdT K mg W (bNot f) σ H Q) : tNot (rdT K mg W f) σ H Q := by
  obtain ⟨F, bs, H0, δ, R, h⟩ := h
  refine ⟨F, bs, H0, δ, R, Post.imp (Post.first h) fun x H1 ⟨δ1, a, R1, k1, p, h1⟩ => ?_⟩
  subst p
  exact h1 _ H1 R1 .refl rfl
/-- a chain of and, or as a test -/
abbrev DW (X : Cx) (W : WX) (e : Expr) (f : SB) : Prop := PW X e (rdT X.K X.mg W f)
theorem _root_.L2.PW.imp {e : Expr} {t t' : TT} (h : PW X e t) (i : ∀ σ H Q, t' σ H Q → t σ H Q) : PW X e t' := ⟨fun wh pins s σ H Q I q => h.run wh pins s σ H Q I (i σ H Q q)⟩
theorem dw_and {a b : Expr} {rest : List Expr} {f g : SB} (ha : DT X W a f) (hb : DW X W (.BoolOp .And (b :: rest) pos) g) : DW X W (.BoolOp .And (a :: b :: rest) pos) (bAnd f g) := (pw_and ha hb).imp fun _ _ _ => rd_and
theorem dw_or {a b : Expr} {rest : List Expr} {f g : SB} (ha : DT X W a f) (hb : DW X W (.BoolOp .Or (b :: rest) pos) g) : DW X W (.BoolOp .Or (a :: b :: rest) pos) (bOr f g) := (pw_or ha hb).imp fun _ _ _ => rd_or
theorem dw_and1 {a : Expr} {f : SB} (ha : DT X W a f) : DW X W (.BoolOp .And [a] pos) f := pw_and1 ha
theorem dw_or1 {a : Expr} {f : SB} (ha : DT X W a f) : DW X W (.BoolOp .Or [a] pos) f := pw_or1 ha
theorem dt_w {e : Expr} {f : SB} (h : DW X W e f) : DT X W e f := h.pt
theorem dt_not {a : Expr} {f : SB} (ha : DT X W a f) : DT X W (.UnaryOp .Not a pos) (bNot f) := (pt_not ha).imp fun _ _ _ => rd_not
/-- .. as values -/
theorem rd_blv {f : SE} {α β : Type} {P : α → List Sl → β → Hp → Prop} {F : AP} {bs : List Addr} {H0 : Hp} {δ : List Sl} {k : Bool → List Sl → R α} {Q : β → Hp → Prop} (h : Post K mg W F bs H0 P δ σ H ((f δ).bind fun a δ1 => match a with | .v (.bl b) => k b δ1 | _ => .bad) Q) :
    Post K mg W F bs H0 (fun a δ' x H' => AgR K mg F δ' σ H' a x) δ σ H (f δ) fun x H1 => ∃ c, x = .bl c ∧ ∃ δ1, Rel K mg F bs H0 δ1 σ H1 ∧ Post K mg W F bs H0 P δ1 σ H1 (k c δ1) Q := by
  refine Post.imp (Post.first h) fun x H1 ⟨δ1, a, R1, k1, p, h1⟩ => ?_
  cases a with
  | s i => exact h1.elim
  | v d =>
    cases d with
    | bl b => exact ⟨b, by simpa only [AgR, Rep] using p, δ1, R1, h1⟩
    | non => exact h1.elim
    | int _ => exact h1.elim
    | str _ => exact h1.elim
    | ty _ => exact h1.elim
    | cl _ => exact h1.elim
    | tup _ => exact h1.elim
    | lst _ => exact h1.elim
    | frl _ => exact h1.elim
    | dct _ _ => exact h1.elim
    | obj _ _ _ => exact h1.elim
    | exc _ _ _ => exact h1.elim
theorem de_and {a b : Expr} {rest : List Expr} {f g : SE} (ha : DE X W a f) (hb : DE X W (.BoolOp .And (b :: rest) pos) g) : DE X W (.BoolOp .And (a :: b :: rest) pos) (eAnd f g) := (pe_and ha hb).imp fun σ H Q h => by
  obtain ⟨F, bs, H0, δ, R, h⟩ := h
  refine ⟨F, bs, H0, δ, R, Post.imp (rd_blv (k := fun b δ1 => if b then g δ1 else .ok (.v (.bl false)) δ1) h) fun x H1 ⟨c, e, δ1, R1, h1⟩ => ⟨c, e, ?_⟩⟩
  cases c with
  | true => exact ⟨F, bs, H0, δ1, R1, h1⟩
  | false => exact Post.val R1 Rep.bl h1
theorem de_or {a b : Expr} {rest : List Expr} {f g : SE} (ha : DE X W a f) (hb : DE X W (.BoolOp .Or (b :: rest) pos) g) : DE X W (.BoolOp .Or (a :: b :: rest) pos) (eOr f g) := (pe_or ha hb).imp fun σ H Q h => by
  obtain ⟨F, bs, H0, δ, R, h⟩ := h
  refine ⟨F, bs, H0, δ, R, Post.imp (rd_blv (k := fun b δ1 => if b then .ok (.v (.bl true)) δ1 else g δ1) h) fun x H1 ⟨c, e, δ1, R1, h1⟩ => ⟨c, e, ?_⟩⟩
  cases c with
  | false => exact ⟨F, bs, H0, δ1, R1, h1⟩
  | true => exact Post.val R1 Rep.bl h1
theorem de_one {a : Expr} {op} {f : SE} (ha : DE X W a f) : DE X W (.BoolOp op [a] pos) f := pe_one ha
theorem de_not {a : Expr} {f : SE} (ha : DE X W a f) : DE X W (.UnaryOp .Not a pos) (eNot f) := (pe_not ha).imp fun σ H Q h => by
  obtain ⟨F, bs, H0, δ, R, h⟩ := h
  refine ⟨F, bs, H0, δ, R, Post.imp (rd_blv (k := fun (b : Bool) δ1 => (DL.R.ok (Ag.v (D.bl (!b))) δ1 : DL.R Ag)) h) fun x H1 ⟨c, e, δ1, R1, h1⟩ => ⟨c, e, ?_⟩⟩
  exact Post.val R1 Rep.bl h1
theorem de_ifx {c a b : Expr} {t : SB} {f g : SE} (hc : DT X W c t) (ha : DE X W a f) (hb : DE X W b g) : DE X W (.IfExp c a b pos) (eIf t f g) := (pe_ifExp hc ha hb).imp fun σ H Q h => by
  obtain ⟨F, bs, H0, δ, R, h⟩ := h
  refine ⟨F, bs, H0, δ, R, Post.imp (Post.first h) fun x H1 ⟨δ1, a, R1, k1, p, h1⟩ => ?_⟩
  subst p
  cases x with
  | true => exact ⟨F, bs, H0, δ1, R1, h1⟩
  | false => exact ⟨F, bs, H0, δ1, R1, h1⟩
theorem rd_chain {r r' : R2} {g g' : D → D → Option D} {fa fb fc : SE} (sem : OpS K mg r g) (sem' : OpS K mg r' g') {Q : VK} (h : rdE K mg W (eChain g g' fa fb fc) σ H Q) : tChain r r' (rdE K mg W fa) (rdE K mg W fb) (rdE K mg W fc) σ H Q := by
  obtain ⟨F, bs, H0, δ, R, h⟩ := h
  refine ⟨F, bs, H0, δ, R, Post.imp (Post.first h) fun x H1 ⟨δ1, a, R1, k1, p, h1⟩ => ?_⟩
  refine ⟨F, bs, H0, δ1, R1, Post.imp (Post.first h1) fun y H2 ⟨δ2, b, R2, k2, q, h2⟩ => ?_⟩
  have p2 := p.mv R1 k2
  cases ea : look δ2 a with
  | none => simp only [ea] at h2; exact h2.elim
  | some d1 =>
    cases eb : look δ2 b with
    | none => simp only [ea, eb] at h2; exact h2.elim
    | some d2 =>
      simp only [ea, eb] at h2
      cases eg : g d1 d2 with
      | none => simp only [eg] at h2; exact h2.elim
      | some d =>
        simp only [eg] at h2
        refine sem F bs H0 δ2 σ H2 d1 d2 d x y _ R2 (R2.look p2 ea) (R2.look q eb) eg fun v H3 R3 k3 r3 => ?_
        cases d with
        | bl k =>
          refine ⟨k, by simpa only [Rep] using r3, ?_⟩
          cases k with
          | false =>
            rw [if_neg Bool.false_ne_true]
            exact Post.val R3 Rep.bl (Post.base k3 h2)
          | true =>
            rw [if_pos rfl]
            have h3 : Post K mg W F bs H0 (fun a δ' x H' => AgR K mg F δ' σ H' a x) δ2 σ H3 ((fc δ2).bind fun c δ3 => match look δ3 b, look δ3 c with
              | some y', some z => opt (g' y' z) δ3
              | _, _ => .bad) Q := Post.base k3 h2
            refine ⟨F, bs, H0, δ2, R3, Post.imp (Post.first h3) fun z H4 ⟨δ4, c, R4, k4, pc, h4⟩ => ?_⟩
            have q4 := (q.mv R2 k3).mv R3 k4
            cases eb4 : look δ4 b with
            | none => simp only [eb4] at h4; exact h4.elim
            | some d3 =>
              cases ec4 : look δ4 c with
              | none => simp only [eb4, ec4] at h4; exact h4.elim
              | some d4 =>
                simp only [eb4, ec4] at h4
                obtain ⟨dd, e2, q5⟩ := Post.optd (H' := H4) h4
                exact sem' F bs H0 δ4 σ H4 d3 d4 dd y z Q R4 (R4.look q4 eb4) (R4.look pc ec4) e2 q5
        | non => exact h2.elim
        | int _ => exact h2.elim
        | str _ => exact h2.elim
        | ty _ => exact h2.elim
        | cl _ => exact h2.elim
        | tup _ => exact h2.elim
        | lst _ => exact h2.elim
        | frl _ => exact h2.elim
        | dct _ _ => exact h2.elim
        | obj _ _ _ => exact h2.elim
        | exc _ _ _ => exact h2.elim
theorem de_chain {op op' : CmpOp} {r r' : R2} {g g' : D → D → Option D} {a b c : Expr} {fa fb fc : SE} (ho : OpR X (compareOp op) r) (sem : OpS X.K X.mg r g) (ho' : OpR X (compareOp op') r') (sem' : OpS X.K X.mg r' g') (ha : DE X W a fa) (hb : DE X W b fb) (hc : DE X W c fc)
    (hm : lastMarks [op, op'] [b, c] = false := by with_unfolding_all rfl) : DE X W (.Compare a [op, op'] [b, c] pos) (eChain g g' fa fb fc) := (pe_chain ho ho' ha hb hc hm).imp fun _ _ _ => rd_chain sem sem'
theorem dt_chain {op op' : CmpOp} {r r' : R2} {g g' : D → D → Option D} {a b c : Expr} {fa fb fc : SE} (ho : OpR X (compareOp op) r) (sem : OpS X.K X.mg r g) (ho' : OpR X (compareOp op') r') (sem' : OpS X.K X.mg r' g') (ha : DE X W a fa) (hb : DE X W b fb) (hc : DE X W c fc)
    (hm : lastMarks [op, op'] [b, c] = false := by with_unfolding_all rfl) : DT X W (.Compare a [op, op'] [b, c] pos) (bV (eChain g g' fa fb fc)) := (pt_chain ho ho' ha hb hc hm).imp fun σ H Q h => rd_chain sem sem' (rd_bV h)
end

/-! ### statements -/
def sNext : SS := fun δ => .nx δ
def RS.then (r : RS) (f : List Sl → RS) : RS := match r with
  | .nx δ => f δ
  | r => r
def sSeq (f g : SS) : SS := fun δ => (f δ).then g
def sIf (t : SB) (f g : SS) : SS := fun δ => (t δ).bindS fun a δ1 => if a then f δ1 else g δ1
def sDrop (f : SE) : SS := fun δ => (f δ).bindS fun _ δ1 => .nx δ1
def sRetN : SS := fun δ => .rt .non δ
def sBreak : SS := fun δ => .bk δ
def sCont : SS := fun δ => .ct δ
def sNever : SS := fun _ => .bad
section
variable {X : Cx} {W : WX} {K : PySem.W.Frag} {mg : Str → Option Value} {pos : Pos} {σ : St} {H : Hp} {F : AP} {bs : List Addr} {H0 : Hp} {δ : List Sl}
theorem ds_nil : DSs X W [] sNext := pss_nil.imp fun E σ H ⟨F, bs, H0, δ, R, h⟩ => h σ H R .refl
theorem ds_pass : DS X W (.Pass pos) sNext := ps_pass.imp fun E σ H ⟨F, bs, H0, δ, R, h⟩ => h σ H R .refl
theorem ds_break : DS X W (.Break pos) sBreak := ps_break.imp fun E σ H ⟨F, bs, H0, δ, R, h⟩ => h σ H R .refl
theorem ds_cont : DS X W (.Continue pos) sCont := ps_continue.imp fun E σ H ⟨F, bs, H0, δ, R, h⟩ => h σ H R .refl
theorem ds_never {st : Stmt} : DS X W st sNever := ps_never.imp fun E σ H ⟨F, bs, H0, δ, R, h⟩ => h.elim
theorem dss_never {st : List Stmt} : DSs X W st sNever := pss_never.imp fun E σ H ⟨F, bs, H0, δ, R, h⟩ => h.elim
theorem rd_seq {f g : SS} {E : Ends} (h : rdS K mg W (sSeq f g) E σ H) : tSeq (rdS K mg W f) (rdS K mg W g) E σ H := by
  obtain ⟨F, bs, H0, δ, R, h⟩ := h
  refine ⟨F, bs, H0, δ, R, ?_⟩
  unfold sSeq at h
  cases e : f δ with
  | nx δ' => rw [e] at h; exact fun σ' H' R' k' => ⟨F, bs, H0, δ', R', PostS.base k' h⟩
  | rt d δ' => rw [e] at h; exact h
  | rtN c δ' => rw [e] at h; exact h
  | bk δ' => rw [e] at h; exact h
  | ct δ' => rw [e] at h; exact h
  | exc c ns vs δ' => rw [e] at h; exact h
  | bad => rw [e] at h; exact h.elim
theorem ds_cons {st : Stmt} {rest : List Stmt} {f g : SS} (h1 : DS X W st f) (h2 : DSs X W rest g) : DSs X W (st :: rest) (sSeq f g) := (pss_cons h1 h2).imp fun _ _ _ => rd_seq
theorem ds_one {st : Stmt} {f : SS} (h1 : DS X W st f) : DSs X W [st] f := pss_one h1
theorem ds_if {c : Expr} {a b : List Stmt} {t : SB} {f g : SS} (hc : DT X W c t) (ha : DSs X W a f) (hb : DSs X W b g) : DS X W (.If c a b pos) (sIf t f g) := (ps_if hc ha hb).imp fun E σ H h => by
  obtain ⟨F, bs, H0, δ, R, h⟩ := h
  refine ⟨F, bs, H0, δ, R, Post.imp (PostS.first h) fun x H1 ⟨δ1, a, R1, k1, p, h1⟩ => ?_⟩
  subst p
  cases x with
  | true => exact ⟨F, bs, H0, δ1, R1, h1⟩
  | false => exact ⟨F, bs, H0, δ1, R1, h1⟩
theorem ds_expr {e : Expr} {f : SE} (h : DE X W e f) (hs : swapsWith e none pos.line X.env = pure false := by rfl) : DS X W (.Expr e pos) (sDrop f) := (ps_expr h hs).imp fun E σ H h => by
  obtain ⟨F, bs, H0, δ, R, h⟩ := h
  refine ⟨F, bs, H0, δ, R, Post.imp (PostS.first h) fun x H1 ⟨δ1, a, R1, k1, p, h1⟩ => ?_⟩
  exact h1 σ H1 R1 .refl
/-- what is handed back: a slot's own thing is given away -/
theorem Rel.handed (R : Rel K mg F bs H0 δ σ H) {g : Ag} {x : V} (p : AgR K mg F δ σ H g x) {d : D} (e : DL.look δ g = some d) (hio : ∀ i k c, g = .s i → δ[i]? ≠ some (.io k c)) : Rep K mg F H d x := by
  cases g with
  | v d' =>
    cases e
    have mvF : Mv (AA F δ σ) H F H := fun a o n e => ⟨fun f => n (.inl f), e⟩
    exact Rep.mv mvF _ x p
  | s i =>
    have h' : σ[i]? = some (some x) := p
    have mvF : Mv (AA F δ σ) H F H := fun a o n e => ⟨fun f => n (.inl f), e⟩
    cases es : δ[i]? with
    | none => simp [DL.look, es] at e
    | some s =>
      have q := R.slot i s es
      cases s with
      | no => simp [DL.look, es] at e
      | val _ => simp [DL.look, es] at e
      | exn _ _ _ _ _ => simp [DL.look, es] at e
      | io k c => exact absurd es (hio i k c rfl)
      | own c =>
        obtain ⟨a, o, e1, e2, r, nF, _⟩ := q
        rw [h'] at e1
        cases e1
        have ec : obD c = some d := by simpa [DL.look, es] using e
        cases c with
        | lst l =>
          cases ec
          obtain ⟨xs, eo, r⟩ := r
          subst eo
          simp only [Rep]
          exact ⟨a, xs, rfl, ⟨e2, nF⟩, r.mv mvF⟩
        | dk ks vs =>
          cases ec
          obtain ⟨xs, eo, z, r⟩ := r
          subst eo
          simp only [Rep]
          exact ⟨a, xs, rfl, nF, .inl e2, z, r.mv mvF⟩
        | dt ks vs => cases ec
def isIo (δ : List Sl) : Ag → Bool
  | .v _ => false
  | .s i => match δ[i]? with
    | some (.io _ _) => true
    | _ => false
def sRet (f : SE) : SS := fun δ => (f δ).bindS fun a δ1 => if isIo δ1 a then .bad else match look δ1 a with
  | some d => .rt d δ1
  | none => .bad
theorem ds_ret {e : Expr} {f : SE} (h : DE X W e f) : DS X W (.Return (some e) pos) (sRet f) := (ps_ret h).imp fun E σ H h => by
  obtain ⟨F, bs, H0, δ, R, h⟩ := h
  refine ⟨F, bs, H0, δ, R, Post.imp (PostS.first h) fun x H1 ⟨δ1, a, R1, k1, p, h1⟩ => ?_⟩
  cases ei : isIo δ1 a with
  | true => simp only [ei, if_true] at h1; exact h1.elim
  | false =>
    simp only [ei] at h1
    cases ed : look δ1 a with
    | none => simp only [ed] at h1; exact h1.elim
    | some d =>
      simp only [ed] at h1
      refine h1 x σ H1 R1 .refl (R1.handed p ed fun i k c eg es => ?_)
      subst eg
      simp [isIo, es] at ei
theorem ds_retN : DS X W (.Return none pos) sRetN := ps_retN.imp fun E σ H ⟨F, bs, H0, δ, R, h⟩ => h .non σ H R .refl Rep.non
end
end DL
set_option Elab.async false
set_option linter.all false
set_option maxRecDepth 100000
set_option maxHeartbeats 4000000
/-! DL: slots that are set, things of one's own that change, targets, displays, calls of built-ins. -/
namespace DL
open PySem PySem.Spec L2
open PyProof.Rows hiding St

section
variable {K : PySem.W.Frag} {mg : Str → Option Value} {F : AP} {bs : List Addr} {H0 H H' : Hp} {δ δ' : List Sl} {σ σ' : St}
theorem own_set_val {i : Nat} {d : D} {x : V} {a : Addr} (h : OwnAt (δ.set i (.val d)) (σ.set i (some x)) a) : OwnAt δ σ a := by
  obtain ⟨j, c, e1, e2⟩ := h
  by_cases hj : i = j
  · subst hj
    by_cases hl : i < δ.length
    · rw [List.getElem?_set_self hl] at e1; cases e1
    · rw [List.getElem?_eq_none (by rw [List.length_set]; omega)] at e1; cases e1
  · rw [List.getElem?_set_ne hj] at e1
    rw [List.getElem?_set_ne hj] at e2
    exact ⟨j, c, e1, e2⟩
/-- a slot takes data -/
theorem Rel.setVal (R : Rel K mg F bs H0 δ σ H) {i : Nat} {d : D} {x : V} (r : Rep K mg (AA F δ σ) H d x) :
    Rel K mg F bs H0 (δ.set i (.val d)) (σ.set i (some x)) H ∧ Keep bs δ σ H (δ.set i (.val d)) (σ.set i (some x)) H := by
  have m : Mv (AA F δ σ) H (AA F (δ.set i (.val d)) (σ.set i (some x))) H := fun a o n e => ⟨fun z => z.elim (fun y => n (.inl y)) fun y => n (.inr (own_set_val y)), e⟩
  refine ⟨⟨by rw [List.length_set, List.length_set]; exact R.len, fun j s e => ?_, fun j k c d' a e1 e2 e3 e4 => ?_, R.ext, R.live, R.bsF, fun j k n c d' e1 e2 => ?_, R.nd⟩, fun a o n e => ⟨fun z => z.elim (fun y => n (.inl y)) fun y => n (.inr (own_set_val y)), e⟩⟩
  · by_cases hj : i = j
    · subst hj
      by_cases hl : i < δ.length
      · rw [List.getElem?_set_self hl] at e
        cases e
        refine ⟨x, ?_, r.mv m⟩
        rw [List.getElem?_set_self (by rw [R.len]; exact hl)]
      · rw [List.getElem?_eq_none (by rw [List.length_set]; omega)] at e; cases e
    · rw [List.getElem?_set_ne hj] at e
      rw [List.getElem?_set_ne hj]
      exact (R.slot j s e).mv m (fun _ _ _ z => z) (fun b hb => .inl (R.bsF b hb)) (fun c p es ex => .inr ⟨j, c, es ▸ e, ex⟩)
  · have h : ∀ {n : Nat} {c : Ob}, (δ.set i (.val d))[n]? = some (.own c) → i ≠ n ∧ δ[n]? = some (.own c) := fun {n c} e => by
      by_cases hj : i = n
      · subst hj
        by_cases hl : i < δ.length
        · rw [List.getElem?_set_self hl] at e; cases e
        · rw [List.getElem?_eq_none (by rw [List.length_set]; omega)] at e; cases e
      · rw [List.getElem?_set_ne hj] at e; exact ⟨hj, e⟩
    obtain ⟨n1, f1⟩ := h e1
    obtain ⟨n2, f2⟩ := h e2
    rw [List.getElem?_set_ne n1] at e3
    rw [List.getElem?_set_ne n2] at e4
    exact R.apart j k c d' a f1 f2 e3 e4
  · have h : ∀ {m : Nat} {c : Ob}, (δ.set i (.val d))[m]? = some (.io n c) → δ[m]? = some (.io n c) := fun {m c} e => by
      by_cases hj : i = m
      · subst hj
        by_cases hl : i < δ.length
        · rw [List.getElem?_set_self hl] at e; cases e
        · rw [List.getElem?_eq_none (by rw [List.length_set]; omega)] at e; cases e
      · rw [List.getElem?_set_ne hj] at e; exact e
    exact R.ioa j k n c d' (h e1) (h e2)
/-- a slot takes a new thing of one's own -/
theorem Rel.setOwn (R : Rel K mg F bs H0 δ σ H) {i : Nat} {c : Ob} {p : Addr} {o : HO} (hp : H p = none) (r : ObR K mg (AA F δ σ) H c o) :
    Rel K mg F bs H0 (δ.set i (.own c)) (σ.set i (some (.ref p))) (upd H p o) ∧ Keep bs δ σ H (δ.set i (.own c)) (σ.set i (some (.ref p))) (upd H p o) := by
  have ow : ∀ {a : Addr}, OwnAt (δ.set i (.own c)) (σ.set i (some (.ref p))) a → a = p ∨ OwnAt δ σ a := fun {a} h => by
    obtain ⟨j, c', e1, e2⟩ := h
    by_cases hj : i = j
    · subst hj
      by_cases hl : i < δ.length
      · rw [List.getElem?_set_self (by rw [R.len]; exact hl)] at e2
        cases e2
        exact .inl rfl
      · rw [List.getElem?_eq_none (by rw [List.length_set]; omega)] at e1; cases e1
    · rw [List.getElem?_set_ne hj] at e1
      rw [List.getElem?_set_ne hj] at e2
      exact .inr ⟨j, c', e1, e2⟩
  have km : Keep bs δ σ H (δ.set i (.own c)) (σ.set i (some (.ref p))) (upd H p o) := fun a u n e => by
    have ne : a ≠ p := ne_of_none e hp
    refine ⟨fun z => z.elim (fun y => n (.inl y)) fun y => (ow y).elim (fun w => ne w) fun w => n (.inr w), ?_⟩
    rw [upd_ne ne]; exact e
  have m := R.mv km
  have R2 := R.new (o := o) hp
  refine ⟨⟨by rw [List.length_set, List.length_set]; exact R.len, fun j s e => ?_, fun j k c1 d' a e1 e2 e3 e4 => ?_, R2.ext, R2.live, R.bsF, fun j k n c1 d' e1 e2 => ?_, R.nd⟩, km⟩
  · by_cases hj : i = j
    · subst hj
      by_cases hl : i < δ.length
      · rw [List.getElem?_set_self hl] at e
        cases e
        refine ⟨p, o, ?_, upd_same, r.mv m, fun f => R.live p f hp, R.fresh0 hp⟩
        rw [List.getElem?_set_self (by rw [R.len]; exact hl)]
      · rw [List.getElem?_eq_none (by rw [List.length_set]; omega)] at e; cases e
    · rw [List.getElem?_set_ne hj] at e
      rw [List.getElem?_set_ne hj]
      exact (R.slot j s e).mv m (fun q u _ z => by rw [upd_ne (ne_of_none z hp)]; exact z) (fun b hb => .inl (R.bsF b hb)) (fun c p es ex => .inr ⟨j, c, es ▸ e, ex⟩)
  · have pn : ∀ {n : Nat} {c' : Ob} {q : Addr}, δ[n]? = some (.own c') → σ[n]? = some (some (.ref q)) → q ≠ p := fun {n c' q} e1 e2 => by
      have := R.own_live ⟨n, c', e1, e2⟩
      exact fun z => this (z ▸ hp)
    by_cases hj : i = j
    · by_cases hk : i = k
      · rw [← hj, ← hk]
      · subst hj
        rw [List.getElem?_set_ne hk] at e2 e4
        by_cases hl : i < δ.length
        · rw [List.getElem?_set_self (by rw [R.len]; exact hl)] at e3
          cases e3
          exact absurd rfl (pn e2 e4)
        · rw [List.getElem?_eq_none (by rw [List.length_set]; omega)] at e1; cases e1
    · rw [List.getElem?_set_ne hj] at e1 e3
      by_cases hk : i = k
      · subst hk
        by_cases hl : i < δ.length
        · rw [List.getElem?_set_self (by rw [R.len]; exact hl)] at e4
          cases e4
          exact absurd rfl (pn e1 e3)
        · rw [List.getElem?_eq_none (by rw [List.length_set]; omega)] at e2; cases e2
      · rw [List.getElem?_set_ne hk] at e2 e4
        exact R.apart j k c1 d' a e1 e2 e3 e4
  · have h : ∀ {m : Nat} {c' : Ob}, (δ.set i (.own c))[m]? = some (.io n c') → δ[m]? = some (.io n c') := fun {m c'} e => by
      by_cases hj : i = m
      · subst hj
        by_cases hl : i < δ.length
        · rw [List.getElem?_set_self hl] at e; cases e
        · rw [List.getElem?_eq_none (by rw [List.length_set]; omega)] at e; cases e
      · rw [List.getElem?_set_ne hj] at e; exact e
    exact R.ioa j k n c1 d' (h e1) (h e2)

/-! ### things of one's own, changed -/
def obAt (δ : List Sl) (i : Nat) : Option Ob := match δ[i]? with
  | some (.own c) => some c
  | some (.io _ c) => some c
  | _ => none
def setOb (δ : List Sl) (i : Nat) (c : Ob) : List Sl := match δ[i]? with
  | some (.own _) => δ.set i (.own c)
  | some (.io k _) => δ.set i (.io k c)
  | _ => δ
theorem Rel.obj (R : Rel K mg F bs H0 δ σ H) {i : Nat} {c : Ob} (h : obAt δ i = some c) : ∃ p o, σ[i]? = some (some (.ref p)) ∧ H p = some o ∧ ObR K mg (AA F δ σ) H c o ∧ AA F δ σ p ∧ MM bs δ σ p := by
  unfold obAt at h
  cases e : δ[i]? with
  | none => rw [e] at h; cases h
  | some s =>
    rw [e] at h
    have q := R.slot i s e
    cases s with
    | no => cases h
    | val _ => cases h
    | exn _ _ _ _ _ => cases h
    | own c' =>
      cases h
      obtain ⟨p, o, e1, e2, r, n, z⟩ := q
      exact ⟨p, o, e1, e2, r, .inr ⟨i, _, e, e1⟩, .inr ⟨i, _, e, e1⟩⟩
    | io k c' =>
      cases h
      obtain ⟨p, o, eb, e1, e2, r⟩ := q
      exact ⟨p, o, e1, e2, r, .inl (R.bsF p (List.mem_of_getElem? eb)), .inl (List.mem_of_getElem? eb)⟩
theorem own_setOb {i : Nat} {c : Ob} {a : Addr} : OwnAt (setOb δ i c) σ a ↔ OwnAt δ σ a := by
  unfold setOb
  cases e : δ[i]? with
  | none => exact Iff.rfl
  | some s =>
    have hl : i < δ.length := (List.getElem?_eq_some_iff.mp e).1
    cases s with
    | no => exact Iff.rfl
    | val _ => exact Iff.rfl
    | exn _ _ _ _ _ => exact Iff.rfl
    | own c' =>
      constructor
      · rintro ⟨j, d, e1, e2⟩
        by_cases hj : i = j
        · subst hj; exact ⟨i, c', e, e2⟩
        · rw [List.getElem?_set_ne hj] at e1; exact ⟨j, d, e1, e2⟩
      · rintro ⟨j, d, e1, e2⟩
        by_cases hj : i = j
        · subst hj; exact ⟨i, c, List.getElem?_set_self hl, e2⟩
        · exact ⟨j, d, by rw [List.getElem?_set_ne hj]; exact e1, e2⟩
    | io k c' =>
      constructor
      · rintro ⟨j, d, e1, e2⟩
        by_cases hj : i = j
        · subst hj; rw [List.getElem?_set_self hl] at e1; cases e1
        · rw [List.getElem?_set_ne hj] at e1; exact ⟨j, d, e1, e2⟩
      · rintro ⟨j, d, e1, e2⟩
        by_cases hj : i = j
        · subst hj; rw [e] at e1; cases e1
        · exact ⟨j, d, by rw [List.getElem?_set_ne hj]; exact e1, e2⟩
theorem setOb_len {i : Nat} {c : Ob} : (setOb δ i c).length = δ.length := by
  unfold setOb
  split <;> first | exact List.length_set | rfl
theorem setOb_own {i n : Nat} {c d : Ob} (h : (setOb δ i c)[n]? = some (.own d)) : ∃ d', δ[n]? = some (.own d') := by
  unfold setOb at h
  cases e : δ[i]? with
  | none => rw [e] at h; exact ⟨d, h⟩
  | some s =>
    rw [e] at h
    have hl : i < δ.length := (List.getElem?_eq_some_iff.mp e).1
    cases s with
    | no => exact ⟨d, h⟩
    | val _ => exact ⟨d, h⟩
    | exn _ _ _ _ _ => exact ⟨d, h⟩
    | own c' =>
      by_cases hj : i = n
      · subst hj; exact ⟨_, e⟩
      · exact ⟨d, by simpa [List.getElem?_set_ne hj] using h⟩
    | io k c' =>
      by_cases hj : i = n
      · subst hj; simp [List.getElem?_set_self hl] at h
      · exact ⟨d, by simpa [List.getElem?_set_ne hj] using h⟩
theorem setOb_io {i n k : Nat} {c d : Ob} (h : (setOb δ i c)[n]? = some (.io k d)) : ∃ d', δ[n]? = some (.io k d') := by
  unfold setOb at h
  cases e : δ[i]? with
  | none => rw [e] at h; exact ⟨d, h⟩
  | some s =>
    rw [e] at h
    have hl : i < δ.length := (List.getElem?_eq_some_iff.mp e).1
    cases s with
    | no => exact ⟨d, h⟩
    | val _ => exact ⟨d, h⟩
    | exn _ _ _ _ _ => exact ⟨d, h⟩
    | own c' =>
      by_cases hj : i = n
      · subst hj; simp [List.getElem?_set_self hl] at h
      · exact ⟨d, by simpa [List.getElem?_set_ne hj] using h⟩
    | io k' c' =>
      by_cases hj : i = n
      · subst hj
        simp [List.getElem?_set_self hl] at h
        rw [← h.1]
        exact ⟨_, e⟩
      · exact ⟨d, by simpa [List.getElem?_set_ne hj] using h⟩
/-- the thing at slot i becomes another -/
theorem Rel.setOb (R : Rel K mg F bs H0 δ σ H) {i : Nat} {c c' : Ob} {p : Addr} {o' : HO} (h : obAt δ i = some c) (hσ : σ[i]? = some (some (.ref p))) (r : ObR K mg (AA F δ σ) H c' o') :
    Rel K mg F bs H0 (setOb δ i c') σ (upd H p o') ∧ Keep bs δ σ H (DL.setOb δ i c') σ (upd H p o') := by
  obtain ⟨p0, o, e1, e2, r0, ap, mp⟩ := R.obj h
  rw [hσ] at e1
  cases e1
  have km : Keep bs δ σ H (DL.setOb δ i c') σ (upd H p o') := fun a u n e => by
    have ne : a ≠ p := fun z => n (z ▸ mp)
    refine ⟨fun z => z.elim (fun y => n (.inl y)) fun y => n (.inr (own_setOb.mp y)), ?_⟩
    rw [upd_ne ne]; exact e
  have m := R.mv km
  -- the other slots' things stand elsewhere
  have apart : ∀ {j : Nat} {s : Sl} {q : Addr}, δ[j]? = some s → i ≠ j → (∃ d, s = .own d ∨ ∃ k, s = .io k d) → σ[j]? = some (some (.ref q)) → q ≠ p := by
    intro j s q es hij hs eq z
    subst z
    obtain ⟨d, hs⟩ := hs
    have si : ∃ s', δ[i]? = some s' := by
      unfold obAt at h
      cases e : δ[i]? with
      | none => rw [e] at h; cases h
      | some s' => exact ⟨s', rfl⟩
    obtain ⟨s', es'⟩ := si
    have q1 := R.slot i s' es'
    have q2 := R.slot j s es
    have key : ∀ {a b : Sl}, True := fun {_ _} => trivial
    cases s' with
    | no => simp [obAt, es'] at h
    | val _ => simp [obAt, es'] at h
    | exn _ _ _ _ _ => simp [obAt, es'] at h
    | own ci =>
      obtain ⟨p1, o1, f1, f2, _, nF, _⟩ := q1
      rw [hσ] at f1; cases f1
      rcases hs with rfl | ⟨k, rfl⟩
      · exact hij (R.apart i j _ _ q es' es hσ eq)
      · obtain ⟨p2, o2, g0, g1, _⟩ := q2
        rw [eq] at g1; cases g1
        exact nF (R.bsF _ (List.mem_of_getElem? g0))
    | io ki ci =>
      obtain ⟨p1, o1, f0, f1, _⟩ := q1
      rw [hσ] at f1; cases f1
      rcases hs with rfl | ⟨k, rfl⟩
      · obtain ⟨p2, o2, g1, _, _, nF, _⟩ := q2
        rw [eq] at g1; cases g1
        exact nF (R.bsF _ (List.mem_of_getElem? f0))
      · obtain ⟨p2, o2, g0, g1, _⟩ := q2
        rw [eq] at g1; cases g1
        have hk : ki = k := by
          obtain ⟨l1, t1⟩ := List.getElem?_eq_some_iff.mp f0
          obtain ⟨l2, t2⟩ := List.getElem?_eq_some_iff.mp g0
          exact (List.getElem_inj R.nd).mp (t1.trans t2.symm)
        subst hk
        exact hij (R.ioa i j ki _ _ es' es)
  have hl : i < δ.length := by
    unfold obAt at h
    cases e : δ[i]? with
    | none => rw [e] at h; cases h
    | some s' => exact (List.getElem?_eq_some_iff.mp e).1
  refine ⟨⟨by rw [setOb_len]; exact R.len, fun j s e => ?_, fun j k c1 d' a e1 e2' e3 e4 => ?_, fun a u n e => ?_, fun a f => ?_, R.bsF, fun j k n c1 d' f1 f2 => ?_, R.nd⟩, km⟩
  · by_cases hj : i = j
    · subst hj
      unfold DL.setOb at e
      unfold obAt at h
      cases es : δ[i]? with
      | none => rw [es] at h; cases h
      | some s0 =>
        rw [es] at h e
        have q := R.slot i s0 es
        cases s0 with
        | no => cases h
        | val _ => cases h
        | exn _ _ _ _ _ => cases h
        | own c0 =>
          simp only [List.getElem?_set_self hl] at e
          cases e
          obtain ⟨p1, o1, f1, f2, _, nF, nz⟩ := q
          rw [hσ] at f1; cases f1
          exact ⟨p, o', hσ, upd_same, r.mv m, nF, nz⟩
        | io k0 c0 =>
          simp only [List.getElem?_set_self hl] at e
          cases e
          obtain ⟨p1, o1, f0, f1, f2, _⟩ := q
          rw [hσ] at f1; cases f1
          exact ⟨p, o', f0, hσ, upd_same, r.mv m⟩
    · have es : δ[j]? = some s := by
        unfold DL.setOb at e
        split at e <;> first | (rw [List.getElem?_set_ne hj] at e; exact e) | exact e
      have q := R.slot j s es
      cases s with
      | no => trivial
      | val d => obtain ⟨v, e, rr⟩ := q; exact ⟨v, e, rr.mv m⟩
      | exn _ _ _ _ _ => exact exn_mv m q
      | own c0 =>
        obtain ⟨p1, o1, f1, f2, rr, nF, nz⟩ := q
        have ne := apart es hj ⟨c0, .inl rfl⟩ f1
        exact ⟨p1, o1, f1, by rw [upd_ne ne]; exact f2, rr.mv m, nF, nz⟩
      | io k0 c0 =>
        obtain ⟨p1, o1, f0, f1, f2, rr⟩ := q
        have ne := apart es hj ⟨c0, .inr ⟨k0, rfl⟩⟩ f1
        exact ⟨p1, o1, f0, f1, by rw [upd_ne ne]; exact f2, rr.mv m⟩
  · obtain ⟨c2, g1⟩ := setOb_own e1
    obtain ⟨c3, g2⟩ := setOb_own e2'
    exact R.apart j k _ _ a g1 g2 e3 e4
  · by_cases z : a = p
    · subst z
      rcases mp with y | ⟨j, d, f1, f2⟩
      · exact absurd y n
      · obtain ⟨q, oq, g1, g2, _, _, nz⟩ := R.slot j _ f1
        rw [f2] at g1; cases g1
        rw [nz] at e; cases e
    · rw [upd_ne z]; exact R.ext a u n e
  · by_cases z : a = p
    · rw [z, upd_same]; exact fun y => nomatch y
    · rw [upd_ne z]; exact R.live a f
  · obtain ⟨c2, g1⟩ := setOb_io f1
    obtain ⟨c3, g2⟩ := setOb_io f2
    exact R.ioa j k n _ _ g1 g2
end

/-! ### assignments -/
/-- a value that is stored: data alone -/
def sAsg (i : Nat) (f : SE) : SS := fun δ => (f δ).bindS fun a δ1 => match a with
  | .v d => .nx (δ1.set i (.val d))
  | .s _ => .bad
def sNew (i : Nat) (f : SN) : SS := fun δ => (f δ).bindS fun c δ1 => .nx (δ1.set i (.own c))
/-- a new thing as data -/
def eN (f : SN) : SE := fun δ => (f δ).bind fun c δ1 => match obD c with
  | some d => .ok (.v d) δ1
  | none => .bad
section
variable {X : Cx} {W : WX} {K : PySem.W.Frag} {mg : Str → Option Value} {pos : Pos} {σ : St} {H : Hp}
theorem rd_asg {i : Nat} {f : SE} {E : Ends} (h : rdS K mg W (sAsg i f) E σ H) : tAsg (rdE K mg W f) (gName i) E σ H := by
  obtain ⟨F, bs, H0, δ, R, h⟩ := h
  refine ⟨F, bs, H0, δ, R, Post.imp (PostS.first h) fun x H1 ⟨δ1, a, R1, k1, p, h1⟩ => ?_⟩
  cases a with
  | s i => exact h1.elim
  | v d =>
    obtain ⟨R2, k2⟩ := R1.setVal (i := i) p
    exact h1 _ H1 R2 k2
theorem ds_asg {i : Nat} {x : Str} {e : Expr} {f : SE} {pos' : Pos} (hN : X.N.Nodup) (hi : X.N[i]? = some x) (hx : Loc X.env.scope x) (he : DE X W e f) (hs : swapsWith e (some (.Name x pos')) pos.line X.env = pure false := by rfl) (hf : X.fn x = true ∨ X.env.scope.names.lookup x = some .local := by first | exact .inl rfl | exact .inr rfl | assumption) :
    DS X W (.Assign [.Name x pos'] e pos) (sAsg i f) := (ps_set hN hi hx he hs hf).imp fun _ _ _ => rd_asg
theorem rd_new {i : Nat} {f : SN} {E : Ends} (h : rdS K mg W (sNew i f) E σ H) : tAsg (rdN K mg W f) (gName i) E σ H := by
  obtain ⟨F, bs, H0, δ, R, h⟩ := h
  refine ⟨F, bs, H0, δ, R, Post.imp (PostS.first h) fun x H1 ⟨δ1, c, R1, k1, ⟨hp, r⟩, h1⟩ => ?_⟩
  obtain ⟨R2, k2⟩ := R1.setOwn (i := i) hp r
  exact h1 _ _ R2 k2
theorem ds_new {i : Nat} {x : Str} {e : Expr} {f : SN} {pos' : Pos} (hN : X.N.Nodup) (hi : X.N[i]? = some x) (hx : Loc X.env.scope x) (he : DN X W e f) (hs : swapsWith e (some (.Name x pos')) pos.line X.env = pure false := by rfl) (hf : X.fn x = true ∨ X.env.scope.names.lookup x = some .local := by first | exact .inl rfl | exact .inr rfl | assumption) :
    DS X W (.Assign [.Name x pos'] e pos) (sNew i f) := (ps_set hN hi hx he hs hf).imp fun _ _ _ => rd_new
theorem rd_n {f : SN} {Q : VK} (h : rdE K mg W (eN f) σ H Q) : rdN K mg W f σ H Q := by
  obtain ⟨F, bs, H0, δ, R, h⟩ := h
  refine ⟨F, bs, H0, δ, R, Post.imp (Post.first h) fun x H1 ⟨δ1, c, R1, k1, ⟨hp, r⟩, h1⟩ => ?_⟩
  cases c with
  | lst l =>
    obtain ⟨xs, e, r⟩ := r
    rw [e]
    obtain ⟨R2, k2, r2⟩ := R1.lst r hp
    exact h1 _ _ R2 k2 r2
  | dk ks vs =>
    obtain ⟨xs, e, z, r⟩ := r
    have m := R1.mv (keep_new (o := x.2) hp)
    refine h1 _ _ (R1.new hp) (keep_new hp) ?_
    simp only [AgR, Rep]
    exact ⟨x.1, xs, rfl, R1.fresh hp, by rw [e]; exact .inl upd_same, z, r.mv m⟩
  | dt _ _ => exact h1.elim
theorem de_n {e : Expr} {f : SN} (h : DN X W e f) : DE X W e (eN f) := PE.imp h fun _ _ _ => rd_n
end

/-! ### displays -/
def aNil : SA := fun δ => .ok [] δ
def aCons (f : SE) (g : SA) : SA := fun δ => (f δ).bind fun a δ1 => (g δ1).bind fun as δ2 => .ok (a :: as) δ2
/-- all of them data -/
def datas : List Ag → Option (List D)
  | [] => some []
  | .v d :: r => match datas r with
    | some ds => some (d :: ds)
    | none => none
  | .s _ :: _ => none
def looks (δ : List Sl) : List Ag → Option (List D)
  | [] => some []
  | a :: r => match look δ a, looks δ r with
    | some d, some ds => some (d :: ds)
    | _, _ => none
def eTup (g : SA) : SE := fun δ => (g δ).bind fun as δ1 => match datas as with
  | some ds => if ds.length ≤ 1000 then .ok (.v (.tup ds)) δ1 else .bad
  | none => .bad
def nLst (g : SA) : SN := fun δ => (g δ).bind fun as δ1 => match datas as with
  | some ds => if ds.length ≤ 1000 then .ok (.lst ds) δ1 else .bad
  | none => .bad
def RepWL (K : PySem.W.Frag) (mg : Str → Option Value) (A : AP) (H : Hp) : List D → List V → Prop
  | [], xs => xs = []
  | d :: ds, xs => ∃ x r, xs = x :: r ∧ RepW K mg A H d x ∧ RepWL K mg A H ds r
section
variable {X : Cx} {W : WX} {K : PySem.W.Frag} {mg : Str → Option Value} {pos : Pos} {F : AP} {bs : List Addr} {H0 H : Hp} {δ : List Sl} {σ : St}
theorem AgsR.datas : ∀ {as : List Ag} {xs : List V} {ds : List D}, AgsR K mg F δ σ H as xs → DL.datas as = some ds → RepL K mg (AA F δ σ) H ds xs
  | [], xs, ds, h, e => by cases e; rw [show xs = [] from h]; exact RepL.nil
  | .v d :: r, xs, ds, h, e => by
    obtain ⟨x, y, e1, h1, h2⟩ := h
    simp only [DL.datas] at e
    cases e2 : DL.datas r with
    | none => rw [e2] at e; cases e
    | some ds' =>
      rw [e2] at e
      cases e
      subst e1
      exact RepL.cons h1 (AgsR.datas h2 e2)
  | .s i :: r, xs, ds, h, e => by cases e
theorem AgsR.looks (R : Rel K mg F bs H0 δ σ H) : ∀ {as : List Ag} {xs : List V} {ds : List D}, AgsR K mg F δ σ H as xs → DL.looks δ as = some ds → RepWL K mg (AA F δ σ) H ds xs
  | [], xs, ds, h, e => by cases e; exact h
  | a :: r, xs, ds, h, e => by
    obtain ⟨x, y, e1, h1, h2⟩ := h
    simp only [DL.looks] at e
    cases e2 : look δ a with
    | none => rw [e2] at e; cases e
    | some d =>
      cases e3 : DL.looks δ r with
      | none => rw [e2, e3] at e; cases e
      | some ds' =>
        rw [e2, e3] at e
        cases e
        exact ⟨x, y, e1, R.look h1 e2, AgsR.looks R h2 e3⟩
theorem da_nil : DA X W [] aNil := pa_nil.imp fun σ H Q ⟨F, bs, H0, δ, R, h⟩ => h [] H R .refl rfl
theorem da_cons {e : Expr} {es : List Expr} {f : SE} {g : SA} (ha : DE X W e f) (hr : DA X W es g) (hs : starEach (e :: es) X.env = (false, eval e X.env) :: starEach es X.env := by rfl) : DA X W (e :: es) (aCons f g) := (pa_cons ha hr hs).imp fun σ H Q h => by
  obtain ⟨F, bs, H0, δ, R, h⟩ := h
  refine ⟨F, bs, H0, δ, R, Post.imp (Post.first h) fun x H1 ⟨δ1, a, R1, k1, p, h1⟩ => ?_⟩
  refine ⟨F, bs, H0, δ1, R1, Post.imp (Post.first h1) fun xs H2 ⟨δ2, as, R2, k2, q, h2⟩ => ?_⟩
  exact h2 (x :: xs) H2 R2 .refl ⟨x, xs, rfl, p.mv R1 k2, q⟩
theorem de_tup {es : List Expr} {x1} {g : SA} (h : DA X W es g) : DE X W (.Tuple es x1 pos) (eTup g) := (pe_tup h).imp fun σ H Q h => by
  obtain ⟨F, bs, H0, δ, R, h⟩ := h
  refine ⟨F, bs, H0, δ, R, Post.imp (Post.first h) fun xs H1 ⟨δ1, as, R1, k1, p, h1⟩ => ?_⟩
  cases e : datas as with
  | none => simp only [e] at h1; exact h1.elim
  | some ds =>
    simp only [e] at h1
    have r := p.datas e
    by_cases z : ds.length ≤ 1000
    · rw [if_pos z] at h1
      refine ⟨by rw [r.len]; exact lim_le (Nat.le_trans z (by decide)), fun q hq => ?_⟩
      obtain ⟨R2, k2, r2⟩ := R1.tup r hq
      exact h1 _ _ R2 k2 r2
    · rw [if_neg z] at h1; exact h1.elim
theorem dn_lst {es : List Expr} {g : SA} (h : DA X W es g) : DN X W (.List es pos) (nLst g) := (pe_lst h).imp fun σ H Q h => by
  obtain ⟨F, bs, H0, δ, R, h⟩ := h
  refine ⟨F, bs, H0, δ, R, Post.imp (Post.first h) fun xs H1 ⟨δ1, as, R1, k1, p, h1⟩ => ?_⟩
  cases e : datas as with
  | none => simp only [e] at h1; exact h1.elim
  | some ds =>
    simp only [e] at h1
    have r := p.datas e
    by_cases z : ds.length ≤ 1000
    · rw [if_pos z] at h1
      refine ⟨by rw [r.len]; exact lim_le (Nat.le_trans z (by decide)), fun q hq => ?_⟩
      exact h1 (q, .lst xs) H1 R1 .refl ⟨hq, xs, rfl, r⟩
    · rw [if_neg z] at h1; exact h1.elim

/-! ### calls of built-ins -/
def CrS (K : PySem.W.Frag) (mg : Str → Option Value) (r : List V → Hp → VK → Prop) (g : List D → Option D) : Prop :=
  ∀ F bs H0 δ σ H ds d xs Q, Rel K mg F bs H0 δ σ H → RepWL K mg (AA F δ σ) H ds xs → g ds = some d → (∀ v H', Rel K mg F bs H0 δ σ H' → Keep bs δ σ H δ σ H' → Rep K mg (AA F δ σ) H' d v → Q v H') → r xs H Q
def CrN (K : PySem.W.Frag) (mg : Str → Option Value) (r : List V → Hp → VK → Prop) (g : List D → Option Ob) : Prop :=
  ∀ F bs H0 δ σ H ds c xs Q, Rel K mg F bs H0 δ σ H → RepWL K mg (AA F δ σ) H ds xs → g ds = some c → (∀ p o, H p = none → ObR K mg (AA F δ σ) H c o → Q (.ref p) (upd H p o)) → r xs H Q
def eCB (g : List D → Option D) (fa : SA) : SE := fun δ => (fa δ).bind fun as δ1 => match looks δ1 as with
  | some ds => opt (g ds) δ1
  | none => .bad
def nCB (g : List D → Option Ob) (fa : SA) : SN := fun δ => (fa δ).bind fun as δ1 => match looks δ1 as with
  | some ds => match g ds with
    | some c => .ok c δ1
    | none => .bad
  | none => .bad
theorem rd_cb {r : List V → Hp → VK → Prop} {g : List D → Option D} {fa : SA} (sem : CrS K mg r g) {Q : VK} (h : rdE K mg W (eCB g fa) σ H Q) : tCB r (rdA K mg W fa) σ H Q := by
  obtain ⟨F, bs, H0, δ, R, h⟩ := h
  refine ⟨F, bs, H0, δ, R, Post.imp (Post.first h) fun xs H1 ⟨δ1, as, R1, k1, p, h1⟩ => ?_⟩
  cases e : looks δ1 as with
  | none => simp only [e] at h1; exact h1.elim
  | some ds =>
    simp only [e] at h1
    obtain ⟨d, e2, q⟩ := Post.optd (H' := H1) h1
    exact sem F bs H0 δ1 σ H1 ds d xs Q R1 (p.looks R1 e) e2 q
theorem rd_cn {r : List V → Hp → VK → Prop} {g : List D → Option Ob} {fa : SA} (sem : CrN K mg r g) {Q : VK} (h : rdN K mg W (nCB g fa) σ H Q) : tCB r (rdA K mg W fa) σ H Q := by
  obtain ⟨F, bs, H0, δ, R, h⟩ := h
  refine ⟨F, bs, H0, δ, R, Post.imp (Post.first h) fun xs H1 ⟨δ1, as, R1, k1, p, h1⟩ => ?_⟩
  cases e : looks δ1 as with
  | none => simp only [e] at h1; exact h1.elim
  | some ds =>
    simp only [e] at h1
    cases e2 : g ds with
    | none => simp only [e2] at h1; exact h1.elim
    | some c =>
      simp only [e2] at h1
      exact sem F bs H0 δ1 σ H1 ds c xs Q R1 (p.looks R1 e) e2 fun q o hq r => h1 (q, o) H1 R1 .refl ⟨hq, r⟩
variable {x : Str} {e : Expr} {es : List Expr} {q : Pos} {fa : SA}
theorem de_callB {id : String} {r : List V → Hp → VK → Prop} {g : List D → Option D} (hc : CallR X (.builtin id) r) (sem : CrS X.K X.mg r g) (hg : Gl X x) (hm : X.mg x = none) (hv : bootBuiltins x = some (.builtin id)) (ha : DA X W (e :: es) fa) (hn : x ≠ "__name__" := by decide) (hdb : (x == ("__debug__" : Str)) = false := by decide)
    (he : starEach (e :: es) X.env = (false, eval e X.env) :: starEach es X.env := by rfl) (hpl : (backTo pos (starEach es X.env)).any (·.1) = false := by rfl) : DE X W (.Call (.Name x q) (e :: es) [] pos) (eCB g fa) := (pe_callB hc hg hm hv ha hn hdb he hpl).imp fun _ _ _ => rd_cb sem
theorem de_callTy {T : String} {r : List V → Hp → VK → Prop} {g : List D → Option D} (hc : CallR X (.type T) r) (sem : CrS X.K X.mg r g) (hg : Gl X x) (hm : X.mg x = none) (hv : bootBuiltins x = some (.type T)) (ha : DA X W (e :: es) fa) (hn : x ≠ "__name__" := by decide) (hdb : (x == ("__debug__" : Str)) = false := by decide)
    (he : starEach (e :: es) X.env = (false, eval e X.env) :: starEach es X.env := by rfl) (hpl : (backTo pos (starEach es X.env)).any (·.1) = false := by rfl) : DE X W (.Call (.Name x q) (e :: es) [] pos) (eCB g fa) := (pe_callTy hc hg hm hv ha hn hdb he hpl).imp fun _ _ _ => rd_cb sem
theorem dn_callB {id : String} {r : List V → Hp → VK → Prop} {g : List D → Option Ob} (hc : CallR X (.builtin id) r) (sem : CrN X.K X.mg r g) (hg : Gl X x) (hm : X.mg x = none) (hv : bootBuiltins x = some (.builtin id)) (ha : DA X W (e :: es) fa) (hn : x ≠ "__name__" := by decide) (hdb : (x == ("__debug__" : Str)) = false := by decide)
    (he : starEach (e :: es) X.env = (false, eval e X.env) :: starEach es X.env := by rfl) (hpl : (backTo pos (starEach es X.env)).any (·.1) = false := by rfl) : DN X W (.Call (.Name x q) (e :: es) [] pos) (nCB g fa) := (pe_callB hc hg hm hv ha hn hdb he hpl).imp fun _ _ _ => rd_cn sem
theorem dn_callTy {T : String} {r : List V → Hp → VK → Prop} {g : List D → Option Ob} (hc : CallR X (.type T) r) (sem : CrN X.K X.mg r g) (hg : Gl X x) (hm : X.mg x = none) (hv : bootBuiltins x = some (.type T)) (ha : DA X W (e :: es) fa) (hn : x ≠ "__name__" := by decide) (hdb : (x == ("__debug__" : Str)) = false := by decide)
    (he : starEach (e :: es) X.env = (false, eval e X.env) :: starEach es X.env := by rfl) (hpl : (backTo pos (starEach es X.env)).any (·.1) = false := by rfl) : DN X W (.Call (.Name x q) (e :: es) [] pos) (nCB g fa) := (pe_callTy hc hg hm hv ha hn hdb he hpl).imp fun _ _ _ => rd_cn sem
end

/-! ### a thing of one's own becomes data -/
def frz1 (δ : List Sl) (i : Nat) : List Sl := match δ[i]? with
  | some (.own c) => match obD c with
    | some d => δ.set i (.val d)
    | none => δ
  | _ => δ
def frz : List Nat → List Sl → List Sl
  | [], δ => δ
  | i :: is, δ => frz is (frz1 δ i)
def sFrz (is : List Nat) (f : SS) : SS := fun δ => (f δ).then fun δ' => .nx (frz is δ')
section
variable {K : PySem.W.Frag} {mg : Str → Option Value} {F : AP} {bs : List Addr} {H0 H : Hp} {δ : List Sl} {σ : St}
theorem set_own {i j : Nat} {d : D} {c : Ob} (h : (δ.set i (.val d))[j]? = some (.own c)) : i ≠ j ∧ δ[j]? = some (.own c) := by
  by_cases hj : i = j
  · subst hj
    by_cases hl : i < δ.length
    · rw [List.getElem?_set_self hl] at h; cases h
    · rw [List.getElem?_eq_none (by rw [List.length_set]; omega)] at h; cases h
  · rw [List.getElem?_set_ne hj] at h; exact ⟨hj, h⟩
theorem set_io {i j n : Nat} {d : D} {c : Ob} (h : (δ.set i (.val d))[j]? = some (.io n c)) : δ[j]? = some (.io n c) := by
  by_cases hj : i = j
  · subst hj
    by_cases hl : i < δ.length
    · rw [List.getElem?_set_self hl] at h; cases h
    · rw [List.getElem?_eq_none (by rw [List.length_set]; omega)] at h; cases h
  · rw [List.getElem?_set_ne hj] at h; exact h
theorem Rel.frz1 (R : Rel K mg F bs H0 δ σ H) (i : Nat) : Rel K mg F bs H0 (DL.frz1 δ i) σ H ∧ Keep bs δ σ H (DL.frz1 δ i) σ H := by
  unfold DL.frz1
  cases e : δ[i]? with
  | none => exact ⟨R, .refl⟩
  | some s =>
    cases s with
    | no => exact ⟨R, .refl⟩
    | val _ => exact ⟨R, .refl⟩
    | exn _ _ _ _ _ => exact ⟨R, .refl⟩
    | io _ _ => exact ⟨R, .refl⟩
    | own c =>
      cases eo : obD c with
      | none => simp only [eo]; exact ⟨R, .refl⟩
      | some d =>
        simp only [eo]
        obtain ⟨p, o, e1, e2, r, nF, z0⟩ := R.slot i _ e
        have ow : ∀ {a : Addr}, OwnAt (δ.set i (.val d)) σ a → OwnAt δ σ a ∧ a ≠ p := fun {a} h => by
          obtain ⟨j, c', f1, f2⟩ := h
          obtain ⟨hj, f3⟩ := set_own f1
          exact ⟨⟨j, c', f3, f2⟩, fun z => hj (R.apart i j _ _ p e f3 e1 (z ▸ f2))⟩
        have km : Keep bs δ σ H (δ.set i (.val d)) σ H := fun a o n e => ⟨fun z => n (z.elim .inl fun y => .inr (ow y).1), e⟩
        have m := R.mv km
        have np : ¬ AA F (δ.set i (.val d)) σ p := fun z => z.elim nF fun y => (ow y).2 rfl
        refine ⟨⟨by rw [List.length_set]; exact R.len, fun j s es => ?_, fun j k c1 d' a f1 f2 f3 f4 => R.apart j k _ _ a (set_own f1).2 (set_own f2).2 f3 f4, R.ext, R.live, R.bsF, fun j k n c1 d' f1 f2 => R.ioa j k n _ _ (set_io f1) (set_io f2), R.nd⟩, km⟩
        by_cases hj : i = j
        · subst hj
          rw [List.getElem?_set_self (List.getElem?_eq_some_iff.mp e).1] at es
          cases es
          refine ⟨.ref p, e1, ?_⟩
          cases c with
          | lst l =>
            cases eo
            obtain ⟨xs, ee, r⟩ := r
            subst ee
            simp only [Rep]
            exact ⟨p, xs, rfl, ⟨e2, np⟩, RepL.mv m _ _ r⟩
          | dk ks vs =>
            cases eo
            obtain ⟨xs, ee, l, r⟩ := r
            subst ee
            simp only [Rep]
            exact ⟨p, xs, rfl, np, .inl e2, l, RepL.mv m _ _ r⟩
          | dt ks vs => cases eo
        · rw [List.getElem?_set_ne hj] at es
          exact (R.slot j s es).mv m (fun _ _ _ z => z) (fun b hb => .inl (R.bsF b hb)) (fun c p es' ex => .inr ⟨j, c, es' ▸ es, ex⟩)
theorem Rel.frz : ∀ (is : List Nat) {δ : List Sl}, Rel K mg F bs H0 δ σ H → Rel K mg F bs H0 (DL.frz is δ) σ H ∧ Keep bs δ σ H (DL.frz is δ) σ H
  | [], δ, R => ⟨R, .refl⟩
  | i :: is, δ, R => by
    obtain ⟨R1, k1⟩ := R.frz1 i
    obtain ⟨R2, k2⟩ := Rel.frz is R1
    exact ⟨R2, k1.trans k2⟩
variable {X : Cx} {W : WX}
theorem rd_frz {is : List Nat} {f : SS} {E : Ends} (h : rdS K mg W (sFrz is f) E σ H) : rdS K mg W f E σ H := by
  obtain ⟨F, bs, H0, δ, R, h⟩ := h
  refine ⟨F, bs, H0, δ, R, ?_⟩
  unfold sFrz at h
  cases e : f δ with
  | nx δ' =>
    rw [e] at h
    intro σ' H' R' k'
    obtain ⟨R2, k2⟩ := Rel.frz is R'
    exact h σ' H' R2 (k'.trans k2)
  | rt d δ' => rw [e] at h; exact h
  | rtN c δ' => rw [e] at h; exact h
  | bk δ' => rw [e] at h; exact h
  | ct δ' => rw [e] at h; exact h
  | exc c ns vs δ' => rw [e] at h; exact h
  | bad => rw [e] at h; exact h.elim
theorem ds_frz {st : Stmt} {is : List Nat} {f : SS} (h : DS X W st f) : DS X W st (sFrz is f) := h.imp fun _ _ _ => rd_frz
/-- return of a new thing -/
def sRetNew (f : SN) : SS := fun δ => (f δ).bindS fun c δ1 => .rtN c δ1
theorem rd_retNew {f : SN} {E : Ends} (h : rdS K mg W (sRetNew f) E σ H) : rdN K mg W f σ H fun v H1 => E.rt v H1 := by
  obtain ⟨F, bs, H0, δ, R, h⟩ := h
  refine ⟨F, bs, H0, δ, R, Post.imp (PostS.first h) fun x H1 ⟨δ1, c, R1, k1, ⟨hp, r⟩, h1⟩ => ?_⟩
  refine h1 x.1 x.2 σ H1 hp R1 .refl (ObR.mv (fun a o n e => ?_) r)
  exact ⟨fun z => n (.inl z), e⟩
theorem ds_retNew {e : Expr} {f : SN} {pos : Pos} (h : DN X W e f) : DS X W (.Return (some e) pos) (sRetNew f) := (ps_ret h).imp fun E σ H h => rd_retNew h
end
end DL
set_option Elab.async false
set_option linter.all false
set_option maxRecDepth 100000
set_option maxHeartbeats 4000000
/-! DL: what is walked; for, while; comprehensions. -/
namespace DL
open PySem PySem.Spec L2
open PyProof.Rows hiding St

/-! ### targets -/
abbrev TgF := D → List Sl → Option (List Sl)
abbrev TgsF := List D → List Sl → Option (List Sl)
def tgN (i : Nat) : TgF := fun d δ => some (δ.set i (.val d))
def tgNil : TgsF := fun ds δ => match ds with
  | [] => some δ
  | _ => none
def tgCons (g : TgF) (gs : TgsF) : TgsF := fun ds δ => match ds with
  | d :: r => match g d δ with
    | some δ1 => gs r δ1
    | none => none
  | [] => none
def tgTup (n : Nat) (gs : TgsF) : TgF := fun d δ => match d with
  | .tup l => if l.length = n then gs l δ else none
  | .lst l => if l.length = n then gs l δ else none
  | _ => none
def rdG (K : PySem.W.Frag) (mg : Str → Option Value) (tgs : List Nat) (γ : TgF) : TG := fun v σ H Q => ∃ F bs H0 δ d δ', Rel K mg F bs H0 δ σ H ∧ Rep K mg (AA F δ σ) H d v ∧ γ d δ = some δ' ∧
  ∀ σ', Rel K mg F bs H0 δ' σ' H → Keep bs δ σ H δ' σ' H → (∀ j, j ∉ tgs → σ'[j]? = σ[j]?) → σ'.length = σ.length → Q σ' H
def rdGs (K : PySem.W.Frag) (mg : Str → Option Value) (tgs : List Nat) (γ : TgsF) : TGs := fun vs σ H Q => ∃ F bs H0 δ ds δ', Rel K mg F bs H0 δ σ H ∧ RepL K mg (AA F δ σ) H ds vs ∧ γ ds δ = some δ' ∧
  ∀ σ', Rel K mg F bs H0 δ' σ' H → Keep bs δ σ H δ' σ' H → (∀ j, j ∉ tgs → σ'[j]? = σ[j]?) → σ'.length = σ.length → Q σ' H
abbrev DG (X : Cx) (tg : Expr) (tgs : List Nat) (γ : TgF) : Prop := PG X tg (rdG X.K X.mg tgs γ)
abbrev DGs (X : Cx) (tg : List Expr) (tgs : List Nat) (γ : TgsF) : Prop := PGs X tg (rdGs X.K X.mg tgs γ)
section
variable {X : Cx} {K : PySem.W.Frag} {mg : Str → Option Value} {pos : Pos}
theorem _root_.L2.PGs.imp {es : List Expr} {t t' : TGs} (h : PGs X es t) (i : ∀ v σ H Q, t' v σ H Q → t v σ H Q) : PGs X es t' := ⟨fun pins s σ H v u Q I r q => h.run pins s σ H v u Q I r (i v σ H Q q)⟩
theorem _root_.L2.PG.or {e : Expr} {t t' : TG} (h : PG X e t) (h' : PG X e t') : PG X e (fun v σ H Q => t v σ H Q ∨ t' v σ H Q) := ⟨fun pins s σ H v u Q I r q => q.elim (fun z => h.run pins s σ H v u Q I r z) fun z => h'.run pins s σ H v u Q I r z⟩
theorem dg_name {i : Nat} {x : Str} (hN : X.N.Nodup) (hi : X.N[i]? = some x) (hx : Loc X.env.scope x) (hf : X.fn x = true ∨ X.env.scope.names.lookup x = some .local := by first | exact .inl rfl | exact .inr rfl | assumption) : DG X (.Name x pos) [i] (tgN i) := (pg_name hN hi hx hf).imp fun v σ H Q h => by
  obtain ⟨F, bs, H0, δ, d, δ', R, r, e, q⟩ := h
  cases e
  obtain ⟨R2, k2⟩ := R.setVal (i := i) r
  exact q _ R2 k2 (fun j hj => List.getElem?_set_ne (fun z => hj (by simp [z]))) List.length_set
theorem dgs_nil : DGs X [] [] tgNil := pgs_nil.imp fun v σ H Q h => by
  obtain ⟨F, bs, H0, δ, ds, δ', R, r, e, q⟩ := h
  cases ds with
  | cons _ _ => cases e
  | nil =>
    cases e
    exact ⟨by simpa only [RepL] using r, q σ R .refl (fun _ _ => rfl) rfl⟩
theorem dgs_cons {e : Expr} {es : List Expr} {t u : List Nat} {g : TgF} {gs : TgsF} (h1 : DG X e t g) (h2 : DGs X es u gs)
    (hs : (assignEach (e :: es) X.env).map (·.2) = assign e X.env :: (assignEach es X.env).map (·.2) := by rfl) : DGs X (e :: es) (t ++ u) (tgCons g gs) := (pgs_cons h1 h2 hs).imp fun v σ H Q h => by
  obtain ⟨F, bs, H0, δ, ds, δ', R, r, e, q⟩ := h
  cases ds with
  | nil => cases e
  | cons d rest =>
    simp only [RepL] at r
    obtain ⟨x, r', e1, r1, r2⟩ := r
    simp only [tgCons] at e
    cases eg : g d δ with
    | none => rw [eg] at e; cases e
    | some δ1 =>
      rw [eg] at e
      refine ⟨x, r', e1, F, bs, H0, δ, d, δ1, R, r1, eg, fun σ' R1 k1 s1 l1 => ?_⟩
      refine ⟨F, bs, H0, δ1, rest, δ', R1, RepL.mv (R.mv k1) _ _ r2, e, fun σ2 R2 k2 s2 l2 => ?_⟩
      exact q σ2 R2 (k1.trans k2) (fun j hj => (s2 j fun z => hj (by simp [z])).trans (s1 j fun z => hj (by simp [z]))) (l2.trans l1)
theorem dg_tup {es : List Expr} {k : Nat} {n : Nat} {t : List Nat} {gs : TgsF} (hc : X.calm = true) (h : DGs X es t gs)
    (hn : (assignEach es X.env).length = n := by rfl) (hst : (assignEach es X.env).findIdx? (·.1) = none := by rfl) : DG X (.Tuple es k pos) t (tgTup n gs) := ((pg_tup hc h hn hst).or (pg_unl hc h hn hst)).imp fun v σ H Q hh => by
  obtain ⟨F, bs, H0, δ, d, δ', R, r, e, q⟩ := hh
  cases d <;> try cases e
  · rename_i l
    simp only [tgTup] at e
    simp only [Rep] at r
    obtain ⟨a, xs, ev, t1, r1⟩ := r
    by_cases z : l.length = n
    · rw [if_pos z] at e
      exact .inl ⟨a, xs, ev, t1.sq, by rw [r1.len]; exact z, F, bs, H0, δ, l, δ', R, r1, e, q⟩
    · rw [if_neg z] at e; cases e
  · rename_i l
    simp only [tgTup] at e
    simp only [Rep] at r
    obtain ⟨a, xs, ev, t1, r1⟩ := r
    by_cases z : l.length = n
    · rw [if_pos z] at e
      exact .inr ⟨a, xs, ev, t1.sq, by rw [r1.len]; exact z, F, bs, H0, δ, l, δ', R, r1, e, q⟩
    · rw [if_neg z] at e; cases e
/-- target = value, any target -/
def sTgt (g : TgF) (f : SE) : SS := fun δ => (f δ).bindS fun a δ1 => match a with
  | .v d => match g d δ1 with
    | some δ2 => .nx δ2
    | none => .bad
  | .s _ => .bad
theorem ds_tgt {W : WX} {tg e : Expr} {t : List Nat} {g : TgF} {f : SE} (he : DE X W e f) (hg : DG X tg t g) (hs : swapsWithSole [tg] e pos.line X.env = pure false := by rfl) (hw : swappedStores [tg] e X.env = pure none := by rfl)
    (h1 : (assignEach [tg] X.env).map (·.2) = [assign tg X.env] := by rfl) : DS X W (.Assign [tg] e pos) (sTgt g f) := (ps_asg he hg hs hw h1).imp fun E σ H h => by
  obtain ⟨F, bs, H0, δ, R, h⟩ := h
  refine ⟨F, bs, H0, δ, R, Post.imp (PostS.first h) fun x H1 ⟨δ1, a, R1, k1, p, h1⟩ => ?_⟩
  cases a with
  | s i => exact h1.elim
  | v d =>
    cases eg : g d δ1 with
    | none => simp only [eg] at h1; exact h1.elim
    | some δ2 =>
      simp only [eg] at h1
      exact ⟨F, bs, H0, δ1, d, δ2, R1, p, eg, fun σ' R2 k2 _ _ => h1 σ' H1 R2 k2⟩
/-- a, b = x, y -/
def sPar (i j : Nat) (f : SA) : SS := fun δ => (f δ).bindS fun as δ1 => match as with
  | [.v a, .v b] => .nx ((δ1.set i (.val a)).set j (.val b))
  | _ => .bad
theorem ds_par {W : WX} {i j : Nat} {x y : Str} {a b : Expr} {f : SA} {px py pt : Pos} {kt k2 pt2} (hc : X.calm = true) (hN : X.N.Nodup) (hi : X.N[i]? = some x) (hj : X.N[j]? = some y) (hij : i ≠ j)
    (hx : X.env.scope.names.lookup x = some .local) (hy : X.env.scope.names.lookup y = some .local) (ha : DA X W [a, b] f)
    (hw : swappedStores [.Tuple [.Name x px, .Name y py] kt pt] (.Tuple [a, b] k2 pt2) X.env = pure (some [x, y]) := by rfl)
    (hs : swapsWithSole [.Tuple [.Name x px, .Name y py] kt pt] (.Tuple [a, b] k2 pt2) pos.line X.env = pure false := by rfl) :
    DS X W (.Assign [.Tuple [.Name x px, .Name y py] kt pt] (.Tuple [a, b] k2 pt2) pos) (sPar i j f) := (ps_par hc hN hi hj hij hx hy ha hw hs).imp fun E σ H h => by
  obtain ⟨F, bs, H0, δ, R, h⟩ := h
  refine ⟨F, bs, H0, δ, R, Post.imp (PostS.first h) fun xs H1 ⟨δ1, as, R1, k1, p, h1⟩ => ?_⟩
  match as, h1, p with
  | [], h1, _ => exact h1.elim
  | [_], h1, _ => exact (by cases ‹Ag› <;> exact h1.elim)
  | .s _ :: _ :: _, h1, _ => exact h1.elim
  | .v _ :: .s _ :: _, h1, _ => exact h1.elim
  | .v _ :: .v _ :: _ :: _, h1, _ => exact h1.elim
  | [.v d1, .v d2], h1, p =>
    obtain ⟨x1, r1, e1, p1, x2, r2, e2, p2, e3⟩ := p
    obtain rfl : r2 = [] := e3
    subst e2 e1
    refine ⟨x1, x2, rfl, ?_⟩
    obtain ⟨R2, k2⟩ := R1.setVal (i := i) p1
    obtain ⟨R3, k3⟩ := R2.setVal (i := j) (Rep.mv (R1.mv k2) _ _ p2)
    exact h1 _ H1 R3 (k2.trans k3)
end

/-! ### what is walked -/
structure ItD where
  items : List D
  guard : List (Nat × List D)
abbrev SI := List Sl → R ItD
def JOk (K : PySem.W.Frag) (mg : Str → Option Value) (F : AP) (bs : List Addr) (H0 : Hp) (σ : St) (t : ItD) (δ : List Sl) (J : It) (H : Hp) : Prop :=
  ∀ F' δ' σ' H', (∀ a, F a → F' a) → (∀ a o, H a = some o → F' a → F a) → Rel K mg F' bs H0 δ' σ' H' → Keep bs δ σ H δ' σ' H' → (∀ p, p ∈ t.guard → σ'[p.1]? = σ[p.1]? ∧ obAt δ' p.1 = some (.lst p.2)) →
    J.stop t.items.length H' ∧ ∀ i d, t.items[i]? = some d → J.go i H' ∧ ∀ x H'', J.yld i H' x H'' → Rel K mg F' bs H0 δ' σ' H'' ∧ Keep bs δ' σ' H' δ' σ' H'' ∧ Rep K mg (AA F' δ' σ') H'' d x
def rdI (K : PySem.W.Frag) (mg : Str → Option Value) (W : WX) (f : SI) : TI := fun σ H R => ∃ F bs H0 δ, Rel K mg F bs H0 δ σ H ∧ Post K mg W F bs H0 (JOk K mg F bs H0 σ) δ σ H (f δ) R
abbrev DI (X : Cx) (W : WX) (tg it : Expr) (f : SI) : Prop := PI X tg it (rdI X.K X.mg W f)
theorem mv_up {bs : List Addr} {δ δ' : List Sl} {σ σ' : St} {H H' : Hp} {F F' : AP} (hb : ∀ b, b ∈ bs → F b) (hF : ∀ a o, H a = some o → F' a → F a) (k : Keep bs δ σ H δ' σ' H') : Mv (AA F δ σ) H (AA F' δ' σ') H' := fun a o n e => by
  obtain ⟨n1, e1⟩ := k a o (fun z => n (z.elim (fun y => .inl (hb a y)) .inr)) e
  exact ⟨fun z => z.elim (fun y => n (.inl (hF a o e y))) fun y => n1 (.inr y), e1⟩
section
variable {X : Cx} {W : WX} {K : PySem.W.Frag} {mg : Str → Option Value} {pos : Pos} {tg : Expr} {F : AP} {bs : List Addr} {H0 H : Hp} {δ : List Sl} {σ : St}
/-- a list, a tuple -/
theorem pi_seq {l : Expr} {tl : TE} (hl : PE X l tl) : PI X tg l (fun σ H R => tl σ H fun x H1 => ∃ a, x = .ref a ∧ (((∃ xs, SqL X.K H1 a xs) ∧ R (Itl X.K a) H1) ∨ ((∃ xs, SqT X.K H1 a xs) ∧ R (Itt X.K a) H1))) := by
  refine ⟨fun pins s σ H R I h => ?_⟩
  refine thn (hl.run pins s σ H _ I h) fun v s1 ⟨x, H1, I1, r1, q1⟩ => ?_
  obtain ⟨a, e, q⟩ := q1
  subst e
  cases r1
  rcases q with ⟨⟨xs, hq⟩, q⟩ | ⟨⟨xs, hq⟩, q⟩
  · obtain ⟨its, rv, p, hz⟩ := I1.list hq
    refine wpAny_pyIter_list p.isList ?_
    refine ⟨s1.heap.objs.size, [s1.heap.objs.size], _, _, H1, rfl, I1.kept (t' := s1.toks) fun b o e => Heap.get?_push_of_some _ e, turn_list a _, ⟨_, Heap.get?_push_size _ rfl, rfl, rfl⟩, fun b hb => ?_, q⟩
    have e : b = s1.heap.objs.size := by simpa using hb
    subst e
    exact I1.fpOk (Nat.le_refl _) (I1.hok.fresh (Nat.le_refl _))
  · obtain ⟨its, rv, p, hz⟩ := I1.tuple hq
    refine wpAny_pyIter_tuple (show s1.heap.IsTuple a its.toArray from p) ?_
    refine ⟨s1.heap.objs.size, [s1.heap.objs.size], _, _, H1, rfl, I1.kept (t' := s1.toks) fun b o e => Heap.get?_push_of_some _ e, turn_tuple a _, ⟨_, Heap.get?_push_size _ rfl, rfl, rfl⟩, fun b hb => ?_, q⟩
    have e : b = s1.heap.objs.size := by simpa using hb
    subst e
    exact I1.fpOk (Nat.le_refl _) (I1.hok.fresh (Nat.le_refl _))
def iSeq (f : SE) : SI := fun δ => (f δ).bind fun a δ1 => match a with
  | .v (.lst l) => .ok ⟨l, []⟩ δ1
  | .v (.tup l) => .ok ⟨l, []⟩ δ1
  | .v (.frl l) => .ok ⟨l, []⟩ δ1
  | .s i => match obAt δ1 i with
    | some (.lst l) => .ok ⟨l, [(i, l)]⟩ δ1
    | _ => .bad
  | _ => .bad
theorem jok_list (hb : ∀ b, b ∈ bs → F b) {a : Addr} {l : List D} {xs : List V} (t : (Rd H a (.lst xs) ∧ ¬ AA F δ σ a) ∨ KLst K a xs) (r : RepL K mg (AA F δ σ) H l xs) : JOk K mg F bs H0 σ ⟨l, []⟩ δ (Itl K a) H := by
  intro F' δ' σ' H' h1 h2 R k g
  have m := mv_up hb h2 k
  have t' : SqL K H' a xs := t.elim (fun z => .inl (rd_mv m z.1 z.2).1) .inr
  have r' := RepL.mv m _ _ r
  refine ⟨⟨xs, t', by rw [r'.len]; exact Nat.le_refl _⟩, fun i d e => ?_⟩
  obtain ⟨x, e1, rx⟩ := r'.get e
  refine ⟨⟨xs, x, t', e1⟩, fun y H'' q => ?_⟩
  obtain ⟨e2, q⟩ := q
  subst e2
  have e3 := q xs t'
  rw [e1] at e3
  cases e3
  exact ⟨R, .refl, rx⟩
theorem jok_tup (hb : ∀ b, b ∈ bs → F b) {a : Addr} {l : List D} {xs : List V} (t : TupA K (AA F δ σ) H a xs) (r : RepL K mg (AA F δ σ) H l xs) : JOk K mg F bs H0 σ ⟨l, []⟩ δ (Itt K a) H := by
  intro F' δ' σ' H' h1 h2 R k g
  have m := mv_up hb h2 k
  have t' : SqT K H' a xs := (t.mv m).sq
  have r' := RepL.mv m _ _ r
  refine ⟨⟨xs, t', by rw [r'.len]; exact Nat.le_refl _⟩, fun i d e => ?_⟩
  obtain ⟨x, e1, rx⟩ := r'.get e
  refine ⟨⟨xs, x, t', e1⟩, fun y H'' q => ?_⟩
  obtain ⟨e2, q⟩ := q
  subst e2
  have e3 := q xs t'
  rw [e1] at e3
  cases e3
  exact ⟨R, .refl, rx⟩
theorem jok_own {i : Nat} {a : Addr} {l : List D} (hσ : σ[i]? = some (some (.ref a))) : JOk K mg F bs H0 σ ⟨l, [(i, l)]⟩ δ (Itl K a) H := by
  intro F' δ' σ' H' h1 h2 R k g
  obtain ⟨g1, g2⟩ := g (i, l) (by simp)
  obtain ⟨p, o, f1, f2, f3, _⟩ := R.obj g2
  rw [g1, hσ] at f1
  cases f1
  obtain ⟨xs, eo, r'⟩ := f3
  subst eo
  have t' : SqL K H' a xs := .inl (.inl f2)
  refine ⟨⟨xs, t', by rw [r'.len]; exact Nat.le_refl _⟩, fun i d e => ?_⟩
  obtain ⟨x, e1, rx⟩ := r'.get e
  refine ⟨⟨xs, x, t', e1⟩, fun y H'' q => ?_⟩
  obtain ⟨e2, q⟩ := q
  subst e2
  have e3 := q xs t'
  rw [e1] at e3
  cases e3
  exact ⟨R, .refl, rx⟩
theorem di_seq {l : Expr} {f : SE} (h : DE X W l f) : DI X W tg l (iSeq f) := (pi_seq h).imp fun σ H Q hh => by
  obtain ⟨F, bs, H0, δ, R, hh⟩ := hh
  refine ⟨F, bs, H0, δ, R, Post.imp (Post.first hh) fun x H1 ⟨δ1, a, R1, k1, p, h1⟩ => ?_⟩
  cases a with
  | s i =>
    cases e : obAt δ1 i with
    | none => simp only [e] at h1; exact h1.elim
    | some c =>
      cases c with
      | dk _ _ => simp only [e] at h1; exact h1.elim
      | dt _ _ => simp only [e] at h1; exact h1.elim
      | lst l =>
        simp only [e] at h1
        obtain ⟨q, o, f1, f2, f3, _⟩ := R1.obj e
        have p' : σ[i]? = some (some x) := p
        rw [p'] at f1
        cases f1
        obtain ⟨xs, eo, r'⟩ := f3
        subst eo
        exact ⟨q, rfl, .inl ⟨⟨xs, .inl (.inl f2)⟩, h1 _ H1 R1 .refl (jok_own p')⟩⟩
  | v d =>
    cases d with
    | lst l =>
      simp only [AgR, Rep] at p
      obtain ⟨a, xs, ex, t, r⟩ := p
      exact ⟨a, ex, .inl ⟨⟨xs, t.sq⟩, h1 _ H1 R1 .refl (jok_list R1.bsF (.inl ⟨.inl t.1, t.2⟩) r)⟩⟩
    | tup l =>
      simp only [AgR, Rep] at p
      obtain ⟨a, xs, ex, t, r⟩ := p
      exact ⟨a, ex, .inr ⟨⟨xs, t.sq⟩, h1 _ H1 R1 .refl (jok_tup R1.bsF t r)⟩⟩
    | frl l =>
      simp only [AgR, Rep] at p
      obtain ⟨a, xs, ex, t, r⟩ := p
      exact ⟨a, ex, .inl ⟨⟨xs, t.sq⟩, h1 _ H1 R1 .refl (jok_list R1.bsF t r)⟩⟩
    | non => exact h1.elim
    | bl _ => exact h1.elim
    | int _ => exact h1.elim
    | str _ => exact h1.elim
    | ty _ => exact h1.elim
    | cl _ => exact h1.elim
    | dct _ _ => exact h1.elim
    | obj _ _ _ => exact h1.elim
    | exc _ _ _ => exact h1.elim
/-- lo, lo + c, .. -/
def rngD (lo c : Int) (n : Nat) : List D := (List.range n).map fun i => .int (lo + (i : Nat) * c)
theorem rngD_get {lo c : Int} {n i : Nat} {d : D} (h : (rngD lo c n)[i]? = some d) : i < n ∧ d = .int (lo + (i : Nat) * c) := by
  unfold rngD at h
  rw [List.getElem?_map] at h
  by_cases hi : i < n
  · rw [List.getElem?_range hi] at h
    exact ⟨hi, (Option.some.inj h).symm⟩
  · rw [List.getElem?_eq_none (by simpa using hi)] at h
    cases h
theorem rngD_len {lo c : Int} {n : Nat} : (rngD lo c n).length = n := by simp [rngD]
theorem jok_rng {lo : Int} {n : Nat} : JOk K mg F bs H0 σ ⟨rngD lo 1 n, []⟩ δ (Itr lo n) H := by
  intro F' δ' σ' H' h1 h2 R k g
  refine ⟨by show n ≤ (rngD lo 1 n).length; rw [rngD_len]; exact Nat.le_refl _, fun i d e => ?_⟩
  obtain ⟨hi, e⟩ := rngD_get e
  refine ⟨hi, fun x H'' q => ?_⟩
  obtain ⟨e2, q⟩ := q
  subst e2 q e
  refine ⟨R, .refl, ?_⟩
  rw [Int.mul_one]
  exact Rep.int
theorem jok_rngC {lo c : Int} {n : Nat} : JOk K mg F bs H0 σ ⟨rngD lo c n, []⟩ δ (Itc lo c n) H := by
  intro F' δ' σ' H' h1 h2 R k g
  refine ⟨by show n ≤ (rngD lo c n).length; rw [rngD_len]; exact Nat.le_refl _, fun i d e => ?_⟩
  obtain ⟨hi, e⟩ := rngD_get e
  refine ⟨hi, fun x H'' q => ?_⟩
  obtain ⟨e2, q⟩ := q
  subst e2 q e
  exact ⟨R, .refl, Rep.int⟩
def small62 (i : Int) : Bool := decide (-(2 ^ 62) ≤ i) && decide (i < 2 ^ 62)
theorem small62_ok {i : Int} (h : small62 i = true) : -(2 ^ 62) ≤ i ∧ i < 2 ^ 62 := by simpa [small62] using h
def iRng1 (f : SA) : SI := fun δ => (f δ).bind fun as δ1 => match as with
  | [.v (.int j)] => if small62 j then .ok ⟨rngD 0 1 j.toNat, []⟩ δ1 else .bad
  | _ => .bad
def iRng2 (f : SA) : SI := fun δ => (f δ).bind fun as δ1 => match as with
  | [.v (.int i), .v (.int j)] => if small62 i && small62 j then .ok ⟨rngD i 1 (j - i).toNat, []⟩ δ1 else .bad
  | _ => .bad
theorem args1 {as : List Ag} {xs : List V} {d : D} (h : AgsR K mg F δ σ H as xs) (e : as = [.v d]) : ∃ x, xs = [x] ∧ Rep K mg (AA F δ σ) H d x := by
  subst e
  obtain ⟨x, r, e1, p, e2⟩ := h
  obtain rfl : r = [] := e2
  exact ⟨x, e1, p⟩
theorem args2 {as : List Ag} {xs : List V} {d d' : D} (h : AgsR K mg F δ σ H as xs) (e : as = [.v d, .v d']) : ∃ x y, xs = [x, y] ∧ Rep K mg (AA F δ σ) H d x ∧ Rep K mg (AA F δ σ) H d' y := by
  subst e
  obtain ⟨x, r, e1, p, y, r2, e2, p2, e3⟩ := h
  obtain rfl : r2 = [] := e3
  subst e2
  exact ⟨x, y, e1, p, p2⟩
theorem di_rng1 {a : Expr} {f : SA} {p : Pos} (hg : Gl X "range") (hm : X.mg "range" = none) (ha : DA X W [a] f) (hs : starEach [a] X.env = [(false, eval a X.env)] := by rfl) : DI X W tg (.Call (.Name "range" p) [a] [] pos) (iRng1 f) := (pi_range1 hg hm ha hs).imp fun σ H Q hh => by
  obtain ⟨F, bs, H0, δ, R, hh⟩ := hh
  refine ⟨F, bs, H0, δ, R, Post.imp (Post.first hh) fun xs H1 ⟨δ1, as, R1, k1, p, h1⟩ => ?_⟩
  split at h1
  · rename_i j
    obtain ⟨x, e, r⟩ := args1 p rfl
    simp only [Rep] at r
    subst r e
    by_cases z : small62 j = true
    · rw [if_pos z] at h1
      obtain ⟨z1, z2⟩ := small62_ok z
      exact ⟨j, rfl, z1, z2, h1 _ H1 R1 .refl jok_rng⟩
    · rw [if_neg z] at h1; exact h1.elim
  · exact h1.elim
theorem di_rng2 {a b : Expr} {f : SA} {p : Pos} (hg : Gl X "range") (hm : X.mg "range" = none) (ha : DA X W [a, b] f) (hs : starEach [a, b] X.env = [(false, eval a X.env), (false, eval b X.env)] := by rfl) (hs2 : starEach [b] X.env = [(false, eval b X.env)] := by rfl) :
    DI X W tg (.Call (.Name "range" p) [a, b] [] pos) (iRng2 f) := (pi_range2 hg hm ha hs hs2).imp fun σ H Q hh => by
  obtain ⟨F, bs, H0, δ, R, hh⟩ := hh
  refine ⟨F, bs, H0, δ, R, Post.imp (Post.first hh) fun xs H1 ⟨δ1, as, R1, k1, p, h1⟩ => ?_⟩
  split at h1
  · rename_i i j
    obtain ⟨x, y, e, r, r'⟩ := args2 p rfl
    simp only [Rep] at r r'
    subst r r' e
    by_cases z : (small62 i && small62 j) = true
    · rw [if_pos z] at h1
      obtain ⟨z1, z2⟩ := Bool.and_eq_true_iff.mp z
      exact ⟨i, j, rfl, ⟨(small62_ok z1).1, (small62_ok z1).2, (small62_ok z2).1, (small62_ok z2).2⟩, h1 _ H1 R1 .refl jok_rng⟩
    · rw [if_neg z] at h1; exact h1.elim
  · exact h1.elim
end

/-! ### for -/
def forL (γ : TgF) (body : SS) : List D → List Sl → RS
  | [], δ => .nx δ
  | d :: ds, δ => match γ d δ with
    | none => .bad
    | some δ1 => match body δ1 with
      | .nx δ2 => forL γ body ds δ2
      | .ct δ2 => forL γ body ds δ2
      | .bk δ2 => .nx δ2
      | .rt d δ2 => .rt d δ2
      | .rtN c δ2 => .rtN c δ2
      | .exc c ns vs δ2 => .exc c ns vs δ2
      | .bad => .bad
def sFor (it : SI) (γ : TgF) (body : SS) : SS := fun δ => (it δ).bindS fun t δ1 => match t.guard with
  | [] => forL γ body t.items δ1
  | _ => .bad
section
variable {X : Cx} {W : WX} {K : PySem.W.Frag} {mg : Str → Option Value} {pos : Pos} {σ : St} {H : Hp}
theorem for_core {F : AP} {bs : List Addr} {H0 H1 : Hp} {δ1 : List Sl} {J : It} {l : List D} {tgs : List Nat} {γ : TgF} {body : SS} {E : Ends} (R1 : Rel K mg F bs H0 δ1 σ H1) (J1 : JOk K mg F bs H0 σ ⟨l, []⟩ δ1 J H1) (h1 : PostS K mg W F bs H0 δ1 σ H1 (forL γ body l δ1) E) :
    ∃ Wv : Nat → Nat → St → Hp → Prop, (∃ m, Wv 0 m σ H1) ∧ ∀ i m σ H, Wv i m σ H →
      (J.stop i H ∧ E.nx σ H) ∨ (J.go i H ∧ ∃ N : St → Hp → Prop, (∀ σ' H', N σ' H' → ∃ m', m' < m ∧ Wv (i + 1) m' σ' H') ∧ ∀ x H', J.yld i H x H' → rdG K mg tgs γ x σ H' fun σ2 H2 => rdS K mg W body { E with nx := N, ct := N, bk := E.nx } σ2 H2) := by
  · skip
    refine ⟨fun i m σ' H' => m = l.length - i ∧ i ≤ l.length ∧ ∃ δ', Rel K mg F bs H0 δ' σ' H' ∧ Keep bs δ1 σ H1 δ' σ' H' ∧ PostS K mg W F bs H0 δ' σ' H' (forL γ body (l.drop i) δ') E,
      ⟨l.length, by simp, Nat.zero_le _, δ1, R1, .refl, h1⟩, ?_⟩
    rintro i m σ' H' ⟨rfl, hi, δ', R', k', h'⟩
    obtain ⟨js, jg⟩ := J1 F δ' σ' H' (fun _ z => z) (fun _ _ _ z => z) R' k' (fun p hp => nomatch hp)
    by_cases hlt : i < l.length
    · obtain ⟨go, yl⟩ := jg i l[i] (by simp [hlt])
      refine .inr ⟨go, fun σ2 H2 => ∃ δ2, Rel K mg F bs H0 δ2 σ2 H2 ∧ Keep bs δ1 σ H1 δ2 σ2 H2 ∧ PostS K mg W F bs H0 δ2 σ2 H2 (forL γ body (l.drop (i + 1)) δ2) E,
        fun σ2 H2 ⟨δ2, a, b, c⟩ => ⟨l.length - (i + 1), by omega, rfl, hlt, δ2, a, b, c⟩, fun x H2 y => ?_⟩
      obtain ⟨R2, k2, r2⟩ := yl x H2 y
      rw [List.drop_eq_getElem_cons hlt] at h'
      simp only [forL] at h'
      cases eg : γ l[i] δ' with
      | none => rw [eg] at h'; exact h'.elim
      | some δ2 =>
        rw [eg] at h'
        refine ⟨F, bs, H0, δ', l[i], δ2, R2, r2, eg, fun σ2 R3 k3 _ _ => ⟨F, bs, H0, δ2, R3, ?_⟩⟩
        have kk := k2.trans k3
        cases eb : body δ2 with
        | nx δ3 => simp only [eb] at h'; exact fun s3 H3 R4 k4 => ⟨δ3, R4, k'.trans (kk.trans k4), PostS.base (kk.trans k4) h'⟩
        | ct δ3 => simp only [eb] at h'; exact fun s3 H3 R4 k4 => ⟨δ3, R4, k'.trans (kk.trans k4), PostS.base (kk.trans k4) h'⟩
        | bk δ3 => simp only [eb] at h'; exact fun s3 H3 R4 k4 => h' s3 H3 R4 (kk.trans k4)
        | rt d δ3 => simp only [eb] at h'; exact fun v s3 H3 R4 k4 => h' v s3 H3 R4 (kk.trans k4)
        | rtN c δ3 => simp only [eb] at h'; exact fun p o s3 H3 hp R4 k4 => h' p o s3 H3 hp R4 (kk.trans k4)
        | exc c ns vs δ3 => simp only [eb] at h'; exact fun s3 => PX.base kk (h' s3)
        | bad => simp only [eb] at h'; exact h'.elim
    · have ei : i = l.length := by omega
      subst ei
      rw [List.drop_length] at h'
      exact .inl ⟨js, h' σ' H' R' .refl⟩
theorem rd_for {it : SI} {tgs : List Nat} {γ : TgF} {body : SS} {E : Ends} (h : rdS K mg W (sFor it γ body) E σ H) : tFor (rdI K mg W it) (rdG K mg tgs γ) (rdS K mg W body) E σ H := by
  obtain ⟨F, bs, H0, δ, R, h⟩ := h
  refine ⟨F, bs, H0, δ, R, Post.imp (PostS.first h) fun J H1 ⟨δ1, t, R1, k1, J1, h1⟩ => ?_⟩
  obtain ⟨l, g⟩ := t
  cases g with
  | cons _ _ => exact h1.elim
  | nil => exact for_core R1 J1 h1
theorem ds_for {tg iter : Expr} {body : List Stmt} {it : SI} {tgs : List Nat} {γ : TgF} {g : SS} (hp : PassesOwn (model X.prog X.w) X.A X.env X.xe) (hc : X.calm = true) (hi : DI X W tg iter it) (hg : DG X tg tgs γ) (hb : DSs X W body g)
    (hs : ∀ x, foldedSetIterable iter X.env x = pure x := by intro _; rfl) : DS X W (.For tg iter body [] pos) (sFor it γ g) := (ps_for hp hc hi hg hb hs).imp fun _ _ _ => rd_for

/-! ### while, by a number of turns -/
def whileN (t : SB) (body : SS) : Nat → List Sl → RS
  | 0, _ => .bad
  | n + 1, δ => (t δ).bindS fun b δ1 => if b then (match body δ1 with
      | .nx δ2 => whileN t body n δ2
      | .ct δ2 => whileN t body n δ2
      | .bk δ2 => .nx δ2
      | .rt d δ2 => .rt d δ2
      | .rtN c δ2 => .rtN c δ2
      | .exc c ns vs δ2 => .exc c ns vs δ2
      | .bad => .bad) else .nx δ1
def sWhile (n : Nat) (t : SB) (body : SS) : SS := whileN t body n
theorem rd_while {n : Nat} {t : SB} {body : SS} {E : Ends} (h : rdS K mg W (sWhile n t body) E σ H) : tWhile (rdT K mg W t) (rdS K mg W body) E σ H := by
  obtain ⟨F, bs, H0, δ, R, h⟩ := h
  refine ⟨fun m σ' H' => ∃ δ', Rel K mg F bs H0 δ' σ' H' ∧ Keep bs δ σ H δ' σ' H' ∧ PostS K mg W F bs H0 δ' σ' H' (whileN t body m δ') E, ⟨n, δ, R, .refl, h⟩, ?_⟩
  rintro m σ' H' ⟨δ', R', k', h'⟩
  cases m with
  | zero => exact h'.elim
  | succ m =>
    simp only [whileN] at h'
    refine ⟨F, bs, H0, δ', R', Post.imp (PostS.first h') fun x H1 ⟨δ1, b, R1, k1, p, h1⟩ => ?_⟩
    subst p
    cases x with
    | false => exact h1 σ' H1 R1 .refl
    | true =>
      refine ⟨fun σ2 H2 => ∃ δ2, Rel K mg F bs H0 δ2 σ2 H2 ∧ Keep bs δ σ H δ2 σ2 H2 ∧ PostS K mg W F bs H0 δ2 σ2 H2 (whileN t body m δ2) E, fun σ2 H2 hh => ⟨m, Nat.lt_succ_self _, hh⟩, F, bs, H0, δ1, R1, ?_⟩
      have h1 : PostS K mg W F bs H0 δ1 σ' H1 (match body δ1 with
        | .nx δ2 => whileN t body m δ2
        | .ct δ2 => whileN t body m δ2
        | .bk δ2 => .nx δ2
        | .rt d δ2 => .rt d δ2
        | .rtN c δ2 => .rtN c δ2
        | .exc c ns vs δ2 => .exc c ns vs δ2
        | .bad => .bad) E := h1
      cases eb : body δ1 with
      | nx δ3 => simp only [eb] at h1; exact fun s3 H3 R4 k4 => ⟨δ3, R4, k'.trans (k1.trans k4), PostS.base k4 h1⟩
      | ct δ3 => simp only [eb] at h1; exact fun s3 H3 R4 k4 => ⟨δ3, R4, k'.trans (k1.trans k4), PostS.base k4 h1⟩
      | bk δ3 => simp only [eb] at h1; exact h1
      | rt d δ3 => simp only [eb] at h1; exact h1
      | rtN c δ3 => simp only [eb] at h1; exact h1
      | exc c ns vs δ3 => simp only [eb] at h1; exact h1
      | bad => simp only [eb] at h1; exact h1
theorem ds_while {c : Expr} {body : List Stmt} {n : Nat} {t : SB} {g : SS} (hp : PassesOwn (model X.prog X.w) X.A X.env X.xe) (hc : DT X W c t) (hb : DSs X W body g) : DS X W (.While c body [] pos) (sWhile n t g) := (ps_while hp hc hb).imp fun _ _ _ => rd_while
end
end DL
set_option Elab.async false
set_option linter.all false
set_option maxRecDepth 100000
set_option maxHeartbeats 4000000
/-! DL: comprehensions. -/
namespace DL
open PySem PySem.Spec L2
open PyProof.Rows hiding St

def wipeS (δ : List Sl) : List Nat → List Sl
  | [] => δ
  | v :: vs => (wipeS δ vs).set v .no
/-- δ' with the slots vs as in δ -/
def backS (δ δ' : List Sl) : List Nat → List Sl
  | [] => δ'
  | v :: vs => (backS δ δ' vs).set v (δ.getD v .no)
def noOwn (δ : List Sl) : List Nat → Bool
  | [] => true
  | v :: vs => (match δ[v]? with
    | some (.own _) => false
    | some (.io _ _) => false
    | _ => true) && noOwn δ vs
/-- the lists that are walked stand as they stood -/
def gOk (g : List (Nat × List D)) (δ : List Sl) : Prop := ∀ p, p ∈ g → obAt δ p.1 = some (.lst p.2)
theorem gOk_nil {δ : List Sl} : gOk [] δ := fun _ h => nomatch h
open Classical in
noncomputable def compL (g : List (Nat × List D)) (vs : List Nat) (γ : TgF) (cond : SB) (elt : SE) : List D → List D → List Sl → R (List D)
  | [], acc, δ => if gOk g δ then .ok acc δ else .bad
  | d :: ds, acc, δ => if gOk g δ then (match γ d δ with
    | none => .bad
    | some δ1 => (cond δ1).bind fun b δ2 => if b then ((elt δ2).bind fun a δ3 => match a with
        | .v e => compL g vs γ cond elt ds (acc ++ [e]) (wipeS δ3 vs)
        | .s _ => .bad) else compL g vs γ cond elt ds acc (wipeS δ2 vs)) else .bad
noncomputable def nLc (it : SI) (vs : List Nat) (γ : TgF) (cond : SB) (elt : SE) : SN := fun δ => (it δ).bind fun t δ1 =>
  if noOwn δ1 vs && decide (t.items.length ≤ lim) && t.guard.all (fun p => decide (p.1 ∉ vs)) then (match compL t.guard vs γ cond elt t.items [] (wipeS δ1 vs) with
    | .ok acc δ2 => .ok (.lst acc) (backS δ1 δ2 vs)
    | _ => .bad) else .bad
section
variable {K : PySem.W.Frag} {mg : Str → Option Value} {F : AP} {bs : List Addr} {H0 H : Hp} {δ δ' : List Sl} {σ σ' : St}
theorem wipeS_len : ∀ vs : List Nat, (wipeS δ vs).length = δ.length
  | [] => rfl
  | v :: vs => by unfold wipeS; rw [List.length_set, wipeS_len vs]
theorem backS_len : ∀ vs : List Nat, (backS δ δ' vs).length = δ'.length
  | [] => rfl
  | v :: vs => by unfold backS; rw [List.length_set, backS_len vs]
theorem wipeS_out {j : Nat} : ∀ {vs : List Nat}, j ∉ vs → (wipeS δ vs)[j]? = δ[j]?
  | [], _ => rfl
  | v :: vs, h => by
    unfold wipeS
    rw [List.getElem?_set_ne (fun z => h (by simp [z]))]
    exact wipeS_out (fun z => h (by simp [z]))
theorem wipeS_in {j : Nat} {s : Sl} : ∀ {vs : List Nat}, j ∈ vs → (wipeS δ vs)[j]? = some s → s = .no
  | [], h, _ => by cases h
  | v :: vs, h, e => by
    unfold wipeS at e
    by_cases hv : v = j
    · subst hv
      by_cases hl : v < (wipeS δ vs).length
      · rw [List.getElem?_set_self hl] at e; exact (Option.some.inj e).symm
      · rw [List.getElem?_eq_none (by simpa using hl)] at e; cases e
    · rw [List.getElem?_set_ne hv] at e
      exact wipeS_in ((List.mem_cons.mp h).resolve_left fun z => hv z.symm) e
theorem wipe_outσ {j : Nat} {vs : List Nat} (h : j ∉ vs) : (wipe σ vs)[j]? = σ[j]? := wipe_out h
theorem backS_out {j : Nat} : ∀ {vs : List Nat}, j ∉ vs → (backS δ δ' vs)[j]? = δ'[j]?
  | [], _ => rfl
  | v :: vs, h => by
    unfold backS
    rw [List.getElem?_set_ne (fun z => h (by simp [z]))]
    exact backS_out (fun z => h (by simp [z]))
theorem backS_in {j : Nat} : ∀ {vs : List Nat}, δ'.length = δ.length → j ∈ vs → (backS δ δ' vs)[j]? = δ[j]?
  | [], _, h => by cases h
  | v :: vs, hl, h => by
    unfold backS
    by_cases hv : v = j
    · subst hv
      by_cases hl2 : v < δ.length
      · rw [List.getElem?_set_self (by rw [backS_len]; omega), List.getD_eq_getElem?_getD, List.getElem?_eq_getElem hl2]; rfl
      · rw [List.getElem?_eq_none (by rw [List.length_set, backS_len]; omega), List.getElem?_eq_none (by omega)]
    · rw [List.getElem?_set_ne hv]
      exact backS_in hl ((List.mem_cons.mp h).resolve_left fun z => hv z.symm)
theorem noOwn_at {j : Nat} {s : Sl} : ∀ {vs : List Nat}, noOwn δ vs = true → j ∈ vs → δ[j]? = some s → (∀ c, s ≠ .own c) ∧ ∀ k c, s ≠ .io k c
  | [], _, h, _ => by cases h
  | v :: vs, h, hj, e => by
    simp only [noOwn, Bool.and_eq_true] at h
    obtain ⟨h1, h2⟩ := h
    rcases List.mem_cons.mp hj with z | z
    · subst z
      rw [e] at h1
      cases s <;> first | (simp at h1; done) | exact ⟨(fun c z => nomatch z), (fun k c z => nomatch z)⟩
    · exact noOwn_at h2 z e
/-- the slots vs are forgotten -/
theorem Rel.wipe (R : Rel K mg F bs H0 δ σ H) (vs : List Nat) : Rel K mg F bs H0 (wipeS δ vs) (wipe σ vs) H := by
  have ow : ∀ {a : Addr}, OwnAt (wipeS δ vs) (L2.wipe σ vs) a → OwnAt δ σ a := fun {a} ⟨j, c, e1, e2⟩ => by
    by_cases hj : j ∈ vs
    · have := wipeS_in hj e1; cases this
    · rw [wipeS_out hj] at e1
      rw [wipe_outσ hj] at e2
      exact ⟨j, c, e1, e2⟩
  have m : Mv (AA F δ σ) H (AA F (wipeS δ vs) (L2.wipe σ vs)) H := fun a o n e => ⟨fun z => z.elim (fun y => n (.inl y)) fun y => n (.inr (ow y)), e⟩
  refine ⟨by rw [wipe_length, wipeS_len]; exact R.len, fun j s e => ?_, fun j k c d a e1 e2 e3 e4 => ?_, R.ext, R.live, R.bsF, fun j k n c d e1 e2 => ?_, R.nd⟩
  · by_cases hj : j ∈ vs
    · have := wipeS_in hj e; subst this; trivial
    · rw [wipeS_out hj] at e
      rw [wipe_outσ hj]
      exact (R.slot j s e).mv m (fun _ _ _ z => z) (fun b hb => .inl (R.bsF b hb)) (fun c p es ex => .inr ⟨j, c, es ▸ e, ex⟩)
  · have h : ∀ {n : Nat} {c : Ob}, (wipeS δ vs)[n]? = some (.own c) → n ∉ vs ∧ δ[n]? = some (.own c) := fun {n c} e => by
      by_cases hj : n ∈ vs
      · have := wipeS_in hj e; cases this
      · rw [wipeS_out hj] at e; exact ⟨hj, e⟩
    obtain ⟨n1, f1⟩ := h e1
    obtain ⟨n2, f2⟩ := h e2
    rw [wipe_outσ n1] at e3
    rw [wipe_outσ n2] at e4
    exact R.apart j k c d a f1 f2 e3 e4
  · have h : ∀ {m : Nat} {c : Ob}, (wipeS δ vs)[m]? = some (.io n c) → δ[m]? = some (.io n c) := fun {m c} e => by
      by_cases hj : m ∈ vs
      · have := wipeS_in hj e; cases this
      · rw [wipeS_out hj] at e; exact e
    exact R.ioa j k n c d (h e1) (h e2)
/-- one more address out of reach -/
theorem Rel.guard (R : Rel K mg F bs H0 δ σ H) {L : Addr} {o : HO} (hL : H L = none) : Rel K mg (fun a => F a ∨ a = L) bs H0 δ σ (upd H L o) := by
  have R2 := R.new (o := o) hL
  have m : Mv (AA F δ σ) H (AA (fun a => F a ∨ a = L) δ σ) (upd H L o) := fun a u n e => by
    have ne : a ≠ L := ne_of_none e hL
    refine ⟨fun z => ?_, by rw [upd_ne ne]; exact e⟩
    rcases z with (z | z) | z
    · exact n (.inl z)
    · exact ne z
    · exact n (.inr z)
  refine ⟨R.len, fun j s e => ?_, R.apart, R2.ext, fun a f => ?_, fun b hb => .inl (R.bsF b hb), R.ioa, R.nd⟩
  · have q := R.slot j s e
    cases s with
    | no => trivial
    | val d => obtain ⟨v, e, r⟩ := q; exact ⟨v, e, r.mv m⟩
    | exn _ _ _ _ _ => exact exn_mv m q
    | own c =>
      obtain ⟨p, u, e1, e2, r, n, z⟩ := q
      have ne : p ≠ L := ne_of_none e2 hL
      exact ⟨p, u, e1, by rw [upd_ne ne]; exact e2, r.mv m, fun y => y.elim n ne, z⟩
    | io k c =>
      obtain ⟨p, u, e0, e1, e2, r⟩ := q
      have ne : p ≠ L := ne_of_none e2 hL
      exact ⟨p, u, e0, e1, by rw [upd_ne ne]; exact e2, r.mv m⟩
  · rcases f with f | f
    · exact R2.live a f
    · subst f; rw [upd_same]; exact fun z => nomatch z
/-- behind a comprehension: the new list let go, the slots vs as before -/
theorem Rel.back {δF : List Sl} {L : Addr} {H1 H' : Hp} {vs : List Nat} {l : List D} {xs : List V} (R1 : Rel K mg F bs H0 δ σ H1) (hno : noOwn δ vs = true) (hL : H1 L = none) (R' : Rel K mg (fun a => F a ∨ a = L) bs H0 δF (L2.wipe σ vs) H')
    (k' : Keep bs (wipeS δ vs) (L2.wipe σ vs) H1 δF (L2.wipe σ vs) H') (hF : ∀ (j : Nat) (s : Sl), j ∈ vs → δF[j]? = some s → s = .no) (e : H' L = some (.lst xs)) (r : RepL K mg (AA (fun a => F a ∨ a = L) δF (L2.wipe σ vs)) H' l xs) :
    Rel K mg F bs H0 (backS δ δF vs) σ (fun b => if b = L then none else H' b) ∧ Keep bs δ σ H1 (backS δ δF vs) σ (fun b => if b = L then none else H' b) ∧
      RepL K mg (AA F (backS δ δF vs) σ) (fun b => if b = L then none else H' b) l xs ∧ upd (fun b => if b = L then none else H' b) L (.lst xs) = H' := by
  have hlen : δF.length = δ.length := by
    have a := R'.len
    have b := R1.len
    rw [wipe_length] at a
    omega
  have ow : ∀ {a : Addr}, OwnAt (backS δ δF vs) σ a → OwnAt δF (L2.wipe σ vs) a := fun {a} ⟨j, c, e1, e2⟩ => by
    by_cases hj : j ∈ vs
    · rw [backS_in hlen hj] at e1
      exact absurd rfl ((noOwn_at hno hj e1).1 c)
    · rw [backS_out hj] at e1
      exact ⟨j, c, e1, by rw [wipe_outσ hj]; exact e2⟩
  have owW : ∀ {a : Addr}, OwnAt (wipeS δ vs) (L2.wipe σ vs) a → OwnAt δ σ a := fun {a} ⟨j, c, e1, e2⟩ => by
    by_cases hj : j ∈ vs
    · have := wipeS_in hj e1; cases this
    · rw [wipeS_out hj] at e1
      rw [wipe_outσ hj] at e2
      exact ⟨j, c, e1, e2⟩
  -- from the block's state to the new one
  have m2 : Mv (AA (fun a => F a ∨ a = L) δF (L2.wipe σ vs)) H' (AA F (backS δ δF vs) σ) (fun b => if b = L then none else H' b) := fun a u n e => by
    have ne : a ≠ L := fun z => n (.inl (.inr z))
    refine ⟨fun z => z.elim (fun y => n (.inl (.inl y))) fun y => n (.inr (ow y)), ?_⟩
    show (if a = L then none else H' a) = some u
    rw [if_neg ne]; exact e
  have kk : Keep bs δ σ H1 (backS δ δF vs) σ (fun b => if b = L then none else H' b) := fun a u n e => by
    have ne : a ≠ L := ne_of_none e hL
    have n1 : ¬ MM bs (wipeS δ vs) (L2.wipe σ vs) a := fun z => n (z.elim .inl fun y => .inr (owW y))
    obtain ⟨n2, e2⟩ := k' a u n1 e
    refine ⟨fun z => z.elim (fun y => n2 (.inl y)) fun y => n2 (.inr (ow y)), ?_⟩
    show (if a = L then none else H' a) = some u
    rw [if_neg ne]; exact e2
  have m1 := R1.mv kk
  have nL : ∀ {a : Addr} {u : HO}, H1 a = some u → a ≠ L := fun e => ne_of_none e hL
  refine ⟨⟨by rw [backS_len, hlen]; exact R1.len, fun j s es => ?_, fun j k c d a e1 e2 e3 e4 => ?_, fun a u n ea => ?_, fun a f => ?_, R1.bsF, fun j k n c d e1 e2 => ?_, R1.nd⟩, kk, r.mv m2, ?_⟩
  · by_cases hj : j ∈ vs
    · rw [backS_in hlen hj] at es
      have q := R1.slot j s es
      obtain ⟨q1, q2⟩ := noOwn_at hno hj es
      cases s with
      | no => trivial
      | val d => obtain ⟨v, e, r⟩ := q; exact ⟨v, e, r.mv m1⟩
      | exn _ _ _ _ _ => exact exn_mv m1 q
      | own c => exact absurd rfl (q1 c)
      | io k c => exact absurd rfl (q2 k c)
    · rw [backS_out hj] at es
      have q := R'.slot j s es
      rw [wipe_outσ hj] at q
      cases s with
      | no => trivial
      | val d => obtain ⟨v, e, r⟩ := q; exact ⟨v, e, r.mv m2⟩
      | exn _ _ _ _ _ => exact exn_mv m2 q
      | own c =>
        obtain ⟨p, u, e1, e2, r, n, z⟩ := q
        have ne : p ≠ L := fun y => n (.inr y)
        exact ⟨p, u, e1, by show (if p = L then none else H' p) = some u; rw [if_neg ne]; exact e2, r.mv m2, fun y => n (.inl y), z⟩
      | io k c =>
        obtain ⟨p, u, e0, e1, e2, r⟩ := q
        have ne : p ≠ L := by
          have f := R1.bsF p (List.mem_of_getElem? e0)
          exact fun y => R1.live p f (y ▸ hL)
        exact ⟨p, u, e0, e1, by show (if p = L then none else H' p) = some u; rw [if_neg ne]; exact e2, r.mv m2⟩
  · have h : ∀ {n : Nat} {c : Ob}, (backS δ δF vs)[n]? = some (.own c) → n ∉ vs ∧ δF[n]? = some (.own c) := fun {n c} e => by
      by_cases hj : n ∈ vs
      · rw [backS_in hlen hj] at e; exact absurd rfl ((noOwn_at hno hj e).1 c)
      · rw [backS_out hj] at e; exact ⟨hj, e⟩
    obtain ⟨n1, f1⟩ := h e1
    obtain ⟨n2, f2⟩ := h e2
    rw [← wipe_outσ n1] at e3
    rw [← wipe_outσ n2] at e4
    exact R'.apart j k c d a f1 f2 e3 e4
  · have ne : a ≠ L := fun z => by
      have := R1.fresh0 hL
      rw [← z, ea] at this; cases this
    show (if a = L then none else H' a) = some u
    rw [if_neg ne]
    exact R'.ext a u n ea
  · have ne : a ≠ L := fun z => R1.live a f (z ▸ hL)
    show (if a = L then none else H' a) ≠ none
    rw [if_neg ne]
    exact R'.live a (.inl f)
  · have h : ∀ {m : Nat} {c : Ob}, (backS δ δF vs)[m]? = some (.io n c) → δF[m]? = some (.io n c) := fun {m c} e => by
      by_cases hj : m ∈ vs
      · rw [backS_in hlen hj] at e; exact absurd rfl ((noOwn_at hno hj e).2 n c)
      · rw [backS_out hj] at e; exact e
    exact R'.ioa j k n c d (h e1) (h e2)
  · funext b
    unfold upd
    by_cases hb : b = L
    · subst hb; rw [if_pos rfl]; exact e.symm
    · show (if b = L then _ else _) = _
      rw [if_neg hb]
      show (if b = L then none else H' b) = H' b
      rw [if_neg hb]
theorem wipe_eq {vs : List Nat} (hl : σ'.length = σ.length) (h : ∀ j, j ∉ vs → σ'[j]? = σ[j]?) : wipe σ' vs = wipe σ vs := by
  apply List.ext_getElem?
  intro j
  by_cases hj : j ∈ vs
  · have key : ∀ (τ : St), τ.length = σ.length → (L2.wipe τ vs)[j]? = if j < σ.length then some none else none := fun τ ht => by
      have : ∀ (us : List Nat), j ∈ us → (L2.wipe τ us)[j]? = if j < σ.length then some none else none := by
        intro us
        induction us with
        | nil => intro z; cases z
        | cons v us ih =>
          intro z
          unfold L2.wipe
          by_cases hv : v = j
          · subst hv
            by_cases hlt : v < σ.length
            · rw [List.getElem?_set_self (by rw [wipe_length, ht]; exact hlt), if_pos hlt]
            · rw [List.getElem?_eq_none (by rw [List.length_set, wipe_length, ht]; omega), if_neg hlt]
          · rw [List.getElem?_set_ne hv]
            exact ih ((List.mem_cons.mp z).resolve_left fun y => hv y.symm)
      exact this vs hj
    rw [key σ' hl, key σ rfl]
  · rw [wipe_outσ hj, wipe_outσ hj]; exact h j hj
theorem wipe_wipe {vs : List Nat} : wipe (wipe σ vs) vs = wipe σ vs := wipe_eq (wipe_length σ vs) fun j hj => wipe_outσ hj
end

abbrev W0 : WX := fun _ _ _ _ => False
/-- the turns of a comprehension end well -/
theorem compL_ok {g : List (Nat × List D)} {vs : List Nat} {γ : TgF} {cond : SB} {elt : SE} {ds acc out : List D} {δ δF : List Sl} (h : compL g vs γ cond elt ds acc δ = .ok out δF) : gOk g δ := by
  cases ds with
  | nil =>
    simp only [compL] at h
    by_cases z : gOk g δ
    · exact z
    · rw [if_neg z] at h; cases h
  | cons d ds =>
    simp only [compL] at h
    by_cases z : gOk g δ
    · exact z
    · rw [if_neg z] at h; cases h
theorem compL_nil {g : List (Nat × List D)} {vs : List Nat} {γ : TgF} {cond : SB} {elt : SE} {acc out : List D} {δ δF : List Sl} (h : compL g vs γ cond elt [] acc δ = .ok out δF) : out = acc ∧ δF = δ := by
  have z := compL_ok h
  simp only [compL] at h
  rw [if_pos z] at h
  cases h
  exact ⟨rfl, rfl⟩
theorem compL_tail {g : List (Nat × List D)} {vs : List Nat} {γ : TgF} {cond : SB} {elt : SE} {d : D} {ds acc out : List D} {δ δF : List Sl} (h : compL g vs γ cond elt (d :: ds) acc δ = .ok out δF) : ∃ δ1, γ d δ = some δ1 ∧ ∃ b δ2, cond δ1 = .ok b δ2 ∧
    (b = true → ∃ e δ3, elt δ2 = .ok (.v e) δ3 ∧ compL g vs γ cond elt ds (acc ++ [e]) (wipeS δ3 vs) = .ok out δF) ∧ (b = false → compL g vs γ cond elt ds acc (wipeS δ2 vs) = .ok out δF) := by
  have z := compL_ok h
  simp only [compL] at h
  rw [if_pos z] at h
  cases eg : γ d δ with
  | none => rw [eg] at h; cases h
  | some δ1 =>
    rw [eg] at h
    simp only at h
    cases ec : cond δ1 with
    | exc c ns ws δ2 => rw [ec] at h; cases h
    | bad => rw [ec] at h; cases h
    | ok b δ2 =>
      rw [ec] at h
      simp only [R.bind] at h
      refine ⟨δ1, rfl, b, δ2, ec, fun hb => ?_, fun hb => ?_⟩
      · subst hb
        simp only [if_true] at h
        cases ee : elt δ2 with
        | exc c ns ws δ3 => rw [ee] at h; cases h
        | bad => rw [ee] at h; cases h
        | ok a δ3 =>
          rw [ee] at h
          cases a with
          | s i => cases h
          | v e => exact ⟨e, δ3, rfl, h⟩
      · subst hb
        simpa using h
theorem compL_len {g : List (Nat × List D)} {vs : List Nat} {γ : TgF} {cond : SB} {elt : SE} : ∀ {ds acc out : List D} {δ δF : List Sl}, compL g vs γ cond elt ds acc δ = .ok out δF → out.length ≤ acc.length + ds.length ∧ acc.length ≤ out.length
  | [], acc, out, δ, δF, h => by obtain ⟨rfl, _⟩ := compL_nil h; simp
  | d :: ds, acc, out, δ, δF, h => by
    obtain ⟨δ1, _, b, δ2, _, hy, hn⟩ := compL_tail h
    cases b with
    | true =>
      obtain ⟨e, δ3, _, h2⟩ := hy rfl
      have := compL_len h2
      simp only [List.length_append, List.length_cons, List.length_nil] at this ⊢
      omega
    | false =>
      have := compL_len (hn rfl)
      simp only [List.length_cons] at this ⊢
      omega
section
variable {X : Cx} {W : WX} {K : PySem.W.Frag} {mg : Str → Option Value} {pos : Pos} {σ : St} {H : Hp}
theorem rd_lc {it : SI} {vs tgs : List Nat} {γ : TgF} {cond : SB} {elt : SE} (ht : ∀ j, j ∈ tgs → j ∈ vs) {Q : VK} (h : rdN K mg W (nLc it vs γ cond elt) σ H Q) :
    tLc (rdI K mg W it) (rdG K mg tgs γ) (rdT K mg W0 cond) (rdE K mg W0 elt) vs σ H Q := by
  obtain ⟨F, bs, H0, δ, R, h⟩ := h
  refine ⟨F, bs, H0, δ, R, Post.imp (Post.first h) fun J H1 ⟨δ1, t, R1, k1, J1, h1⟩ => ?_⟩
  by_cases hcond : (noOwn δ1 vs && decide (t.items.length ≤ lim) && t.guard.all (fun p => decide (p.1 ∉ vs))) = true
  case neg => rw [if_neg hcond] at h1; exact h1.elim
  rw [if_pos hcond] at h1
  obtain ⟨hc1, hgd⟩ := Bool.and_eq_true_iff.mp hcond
  obtain ⟨hno, hlim⟩ := Bool.and_eq_true_iff.mp hc1
  have hlim := of_decide_eq_true hlim
  cases ecl : compL t.guard vs γ cond elt t.items [] (wipeS δ1 vs) with
  | exc c ns ws δ2 => rw [ecl] at h1; exact h1.elim
  | bad => rw [ecl] at h1; exact h1.elim
  | ok out δF =>
    rw [ecl] at h1
    intro L hL
    have RW := R1.wipe vs
    have RG := RW.guard (o := .lst []) hL
    have hout := (compL_len ecl).1
    refine ⟨fun i m H' => m = t.items.length - i ∧ i ≤ t.items.length ∧ ∃ δ' acc xs, Rel K mg (fun a => F a ∨ a = L) bs H0 δ' (wipe σ vs) H' ∧ Keep bs (wipeS δ1 vs) (wipe σ vs) H1 δ' (wipe σ vs) H' ∧ H' L = some (.lst xs) ∧
        RepL K mg (AA (fun a => F a ∨ a = L) δ' (wipe σ vs)) H' acc xs ∧ (∀ (j : Nat) (s : Sl), j ∈ vs → δ'[j]? = some s → s = .no) ∧ compL t.guard vs γ cond elt (t.items.drop i) acc δ' = .ok out δF,
      ⟨t.items.length, by simp, Nat.zero_le _, wipeS δ1 vs, [], [], RG, keep_new hL, upd_same, RepL.nil, fun j s hj e => wipeS_in hj e, ecl⟩, ?_⟩
    rintro i m H' ⟨rfl, hi, δ', acc, xs, R', k', eL, racc, hno', hcl⟩
    -- the walk, from H1
    have kH1 : Keep bs δ1 σ H1 δ' (wipe σ vs) H' := fun a u n e => by
      have ne : a ≠ L := ne_of_none e hL
      have n1 : ¬ MM bs (wipeS δ1 vs) (wipe σ vs) a := fun z => n (z.elim .inl fun ⟨j, c, e1, e2⟩ => by
        by_cases hj : j ∈ vs
        · have := wipeS_in hj e1; cases this
        · rw [wipeS_out hj] at e1
          rw [wipe_outσ hj] at e2
          exact .inr ⟨j, c, e1, e2⟩)
      exact k' a u n1 e
    have hFd : ∀ a o, H1 a = some o → (F a ∨ a = L) → F a := fun a o e z => z.elim id fun y => absurd y (ne_of_none e hL)
    have hg : ∀ p, p ∈ t.guard → (wipe σ vs)[p.1]? = σ[p.1]? ∧ obAt δ' p.1 = some (.lst p.2) := fun p hp =>
      ⟨wipe_outσ (of_decide_eq_true (List.all_eq_true.mp hgd p hp)), compL_ok hcl p hp⟩
    obtain ⟨js, jg⟩ := J1 (fun a => F a ∨ a = L) δ' (wipe σ vs) H' (fun _ z => .inl z) hFd R' kH1 hg
    by_cases hlt : i < t.items.length
    · obtain ⟨go, yl⟩ := jg i t.items[i] (by simp [hlt])
      rw [List.drop_eq_getElem_cons hlt] at hcl
      obtain ⟨δ2, eg, b, δ3, ec, hy, hn⟩ := compL_tail hcl
      refine .inr ⟨go, fun H2 => ∃ δ2 acc xs, Rel K mg (fun a => F a ∨ a = L) bs H0 δ2 (wipe σ vs) H2 ∧ Keep bs (wipeS δ1 vs) (wipe σ vs) H1 δ2 (wipe σ vs) H2 ∧ H2 L = some (.lst xs) ∧
          RepL K mg (AA (fun a => F a ∨ a = L) δ2 (wipe σ vs)) H2 acc xs ∧ (∀ (j : Nat) (s : Sl), j ∈ vs → δ2[j]? = some s → s = .no) ∧ compL t.guard vs γ cond elt (t.items.drop (i + 1)) acc δ2 = .ok out δF,
        fun H2 hh => ⟨t.items.length - (i + 1), by omega, rfl, hlt, hh⟩, fun x H2 y => ?_⟩
      obtain ⟨R2, k2, r2⟩ := yl x H2 y
      refine ⟨(fun a => F a ∨ a = L), bs, H0, δ', t.items[i], δ2, R2, r2, eg, fun σ3 R3 k3 s3 l3 => ?_⟩
      have ew : wipe σ3 vs = wipe σ vs := (wipe_eq l3 fun j hj => s3 j fun z => hj (ht j z)).trans wipe_wipe
      refine ⟨ew, (fun a => F a ∨ a = L), bs, H0, δ2, R3, ?_⟩
      rw [ec]
      intro bv H4 R4 k4 eb
      subst eb
      -- the new list is kept
      have nLm : ∀ {δx : List Sl} {σx : St} {Hx : Hp}, Rel K mg (fun a => F a ∨ a = L) bs H0 δx σx Hx → ¬ MM bs δx σx L := fun {δx σx Hx} Rx z => by
        rcases z with z | ⟨j, c, e1, e2⟩
        · exact R1.live L (R1.bsF L z) hL
        · obtain ⟨p, o, f1, _, _, n, _⟩ := Rx.slot j _ e1
          rw [e2] at f1; cases f1
          exact n (.inr rfl)
      have k24 := k2.trans (k3.trans k4)
      obtain ⟨_, eL4⟩ := k24 L _ (nLm R') eL
      have racc4 := racc.mv (R'.mv k24)
      -- back in the wiped slots
      have down : ∀ {δx : List Sl} {Hx : Hp}, Rel K mg (fun a => F a ∨ a = L) bs H0 δx σ3 Hx → Rel K mg (fun a => F a ∨ a = L) bs H0 (wipeS δx vs) (wipe σ vs) Hx ∧ Keep bs δx σ3 Hx (wipeS δx vs) (wipe σ vs) Hx := fun {δx Hx} Rx => by
        have q := Rx.wipe vs
        rw [ew] at q
        refine ⟨q, fun a u n e => ⟨fun z => n (z.elim .inl fun ⟨j, c, e1, e2⟩ => ?_), e⟩⟩
        by_cases hj : j ∈ vs
        · have := wipeS_in hj e1; cases this
        · rw [wipeS_out hj] at e1
          rw [wipe_outσ hj, ← wipe_outσ (σ := σ) hj, ← ew, wipe_outσ hj] at e2
          exact .inr ⟨j, c, e1, e2⟩
      cases bv with
      | false =>
        rw [if_neg Bool.false_ne_true]
        obtain ⟨R5, k5⟩ := down R4
        exact ⟨wipeS δ3 vs, acc, xs, R5, k'.trans (k24.trans k5), eL4, racc4.mv (R4.mv k5), fun j s hj e => wipeS_in hj e, hn rfl⟩
      | true =>
        rw [if_pos rfl]
        obtain ⟨e, δ4, ee, hcl2⟩ := hy rfl
        refine ⟨(fun a => F a ∨ a = L), bs, H0, δ3, R4, ?_⟩
        rw [ee]
        intro yv H5 R5 k5 ry
        obtain ⟨_, eL5⟩ := k5 L _ (nLm R4) eL4
        have racc5 := racc4.mv (R4.mv k5)
        have ha : acc.length < sizeLine := by
          have h1 := (compL_len hcl2).2
          rw [List.length_append] at h1
          simp only [List.length_cons, List.length_nil] at h1 hout
          exact lim_lt (by omega)
        refine ⟨xs, eL5, by rw [racc5.len]; exact ha, ?_⟩
        obtain ⟨R6, k6⟩ := down R5
        -- the list grows: out of everybody's reach
        have mU : ∀ {δx : List Sl} {σx : St}, Mv (AA (fun a => F a ∨ a = L) δx σx) H5 (AA (fun a => F a ∨ a = L) δx σx) (upd H5 L (.lst (xs ++ [yv]))) := fun {δx σx} a u n e => by
          have ne : a ≠ L := fun z => n (.inl (.inr z))
          exact ⟨n, by rw [upd_ne ne]; exact e⟩
        have ry6 : Rep K mg (AA (fun a => F a ∨ a = L) (wipeS δ4 vs) (wipe σ vs)) H5 e yv := Rep.mv (R5.mv k6) _ _ ry
        have R7 : Rel K mg (fun a => F a ∨ a = L) bs H0 (wipeS δ4 vs) (wipe σ vs) (upd H5 L (.lst (xs ++ [yv]))) := by
          refine ⟨R6.len, fun j s es => ?_, R6.apart, fun a u n ea => ?_, fun a f => ?_, R6.bsF, R6.ioa, R6.nd⟩
          · have q := R6.slot j s es
            cases s with
            | no => trivial
            | val d => obtain ⟨v, e, r⟩ := q; exact ⟨v, e, r.mv mU⟩
            | exn _ _ _ _ _ => exact exn_mv mU q
            | own c =>
              obtain ⟨p, u, e1, e2, r, n, z⟩ := q
              have ne : p ≠ L := fun z => n (.inr z)
              exact ⟨p, u, e1, by rw [upd_ne ne]; exact e2, r.mv mU, n, z⟩
            | io k c =>
              obtain ⟨p, u, e0, e1, e2, r⟩ := q
              have ne : p ≠ L := fun z => R1.live p (R1.bsF p (List.mem_of_getElem? e0)) (z ▸ hL)
              exact ⟨p, u, e0, e1, by rw [upd_ne ne]; exact e2, r.mv mU⟩
          · have ne : a ≠ L := fun z => by
              have := R1.fresh0 hL
              rw [← z, ea] at this; cases this
            rw [upd_ne ne]
            exact R6.ext a u n ea
          · by_cases z : a = L
            · rw [z, upd_same]; exact fun y => nomatch y
            · rw [upd_ne z]; exact R6.live a f
        have k6' := (k'.trans (k24.trans k5)).trans k6
        have k7 : Keep bs (wipeS δ1 vs) (wipe σ vs) H1 (wipeS δ4 vs) (wipe σ vs) (upd H5 L (.lst (xs ++ [yv]))) := fun a u n e => by
          obtain ⟨n2, e2⟩ := k6' a u n e
          exact ⟨n2, by rw [upd_ne (ne_of_none e hL)]; exact e2⟩
        refine ⟨wipeS δ4 vs, acc ++ [e], xs ++ [yv], R7, k7, upd_same, (racc5.mv (R5.mv k6)).append (RepL.cons ry6 RepL.nil) |>.mv mU, fun j s hj e => wipeS_in hj e, hcl2⟩
    · have ei : i = t.items.length := by omega
      subst ei
      rw [List.drop_length] at hcl
      obtain ⟨rfl, rfl⟩ := compL_nil hcl
      obtain ⟨Rb, kb, rb, eb⟩ := R1.back hno hL R' k' hno' eL racc
      refine .inl ⟨js, ?_⟩
      have hq : Q (.ref L) (upd (fun b => if b = L then none else H' b) L (.lst xs)) := h1 (L, .lst xs) _ Rb kb ⟨by simp, xs, rfl, rb⟩
      rw [eb] at hq
      exact hq
def bTrue : SB := fun δ => .ok true δ
abbrev DTs (X : Cx) (W : WX) (ifs : List Expr) (f : SB) : Prop := PTs X ifs (rdT X.K X.mg W f)
theorem _root_.L2.PTs.imp {es : List Expr} {t t' : TT} (h : PTs X es t) (i : ∀ σ H Q, t' σ H Q → t σ H Q) : PTs X es t' := ⟨fun pins s σ H Q I q => h.run pins s σ H Q I (i σ H Q q)⟩
theorem dts_nil : DTs X W [] bTrue := pts_nil.imp fun σ H Q ⟨F, bs, H0, δ, R, h⟩ => h true H R .refl rfl
theorem dts_one {c : Expr} {f : SB} (h : DT X W c f) : DTs X W [c] f := pts_one h
theorem dn_lc {elt tg iter : Expr} {ifs : List Expr} {scope : Scope} {own : List (Str × Nat)} {tgs : List Nat} {it : SI} {γ : TgF} {cond : SB} {f : SE} (hc : X.calm = true) (hN : X.N.Nodup) (hi : DI X W tg iter it) (ok : BlkOk X.N X.env.scope scope own) (ht : ∀ j, j ∈ tgs → j ∈ own.map (·.2))
    (hg : ∀ (s : Shared) (H : Hp) (C : Addr) (cl : List (Str × Addr)) (fp : List Addr), DG (X.blk s H scope (compEnvC scope cl C X.env) fp) tg tgs γ) (hcd : ∀ (s : Shared) (H : Hp) (C : Addr) (cl : List (Str × Addr)) (fp : List Addr), DTs (X.blk s H scope (compEnvC scope cl C X.env) fp) W0 ifs cond)
    (he : ∀ (s : Shared) (H : Hp) (C : Addr) (cl : List (Str × Addr)) (fp : List Addr), DE (X.blk s H scope (compEnvC scope cl C X.env) fp) W0 elt f) (hs : ∀ x, foldedSetIterable iter X.env x = pure x := by intro _; rfl) :
    DN X W (.ListComp elt [⟨tg, iter, ifs, 0⟩] scope pos) (nLc it (own.map (·.2)) γ cond f) := (pe_lc hc hN hi ok hg hcd he hs).imp fun _ _ _ => rd_lc ht
theorem ds_newLc {i : Nat} {y : Str} {py : Pos} {elt tg iter : Expr} {ifs : List Expr} {scope : Scope} {own : List (Str × Nat)} {spos : Pos} {tgs : List Nat} {it : SI} {γ : TgF} {cond : SB} {f : SE} (hc : X.calm = true) (hN : X.N.Nodup) (hy : X.N[i]? = some y) (hyl : X.env.scope.names.lookup y = some .local)
    (hsw : swapsWith (.ListComp elt [⟨tg, iter, ifs, 0⟩] scope pos) (some (.Name y py)) spos.line X.env = pure true) (hi : DI X W tg iter it) (ok : BlkOk X.N X.env.scope scope own) (ht : ∀ j, j ∈ tgs → j ∈ own.map (·.2))
    (hg : ∀ (s : Shared) (H : Hp) (C : Addr) (cl : List (Str × Addr)) (fp : List Addr), DG (X.blk s H scope (compEnvC scope cl C X.env) fp) tg tgs γ) (hcd : ∀ (s : Shared) (H : Hp) (C : Addr) (cl : List (Str × Addr)) (fp : List Addr), DTs (X.blk s H scope (compEnvC scope cl C X.env) fp) W0 ifs cond)
    (he : ∀ (s : Shared) (H : Hp) (C : Addr) (cl : List (Str × Addr)) (fp : List Addr), DE (X.blk s H scope (compEnvC scope cl C X.env) fp) W0 elt f) (hs : ∀ x, foldedSetIterable iter X.env x = pure x := by intro _; rfl) :
    DS X W (.Assign [.Name y py] (.ListComp elt [⟨tg, iter, ifs, 0⟩] scope pos) spos) (sNew i (nLc it (own.map (·.2)) γ cond f)) := (ps_setLc hc hN hy hyl hsw hi ok hg hcd he hs).imp fun E σ H h => by
  have h2 : rdN X.K X.mg W (nLc it (own.map (·.2)) γ cond f) σ H fun x H1 => gName i x σ H1 E.nx := rd_new h
  exact rd_lc ht h2
theorem ds_asgLc {i : Nat} {y : Str} {py : Pos} {elt tg iter : Expr} {ifs : List Expr} {scope : Scope} {own : List (Str × Nat)} {spos : Pos} {tgs : List Nat} {it : SI} {γ : TgF} {cond : SB} {f : SE} (hc : X.calm = true) (hN : X.N.Nodup) (hy : X.N[i]? = some y) (hyl : X.env.scope.names.lookup y = some .local)
    (hsw : swapsWith (.ListComp elt [⟨tg, iter, ifs, 0⟩] scope pos) (some (.Name y py)) spos.line X.env = pure true) (hi : DI X W tg iter it) (ok : BlkOk X.N X.env.scope scope own) (ht : ∀ j, j ∈ tgs → j ∈ own.map (·.2))
    (hg : ∀ (s : Shared) (H : Hp) (C : Addr) (cl : List (Str × Addr)) (fp : List Addr), DG (X.blk s H scope (compEnvC scope cl C X.env) fp) tg tgs γ) (hcd : ∀ (s : Shared) (H : Hp) (C : Addr) (cl : List (Str × Addr)) (fp : List Addr), DTs (X.blk s H scope (compEnvC scope cl C X.env) fp) W0 ifs cond)
    (he : ∀ (s : Shared) (H : Hp) (C : Addr) (cl : List (Str × Addr)) (fp : List Addr), DE (X.blk s H scope (compEnvC scope cl C X.env) fp) W0 elt f) (hs : ∀ x, foldedSetIterable iter X.env x = pure x := by intro _; rfl) :
    DS X W (.Assign [.Name y py] (.ListComp elt [⟨tg, iter, ifs, 0⟩] scope pos) spos) (sAsg i (eN (nLc it (own.map (·.2)) γ cond f))) := (ps_setLc hc hN hy hyl hsw hi ok hg hcd he hs).imp fun E σ H h => by
  have h2 : rdE X.K X.mg W (eN (nLc it (own.map (·.2)) γ cond f)) σ H fun x H1 => gName i x σ H1 E.nx := rd_asg h
  exact rd_lc ht (rd_n h2)
end
end DL
set_option Elab.async false
set_option linter.all false
set_option maxRecDepth 100000
set_option maxHeartbeats 4000000
/-! DL: equality, membership, subscripts, slices, methods, built-ins. -/
namespace DL
open PySem PySem.Spec L2
open PyProof.Rows hiding St

/-! ### equality -/
mutual
/-- as the library's data -/
def toPy : D → Option PyData
  | .non => some .none
  | .bl b => some (.bool b)
  | .int i => some (.int i)
  | .str x => some (.str x)
  | .tup l => match toPyL l with
    | some ds => some (.tuple ds)
    | none => none
  | .lst l => match toPyL l with
    | some ds => some (.list ds)
    | none => none
  | .frl l => match toPyL l with
    | some ds => some (.list ds)
    | none => none
  | _ => none
def toPyL : List D → Option (List PyData)
  | [] => some []
  | d :: r => match toPy d, toPyL r with
    | some e, some es => some (e :: es)
    | _, _ => none
end
def eqOk (d e : PyData) : Bool := d.plain && e.plain && decide (min d.depth e.depth ≤ 60)
def gEq (a b : D) : Option D := match toPy a, toPy b with
  | some d, some e => if eqOk d e then some (.bl (PyData.eqv d e)) else none
  | _, _ => none
def gNe (a b : D) : Option D := match toPy a, toPy b with
  | some d, some e => if eqOk d e then some (.bl (!PyData.eqv d e)) else none
  | _, _ => none
/-- x in a list, a tuple -/
def inOk (d : PyData) (es : List PyData) : Bool := d.plain && PyData.plainAll es && decide (min (PyData.depthAll es) d.depth ≤ 60)
def keyD : D → Option Key
  | .int i => some (.inl i)
  | .str x => some (.inr x)
  | _ => none
def valD : List Key → List D → Key → Option D
  | k :: ks, v :: vs, x => if k = x then some v else valD ks vs x
  | _, _, _ => none
def isInL (x : D) (l : List D) : Option Bool := match toPy x, toPyL l with
  | some d, some es => if inOk d es then some (es.any fun y => PyData.eqv y d) else none
  | _, _ => none
def isIn (x : D) : D → Option Bool
  | .tup l => isInL x l
  | .lst l => isInL x l
  | .frl l => isInL x l
  | .dct ks vs => match keyD x with
    | some k => some (valD ks vs k).isSome
    | none => none
  | _ => none
def gIn (x c : D) : Option D := match isIn x c with
  | some b => some (.bl b)
  | none => none
def gNotIn (x c : D) : Option D := match isIn x c with
  | some b => some (.bl (!b))
  | none => none
section
variable {K : PySem.W.Frag} {mg : Str → Option Value} {A : AP} {H : Hp} {X : Cx}
mutual
theorem Rep.dp : ∀ (d : D) (v : V) (e : PyData), Rep K mg A H d v → toPy d = some e → Dp K H v e
  | .non, v, e, h, q => by simp only [Rep] at h; simp only [toPy, Option.some.injEq] at q; subst h q; exact .non
  | .bl b, v, e, h, q => by simp only [Rep] at h; simp only [toPy, Option.some.injEq] at q; subst h q; exact .bl b
  | .int i, v, e, h, q => by simp only [Rep] at h; simp only [toPy, Option.some.injEq] at q; subst h q; exact .int i
  | .str x, v, e, h, q => by simp only [Rep] at h; simp only [toPy, Option.some.injEq] at q; subst h q; exact .str x
  | .tup l, v, e, h, q => by
    simp only [Rep] at h
    obtain ⟨a, xs, ev, t, r⟩ := h
    simp only [toPy] at q
    cases el : toPyL l with
    | none => rw [el] at q; cases q
    | some ds => rw [el] at q; cases q; subst ev; exact .tup t.sq (RepL.dp l xs ds r el)
  | .lst l, v, e, h, q => by
    simp only [Rep] at h
    obtain ⟨a, xs, ev, t, r⟩ := h
    simp only [toPy] at q
    cases el : toPyL l with
    | none => rw [el] at q; cases q
    | some ds => rw [el] at q; cases q; subst ev; exact .lst t.sq (RepL.dp l xs ds r el)
  | .frl l, v, e, h, q => by
    simp only [Rep] at h
    obtain ⟨a, xs, ev, t, r⟩ := h
    simp only [toPy] at q
    cases el : toPyL l with
    | none => rw [el] at q; cases q
    | some ds => rw [el] at q; cases q; subst ev; exact .lst t.sq (RepL.dp l xs ds r el)
  | .ty _, v, e, h, q => by simp only [toPy] at q; cases q
  | .cl _, v, e, h, q => by simp only [toPy] at q; cases q
  | .dct _ _, v, e, h, q => by simp only [toPy] at q; cases q
  | .obj _ _ _, v, e, h, q => by simp only [toPy] at q; cases q
  | .exc _ _ _, v, e, h, q => by simp only [toPy] at q; cases q
theorem RepL.dp : ∀ (ds : List D) (xs : List V) (es : List PyData), RepL K mg A H ds xs → toPyL ds = some es → DpAll K H xs es
  | [], xs, es, h, q => by simp only [RepL] at h; simp only [toPyL, Option.some.injEq] at q; subst h q; exact .nil
  | d :: ds, xs, es, h, q => by
    simp only [RepL] at h
    obtain ⟨x, r, ex, h1, h2⟩ := h
    simp only [toPyL] at q
    cases e1 : toPy d with
    | none => rw [e1] at q; cases q
    | some e =>
      cases e2 : toPyL ds with
      | none => rw [e1, e2] at q; cases q
      | some es' =>
        rw [e1, e2] at q
        cases q
        subst ex
        exact .cons (Rep.dp d x e h1 e1) (RepL.dp ds r es' h2 e2)
end
theorem RepW.dp {d : D} {v : V} {e : PyData} (h : RepW K mg A H d v) (q : toPy d = some e) : Dp K H v e := by
  cases d with
  | lst l =>
    obtain ⟨a, xs, ev, t, r⟩ := h
    simp only [toPy] at q
    cases el : toPyL l with
    | none => rw [el] at q; cases q
    | some ds => rw [el] at q; cases q; subst ev; exact .lst (.inl (.inl t)) (RepL.dp l xs ds r el)
  | frl l =>
    obtain ⟨a, xs, ev, t, r⟩ := h
    simp only [toPy] at q
    cases el : toPyL l with
    | none => rw [el] at q; cases q
    | some ds => rw [el] at q; cases q; subst ev; exact .lst t (RepL.dp l xs ds r el)
  | dct _ _ => simp only [toPy] at q; cases q
  | non => exact Rep.dp _ _ _ h q
  | bl _ => exact Rep.dp _ _ _ h q
  | int _ => exact Rep.dp _ _ _ h q
  | str _ => exact Rep.dp _ _ _ h q
  | ty _ => exact Rep.dp _ _ _ h q
  | cl _ => exact Rep.dp _ _ _ h q
  | tup _ => exact Rep.dp _ _ _ h q
  | obj _ _ _ => exact Rep.dp _ _ _ h q
  | exc _ _ _ => exact Rep.dp _ _ _ h q
def rEqP (K : PySem.W.Frag) : R2 := fun x y H Q => ∃ d e, Dp K H x d ∧ Dp K H y e ∧ eqOk d e = true ∧ Q (.bl (PyData.eqv d e)) H
def rNeP (K : PySem.W.Frag) : R2 := fun x y H Q => ∃ d e, Dp K H x d ∧ Dp K H y e ∧ eqOk d e = true ∧ Q (.bl (!PyData.eqv d e)) H
theorem op_eqP (hu : X.A.units + 64 < cLine) : OpR X (compareOp .Eq) (rEqP X.K) := by
  intro pins s σ H x y v u Q I rx ry h
  obtain ⟨d, e, hd, he, ok, q⟩ := h
  simp only [eqOk, Bool.and_eq_true, decide_eq_true_eq] at ok
  obtain ⟨⟨pd, pe⟩, dm⟩ := ok
  obtain ⟨as, r1⟩ := Dp.reads I d x v hd rx
  obtain ⟨bs, r2⟩ := Dp.reads I e y u he ry
  exact SeqAt.eq_plain r1 r2 pd pe (by omega) ⟨.bl _, H, I, rfl, q⟩
theorem op_neP (hu : X.A.units + 64 < cLine) : OpR X (compareOp .NotEq) (rNeP X.K) := by
  intro pins s σ H x y v u Q I rx ry h
  obtain ⟨d, e, hd, he, ok, q⟩ := h
  simp only [eqOk, Bool.and_eq_true, decide_eq_true_eq] at ok
  obtain ⟨⟨pd, pe⟩, dm⟩ := ok
  obtain ⟨as, r1⟩ := Dp.reads I d x v hd rx
  obtain ⟨bs, r2⟩ := Dp.reads I e y u he ry
  exact SeqAt.ne_plain r1 r2 pd pe (by omega) ⟨.bl _, H, I, rfl, q⟩
theorem sem_eq : OpS K mg (rEqP K) gEq := by
  intro F bs H0 δ σ H a b d x y Q R ra rb e q
  unfold gEq at e
  cases e1 : toPy a with
  | none => simp only [e1] at e; cases e
  | some p =>
    cases e2 : toPy b with
    | none => simp only [e1, e2] at e; cases e
    | some p2 =>
      simp only [e1, e2] at e
      by_cases z : eqOk p p2 = true
      · rw [if_pos z] at e
        cases e
        exact ⟨p, p2, ra.dp e1, rb.dp e2, z, q _ H R .refl Rep.bl⟩
      · rw [if_neg z] at e; cases e
theorem sem_ne : OpS K mg (rNeP K) gNe := by
  intro F bs H0 δ σ H a b d x y Q R ra rb e q
  unfold gNe at e
  cases e1 : toPy a with
  | none => simp only [e1] at e; cases e
  | some p =>
    cases e2 : toPy b with
    | none => simp only [e1, e2] at e; cases e
    | some p2 =>
      simp only [e1, e2] at e
      by_cases z : eqOk p p2 = true
      · rw [if_pos z] at e
        cases e
        exact ⟨p, p2, ra.dp e1, rb.dp e2, z, q _ H R .refl Rep.bl⟩
      · rw [if_neg z] at e; cases e
/-! ### in, not in -/
def rInP (K : PySem.W.Frag) (neg : Bool) : R2 := fun x y H Q => (∃ d es, Dp K H x d ∧ (Dp K H y (.list es) ∨ Dp K H y (.tuple es)) ∧ inOk d es = true ∧ Q (.bl (if neg then !(es.any fun z => PyData.eqv z d) else es.any fun z => PyData.eqv z d)) H) ∨
  ∃ a o, y = .ref a ∧ DGet H a x o ∧ Q (.bl (if neg then !o.isSome else o.isSome)) H
theorem op_inP (hu : X.A.units + 64 < cLine) : OpR X (compareOp .In) (rInP X.K false) := by
  intro pins s σ H x y v u Q I rx ry h
  rcases h with ⟨d, es, hd, he, ok, q⟩ | ⟨a, o, ey, g, q⟩
  · simp only [inOk, Bool.and_eq_true, decide_eq_true_eq] at ok
    obtain ⟨⟨pd, pe⟩, dm⟩ := ok
    obtain ⟨as, r1⟩ := Dp.reads I d x v hd rx
    rcases he with he | he
    · obtain ⟨bs, r2⟩ := Dp.reads I _ y u he ry
      exact SeqAt.in_list_data r2 r1 pe pd (by omega) ⟨.bl _, H, I, rfl, q⟩
    · obtain ⟨bs, r2⟩ := Dp.reads I _ y u he ry
      exact SeqAt.in_tuple_data r2 r1 pe pd (by omega) ⟨.bl _, H, I, rfl, q⟩
  · subst ey
    obtain rfl : u = Value.ref a := ry
    exact d_in (by omega) I g rx fun s3 I3 => ⟨.bl o.isSome, H, I3, rfl, q⟩
theorem op_notInP (hu : X.A.units + 64 < cLine) : OpR X (compareOp .NotIn) (rInP X.K true) := by
  intro pins s σ H x y v u Q I rx ry h
  rcases h with ⟨d, es, hd, he, ok, q⟩ | ⟨a, o, ey, g, q⟩
  · simp only [inOk, Bool.and_eq_true, decide_eq_true_eq] at ok
    obtain ⟨⟨pd, pe⟩, dm⟩ := ok
    obtain ⟨as, r1⟩ := Dp.reads I d x v hd rx
    rcases he with he | he
    · obtain ⟨bs, r2⟩ := Dp.reads I _ y u he ry
      exact SeqAt.notIn_list_data r2 r1 pe pd (by omega) ⟨.bl _, H, I, rfl, q⟩
    · obtain ⟨bs, r2⟩ := Dp.reads I _ y u he ry
      exact SeqAt.notIn_tuple_data r2 r1 pe pd (by omega) ⟨.bl _, H, I, rfl, q⟩
  · subst ey
    obtain rfl : u = Value.ref a := ry
    exact d_notIn (by omega) I g rx fun s3 I3 => ⟨.bl (!o.isSome), H, I3, rfl, q⟩
theorem valV_zip : ∀ {ks : List Key} {vs : List D} {xs : List V} {k : Key}, RepL K mg A H vs xs → ks.length = vs.length →
    (∀ d, valD ks vs k = some d → ∃ x, valV (ks.zip xs) k = some x ∧ Rep K mg A H d x) ∧ (valD ks vs k = none → valV (ks.zip xs) k = none)
  | [], [], xs, k, r, l => by
    simp only [RepL] at r; subst r
    exact ⟨fun d e => (by simp [valD] at e), fun _ => rfl⟩
  | k0 :: ks, v :: vs, xs, k, r, l => by
    simp only [RepL] at r
    obtain ⟨x, r', ex, h1, h2⟩ := r
    subst ex
    have ih := valV_zip (k := k) h2 (by simpa using l)
    simp only [valD, List.zip_cons_cons]
    by_cases z : k0 = k
    · rw [if_pos z]
      refine ⟨fun d e => ?_, fun e => nomatch e⟩
      cases e
      exact ⟨x, valV_pos z, h1⟩
    · rw [if_neg z, valV_neg z]
      exact ih
  | [], _ :: _, _, _, _, l => by simp at l
  | _ :: _, [], _, _, _, l => by simp at l
theorem RepW.dct {ks : List Key} {vs : List D} {v : V} (h : RepW K mg A H (.dct ks vs) v) : ∃ a xs, v = .ref a ∧ Rd H a (.dK (ks.zip xs)) ∧ ks.length = vs.length ∧ RepL K mg A H vs xs := h
theorem RepW.key {d : D} {x : V} {k : Key} (h : RepW K mg A H d x) (e : keyD d = some k) : x = kV k := by
  cases d <;> try cases e
  · exact h.int
  · exact h.str
theorem DGet.rd {a : Addr} {kvs : List (Key × V)} {k : Key} (e : Rd H a (.dK kvs)) : DGet H a (kV k) (valV kvs k) := .inl ⟨kvs, k, e, rfl, rfl⟩
theorem sem_inG (neg : Bool) : OpS K mg (rInP K neg) (if neg then gNotIn else gIn) := by
  intro F bs H0 δ σ H a b d x y Q R ra rb e q
  have e' : ∃ k, isIn a b = some k ∧ d = .bl (if neg then !k else k) := by
    cases neg with
    | true =>
      have e : gNotIn a b = some d := e
      unfold gNotIn at e
      cases h : isIn a b with
      | none => rw [h] at e; cases e
      | some k => rw [h] at e; cases e; exact ⟨k, rfl, rfl⟩
    | false =>
      have e : gIn a b = some d := e
      unfold gIn at e
      cases h : isIn a b with
      | none => rw [h] at e; cases e
      | some k => rw [h] at e; cases e; exact ⟨k, rfl, rfl⟩
  obtain ⟨k, hk, rfl⟩ := e'
  have seq : ∀ {l : List D}, isInL a l = some k → (∀ {es}, toPyL l = some es → Dp K H y (.list es) ∨ Dp K H y (.tuple es)) → rInP K neg x y H Q := by
    intro l hl hy
    unfold isInL at hl
    cases e1 : toPy a with
    | none => simp only [e1] at hl; cases hl
    | some p =>
      cases e2 : toPyL l with
      | none => simp only [e1, e2] at hl; cases hl
      | some es =>
        simp only [e1, e2] at hl
        by_cases z : inOk p es = true
        · rw [if_pos z] at hl
          cases hl
          exact .inl ⟨p, es, ra.dp e1, hy e2, z, q _ H R .refl Rep.bl⟩
        · rw [if_neg z] at hl; cases hl
  cases b with
  | tup l => exact seq hk fun e2 => .inr (rb.dp (by simp only [toPy, e2]))
  | lst l => exact seq hk fun e2 => .inl (rb.dp (by simp only [toPy, e2]))
  | frl l => exact seq hk fun e2 => .inl (rb.dp (by simp only [toPy, e2]))
  | dct ks vs =>
    simp only [isIn] at hk
    cases ek : keyD a with
    | none => rw [ek] at hk; cases hk
    | some kk =>
      rw [ek] at hk
      cases hk
      obtain ⟨p, xs, ey, t, l, r⟩ := rb.dct
      have ex := ra.key ek
      subst ex ey
      have vz := valV_zip (k := kk) r l
      refine .inr ⟨p, _, rfl, DGet.rd t, ?_⟩
      have es : (valV (ks.zip xs) kk).isSome = (valD ks vs kk).isSome := by
        cases ev : valD ks vs kk with
        | none => rw [vz.2 ev]; rfl
        | some dd => obtain ⟨x', ex, _⟩ := vz.1 dd ev; rw [ex]; rfl
      rw [es]
      exact q _ H R .refl Rep.bl
  | non => cases hk
  | bl _ => cases hk
  | int _ => cases hk
  | str _ => cases hk
  | ty _ => cases hk
  | cl _ => cases hk
  | obj _ _ _ => cases hk
  | exc _ _ _ => cases hk
theorem sem_in : OpS K mg (rInP K false) gIn := sem_inG false
theorem sem_notIn : OpS K mg (rInP K true) gNotIn := sem_inG true

/-! ### subscripts -/
def gIx : D → D → Option D
  | .tup l, .int i => atI l i
  | .lst l, .int i => atI l i
  | .frl l, .int i => atI l i
  | .dct ks vs, k => match keyD k with
    | some x => valD ks vs x
    | none => none
  | _, _ => none
def rDGet : R2 := fun x y H Q => ∃ a v, x = .ref a ∧ DGet H a y (some v) ∧ Q v H
theorem ix_dict (hu : X.A.units + 64 < cLine) : IxR X rDGet := by
  intro value slice pins s σ H x y v u Q I rx ry h hs
  obtain ⟨a, w, ex, g, q⟩ := h
  subst ex
  obtain rfl : v = Value.ref a := rx
  have hT := dict_typeIs I g
  have h₂ : wpAny (model X.prog X.w) X.A (getItem (.ref a) u) (EP X pins σ Q) X.xe s := d_getItem (by omega) I g ry fun w' s3 I3 rw' => ⟨w, H, I3, rw', q⟩
  unfold subscriptTail
  refine wpAny_bind ?_
  rw [getitemInPython_of_ne hT.not_modules]
  refine wpAny_bind (wpAny_specialOf hT PySem.F.slot_dict_getitem.lookup ?_)
  have fin : wpAny (model X.prog X.w) X.A (subscripted slice false (.ref a) u) (fun r s₃ => wpAny (model X.prog X.w) X.A (letTemporaryGo value (.ref a) r >>= fun _ => pure r) (EP X pins σ Q) X.xe s₃) X.xe s := by
    rw [hs]
    exact wpAny_operating (wpAny_mono h₂ (fun r s₃ h₃ => wpAny_bind (wpAny_letTemporaryGo (wpAny_pure h₃))) fun _ _ x => x)
  first
    | exact wpAny_pure (wpAny_bind fin)
    | exact wpAny_bind (wpAny_pure (wpAny_bind fin))
    | exact wpAny_bind fin
def rIxA (K : PySem.W.Frag) : R2 := fun x y H Q => rIxL K x y H Q ∨ rIxT K x y H Q ∨ rDGet x y H Q
theorem ix_any (hu : X.A.units + 64 < cLine) : IxR X (rIxA X.K) := ix_list.or (ix_tup.or (ix_dict hu))
theorem atI_rep {l : List D} {xs : List V} {i : Int} {d : D} (r : RepL K mg A H l xs) (e : atI l i = some d) : ∃ x, atI xs i = some x ∧ Rep K mg A H d x := by
  unfold atI at e ⊢
  rw [r.len]
  cases h : ixN l.length i with
  | none => rw [h] at e; cases e
  | some j =>
    rw [h] at e
    exact r.get e
theorem sem_ix : OpS K mg (rIxA K) gIx := by
  intro F bs H0 δ σ H a b d x y Q R ra rb e q
  cases a with
  | tup l =>
    cases b <;> try cases e
    obtain ⟨p, xs, ex, t, r⟩ := ra.tup
    obtain ⟨v, ev, rv⟩ := atI_rep r e
    exact .inr (.inl ⟨p, xs, _, v, ex, rb.int, t.sq, ev, q v H R .refl rv⟩)
  | lst l =>
    cases b <;> try cases e
    obtain ⟨p, xs, ex, t, r⟩ := ra.lst
    obtain ⟨v, ev, rv⟩ := atI_rep r e
    exact .inl ⟨p, xs, _, v, ex, rb.int, .inl (.inl t), ev, q v H R .refl rv⟩
  | frl l =>
    cases b <;> try cases e
    obtain ⟨p, xs, ex, t, r⟩ := ra.frl
    obtain ⟨v, ev, rv⟩ := atI_rep r e
    exact .inl ⟨p, xs, _, v, ex, rb.int, t, ev, q v H R .refl rv⟩
  | dct ks vs =>
    simp only [gIx] at e
    cases ek : keyD b with
    | none => rw [ek] at e; cases e
    | some kk =>
      rw [ek] at e
      obtain ⟨p, xs, ex, t, l, r⟩ := ra.dct
      have ey := rb.key ek
      subst ex ey
      obtain ⟨v, ev, rv⟩ := (valV_zip (k := kk) r l).1 d e
      refine .inr (.inr ⟨p, v, rfl, ?_, q v H R .refl rv⟩)
      rw [← ev]
      exact DGet.rd t
  | non => cases e
  | bl _ => cases e
  | int _ => cases e
  | str _ => cases e
  | ty _ => cases e
  | cl _ => cases e
  | obj _ _ _ => cases e
  | exc _ _ _ => cases e
end
section
variable {X : Cx} {W : WX} {K : PySem.W.Frag} {mg : Str → Option Value} {pos : Pos} {σ : St} {H : Hp}
theorem de_ix {a b : Expr} {fa fb : SE} (hu : X.A.units + 64 < cLine) (ha : DE X W a fa) (hb : DE X W b fb) (hs : PlainIx b := by exact fun _ _ => rfl) : DE X W (.Subscript a b pos) (eBin gIx fa fb) := (pe_ix (ix_any hu) ha hb hs).imp fun _ _ _ => rd_bin sem_ix

/-! ### slices -/
def cutD (l : List D) (lo hi : Option Int) : List D := (l.drop (HT.sIx l.length 0 lo)).take (HT.sIx l.length l.length hi - HT.sIx l.length 0 lo)
def SO := List Sl → R (Option Int)
def oNone : SO := fun δ => .ok none δ
def oSome (f : SE) : SO := fun δ => (f δ).bind fun a δ1 => match a with
  | .v (.int i) => .ok (some i) δ1
  | _ => .bad
def rdO (K : PySem.W.Frag) (mg : Str → Option Value) (W : WX) (f : SO) : TO := fun σ H Q => ∃ F bs H0 δ, Rel K mg F bs H0 δ σ H ∧ Post K mg W F bs H0 (fun a _ x _ => x = a) δ σ H (f δ) Q
abbrev DO (X : Cx) (W : WX) (e : Option Expr) (f : SO) : Prop := PO X e (rdO X.K X.mg W f)
theorem _root_.L2.PO.imp {e : Option Expr} {t t' : TO} (h : PO X e t) (i : ∀ σ H Q, t' σ H Q → t σ H Q) : PO X e t' := ⟨fun pins s σ H Q I q => h.run pins s σ H Q I (i σ H Q q)⟩
theorem do_none : DO X W none oNone := po_none.imp fun σ H Q ⟨F, bs, H0, δ, R, h⟩ => h none H R .refl rfl
theorem do_some {e : Expr} {f : SE} (h : DE X W e f) : DO X W (some e) (oSome f) := (po_some h).imp fun σ H Q ⟨F, bs, H0, δ, R, h⟩ => by
  refine ⟨F, bs, H0, δ, R, Post.imp (Post.first h) fun x H1 ⟨δ1, a, R1, k1, p, h1⟩ => ?_⟩
  split at h1
  · exact ⟨_, by simpa only [AgR, Rep] using p, h1 _ H1 R1 .refl rfl⟩
  · exact h1.elim
def gSl (d : D) (lo hi : Option Int) : Option D := match d with
  | .tup l => some (.tup (cutD l lo hi))
  | .lst l => some (.lst (cutD l lo hi))
  | _ => none
def eSl (f : SE) (lo hi : SO) : SE := fun δ => (f δ).bind fun a δ1 => (lo δ1).bind fun l δ2 => (hi δ2).bind fun u δ3 => match look δ3 a with
  | some d => opt (gSl d l u) δ3
  | none => .bad
theorem cut_rep {A : AP} {l : List D} {xs : List V} {lo hi : Option Int} (r : RepL K mg A H l xs) : RepL K mg A H (cutD l lo hi) (cutV xs lo hi) := by
  unfold cutD cutV
  rw [r.len]
  exact (r.drop _).take _
def rSlX (K : PySem.W.Frag) : V → Option Int → Option Int → Hp → VK → Prop := fun x lo hi H Q => rSlA K x lo hi H Q ∨ rSlL K x lo hi H Q
theorem sl_any : L2.SlR X (rSlX X.K) := sl_tupA.or sl_list
theorem rd_sl {f : SE} {lo hi : SO} {Q : VK} (h : rdE K mg W (eSl f lo hi) σ H Q) : tSl (rSlX K) (rdE K mg W f) (rdO K mg W lo) (rdO K mg W hi) σ H Q := by
  obtain ⟨F, bs, H0, δ, R, h⟩ := h
  refine ⟨F, bs, H0, δ, R, Post.imp (Post.first h) fun x H1 ⟨δ1, a, R1, k1, p, h1⟩ => ?_⟩
  refine ⟨F, bs, H0, δ1, R1, Post.imp (Post.first h1) fun l H2 ⟨δ2, b, R2, k2, e2, h2⟩ => ?_⟩
  subst e2
  refine ⟨F, bs, H0, δ2, R2, Post.imp (Post.first h2) fun u H3 ⟨δ3, b, R3, k3, e3, h3⟩ => ?_⟩
  subst e3
  have p3 := (p.mv R1 k2).mv R2 k3
  cases ea : look δ3 a with
  | none => simp only [ea] at h3; exact h3.elim
  | some d =>
    simp only [ea] at h3
    obtain ⟨d', e2, q⟩ := Post.optd (H' := H3) h3
    have r := R3.look p3 ea
    cases d <;> try cases e2
    · rename_i t
      obtain ⟨ad, xs, ex, tt, rr⟩ := r.tup
      refine .inl ⟨ad, xs, ex, tt.sq, fun z => ?_, fun z q' hq => ?_⟩
      · have ec : cutD t l u = t := by
          have e := cut_rep (lo := l) (hi := u) rr
          unfold cutD
          rw [rr.len] at z
          rw [z.1, z.2]
          simp
        refine q _ H3 R3 .refl ?_
        rw [ec]
        simp only [Rep]
        exact ⟨ad, xs, rfl, tt, rr⟩
      · obtain ⟨R4, k4, r4⟩ := R3.tup (cut_rep (lo := l) (hi := u) rr) hq
        exact q _ _ R4 k4 r4
    · rename_i t
      obtain ⟨ad, xs, ex, tt, rr⟩ := r.lst
      refine .inr ⟨ad, xs, ex, .inl (.inl tt), fun q' hq => ?_⟩
      obtain ⟨R4, k4, r4⟩ := R3.lst (cut_rep (lo := l) (hi := u) rr) hq
      exact q _ _ R4 k4 r4
theorem de_sl {a : Expr} {lo hi : Option Expr} {f : SE} {l u : SO} {p2 : Pos} (ha : DE X W a f) (hl : DO X W lo l) (hh : DO X W hi u) : DE X W (.Subscript a (.Slice lo hi none p2) pos) (eSl f l u) := (pe_slice sl_any ha hl hh).imp fun _ _ _ => rd_sl

/-! ### methods of one's own lists -/
def lstAt (δ : List Sl) (i : Nat) : Option (List D) := match obAt δ i with
  | some (.lst l) => some l
  | _ => none
theorem lstAt_ob {δ : List Sl} {i : Nat} {l : List D} (h : lstAt δ i = some l) : obAt δ i = some (.lst l) := by
  unfold lstAt at h
  cases e : obAt δ i with
  | none => rw [e] at h; cases h
  | some c => cases c <;> rw [e] at h <;> first | (cases h; rfl) | cases h
def sApp (i : Nat) (f : SE) : SS := fun δ => match lstAt δ i with
  | none => .bad
  | some _ => (f δ).bindS fun a δ1 => match a, lstAt δ1 i with
    | .v d, some l => if l.length ≤ lim then .nx (setOb δ1 i (.lst (l ++ [d]))) else .bad
    | _, _ => .bad
def sExt (i : Nat) (f : SE) : SS := fun δ => match lstAt δ i with
  | none => .bad
  | some _ => (f δ).bindS fun a δ1 => match a, lstAt δ1 i with
    | .v (.lst m), some l => if l.length + m.length ≤ lim then .nx (setOb δ1 i (.lst (l ++ m))) else .bad
    | _, _ => .bad
def ePop (i : Nat) : SE := fun δ => match lstAt δ i with
  | some l => match l.getLast? with
    | some d => .ok (.v d) (setOb δ i (.lst l.dropLast))
    | none => .bad
  | _ => .bad
def sSetI (i : Nat) (fi fv : SE) : SS := fun δ => (fv δ).bindS fun a δ1 => match lstAt δ1 i with
  | none => .bad
  | some _ => (fi δ1).bindS fun b δ2 => match a, b, lstAt δ2 i with
    | .v d, .v (.int k), some l => match ixN l.length k with
      | some j => .nx (setOb δ2 i (.lst (l.set j d)))
      | none => .bad
    | _, _, _ => .bad
variable {F : AP} {bs : List Addr} {H0 : Hp} {δ : List Sl}
/-- the list at slot i -/
theorem Rel.lstAt (R : Rel K mg F bs H0 δ σ H) {i : Nat} {l : List D} (h : lstAt δ i = some l) : ∃ p xs, σ[i]? = some (some (.ref p)) ∧ H p = some (.lst xs) ∧ RepL K mg (AA F δ σ) H l xs := by
  obtain ⟨p, o, e1, e2, ⟨xs, eo, r⟩, _⟩ := R.obj (lstAt_ob h)
  subst eo
  exact ⟨p, xs, e1, e2, r⟩
theorem rd_app {i : Nat} {f : SE} {E : Ends} (h : rdS K mg W (sApp i f) E σ H) : tDrop (tBM K "list" rAppend (tVar i) (tCons (rdE K mg W f) tNil)) E σ H := by
  obtain ⟨F, bs, H0, δ, R, h⟩ := h
  unfold sApp at h
  cases e0 : DL.lstAt δ i with
  | none => rw [e0] at h; exact h.elim
  | some l0 =>
  rw [e0] at h
  obtain ⟨p, xs, e1, e2, _⟩ := R.lstAt e0
  refine ⟨.ref p, e1, .inl ⟨rfl, xs, .inl (.inl e2)⟩, F, bs, H0, δ, R, Post.imp (PostS.first h) fun y H1 ⟨δ1, a, R1, k1, q, h1⟩ => ?_⟩
  split at h1
  · rename_i d l eo
    by_cases z : l.length ≤ lim
    · rw [if_pos z] at h1
      obtain ⟨p', xs', f1, f2, r⟩ := R1.lstAt eo
      rw [e1] at f1
      cases f1
      obtain ⟨R2, k2⟩ := R1.setOb (c' := .lst (l ++ [d])) (o' := .lst (xs' ++ [y])) (lstAt_ob eo) e1 ⟨xs' ++ [y], rfl, r.append (RepL.cons q RepL.nil)⟩
      exact ⟨p, xs', y, rfl, rfl, f2, by rw [r.len]; exact lim_lt z, h1 σ _ R2 k2⟩
    · rw [if_neg z] at h1; exact h1.elim
  · exact h1.elim
theorem rd_ext {i : Nat} {f : SE} {E : Ends} (h : rdS K mg W (sExt i f) E σ H) : tDrop (tBM K "list" rExtend (tVar i) (tCons (rdE K mg W f) tNil)) E σ H := by
  obtain ⟨F, bs, H0, δ, R, h⟩ := h
  unfold sExt at h
  cases e0 : DL.lstAt δ i with
  | none => rw [e0] at h; exact h.elim
  | some l0 =>
  rw [e0] at h
  obtain ⟨p, xs, e1, e2, _⟩ := R.lstAt e0
  refine ⟨.ref p, e1, .inl ⟨rfl, xs, .inl (.inl e2)⟩, F, bs, H0, δ, R, Post.imp (PostS.first h) fun y H1 ⟨δ1, a, R1, k1, q, h1⟩ => ?_⟩
  split at h1
  · rename_i m l eo
    by_cases z : l.length + m.length ≤ lim
    · rw [if_pos z] at h1
      obtain ⟨p', xs', f1, f2, r⟩ := R1.lstAt eo
      rw [e1] at f1
      cases f1
      simp only [AgR, Rep] at q
      obtain ⟨b, ys, ey, t, r2⟩ := q
      subst ey
      obtain ⟨R2, k2⟩ := R1.setOb (c' := .lst (l ++ m)) (o' := .lst (xs' ++ ys)) (lstAt_ob eo) e1 ⟨xs' ++ ys, rfl, r.append r2⟩
      exact ⟨p, b, xs', ys, rfl, rfl, f2, t.1, by rw [r.len, r2.len]; exact lim_le z, h1 σ _ R2 k2⟩
    · rw [if_neg z] at h1; exact h1.elim
  · exact h1.elim
theorem rd_pop {i : Nat} {Q : VK} (h : rdE K mg W (ePop i) σ H Q) : tBM0 K "list" rPop (tVar i) σ H Q := by
  obtain ⟨F, bs, H0, δ, R, h⟩ := h
  unfold ePop at h
  cases e0 : DL.lstAt δ i with
  | none => rw [e0] at h; exact h.elim
  | some l =>
  rw [e0] at h
  obtain ⟨p, xs, e1, e2, r⟩ := R.lstAt e0
  refine ⟨.ref p, e1, .inl ⟨rfl, xs, .inl (.inl e2)⟩, ?_⟩
  cases el : l.getLast? with
  | none => simp only [el] at h; exact h.elim
  | some d =>
    simp only [el] at h
    rw [List.getLast?_eq_getElem?] at el
    obtain ⟨x, ex, rx⟩ := r.get el
    obtain ⟨R2, k2⟩ := R.setOb (c' := .lst l.dropLast) (o' := .lst xs.dropLast) (lstAt_ob e0) e1 ⟨xs.dropLast, rfl, r.dropLast⟩
    exact ⟨p, xs, x, rfl, rfl, e2, by rw [r.len]; exact ex, h x _ R2 k2 (Rep.mv (R.mv k2) _ _ rx)⟩
theorem rd_setI {i : Nat} {fi fv : SE} {E : Ends} (h : rdS K mg W (sSetI i fi fv) E σ H) : tAsg (rdE K mg W fv) (L2.gSub (tVar i) (rdE K mg W fi) rSetL) E σ H := by
  obtain ⟨F, bs, H0, δ, R, h⟩ := h
  refine ⟨F, bs, H0, δ, R, Post.imp (PostS.first h) fun x H1 ⟨δ1, a, R1, k1, pa, h1⟩ => ?_⟩
  cases e0 : DL.lstAt δ1 i with
  | none => rw [e0] at h1; exact h1.elim
  | some l0 =>
  rw [e0] at h1
  obtain ⟨p, xs0, e1, _, _⟩ := R1.lstAt e0
  refine ⟨.ref p, e1, F, bs, H0, δ1, R1, Post.imp (PostS.first h1) fun y H2 ⟨δ2, b, R2, k2, pb, h2⟩ => ?_⟩
  split at h2
  · rename_i d k l eo _
    cases ej : ixN l.length k with
    | none => simp only [ej] at h2; exact h2.elim
    | some j =>
      simp only [ej] at h2
      obtain ⟨p', xs, f1, f2, r⟩ := R2.lstAt eo
      rw [e1] at f1
      cases f1
      have rx := Rep.mv (R1.mv k2) _ _ pa
      obtain ⟨R3, k3⟩ := R2.setOb (c' := .lst (l.set j d)) (o' := .lst (xs.set j x)) (lstAt_ob eo) e1 ⟨_, rfl, r.set rx j⟩
      exact ⟨p, xs, k, j, rfl, by simpa only [AgR, Rep] using pb, f2, by rw [r.len]; exact ej, h2 σ _ R3 k3⟩
  · exact h2.elim
variable {x : Str} {e v : Expr} {f g : SE} {apos cpos p2 : Pos}
theorem ds_app {o : Expr} {i : Nat} (ho : PE X o (tVar i)) (he : DE X W e f) (hbase : attributeBase o "append" X.env (eval o X.env) = eval o X.env := by rfl)
    (hfew : ((backTo cpos (starEach [e] X.env)).all (fun x => !x.1) && (backToKw cpos (keywordEach [] X.env)).all (fun x => x.1.isSome) && decide ([e].length + ([] : List Keyword).length + (if ([] : List Keyword).isEmpty then 0 else 1) < 30)) = true := by rfl)
    (hline : (apos.endLine == cpos.line) = true := by rfl) (hs : starEach [e] X.env = (false, eval e X.env) :: starEach [] X.env := by rfl) (hplain : (backTo cpos (starEach [] X.env)).any (·.1) = false := by rfl)
    (hsw : swapsWith (.Call (.Attribute o "append" apos) [e] [] cpos) none pos.line X.env = pure false := by rfl) : DS X W (.Expr (.Call (.Attribute o "append" apos) [e] [] cpos) pos) (sApp i f) :=
  (ps_expr (pe_bm F.plainAttrs_list F.slot_list_append F.type_list_append mt_append ho (pa_cons he pa_nil hs) hbase hfew hline hs hplain) hsw).imp fun _ _ _ => rd_app
theorem ds_ext {o : Expr} {i : Nat} (ho : PE X o (tVar i)) (he : DE X W e f) (hbase : attributeBase o "extend" X.env (eval o X.env) = eval o X.env := by rfl)
    (hfew : ((backTo cpos (starEach [e] X.env)).all (fun x => !x.1) && (backToKw cpos (keywordEach [] X.env)).all (fun x => x.1.isSome) && decide ([e].length + ([] : List Keyword).length + (if ([] : List Keyword).isEmpty then 0 else 1) < 30)) = true := by rfl)
    (hline : (apos.endLine == cpos.line) = true := by rfl) (hs : starEach [e] X.env = (false, eval e X.env) :: starEach [] X.env := by rfl) (hplain : (backTo cpos (starEach [] X.env)).any (·.1) = false := by rfl)
    (hsw : swapsWith (.Call (.Attribute o "extend" apos) [e] [] cpos) none pos.line X.env = pure false := by rfl) : DS X W (.Expr (.Call (.Attribute o "extend" apos) [e] [] cpos) pos) (sExt i f) :=
  (ps_expr (pe_bm F.plainAttrs_list F.slot_list_extend F.type_list_extend mt_extend ho (pa_cons he pa_nil hs) hbase hfew hline hs hplain) hsw).imp fun _ _ _ => rd_ext
theorem de_pop {o : Expr} {i : Nat} (ho : PE X o (tVar i)) (hbase : attributeBase o "pop" X.env (eval o X.env) = eval o X.env := by rfl) (hline : (apos.endLine == cpos.line) = true := by rfl) :
    DE X W (.Call (.Attribute o "pop" apos) [] [] cpos) (ePop i) := (pe_bm0 F.plainAttrs_list F.slot_list_pop F.type_list_pop mt_pop ho hbase hline).imp fun _ _ _ => rd_pop
theorem ds_setI {o : Expr} {i : Nat} (ho : PE X o (tVar i)) (hi : DE X W e g) (hv : DE X W v f)
    (ha : ∀ v, assign (.Subscript o e p2) X.env v = (do
      let ov ← holding [v] (eval o X.env)
      let iv ← holding [v, ov] (eval e X.env)
      standAt p2
      holding [v, ov, iv] (setItem ov iv v)
      release [v, ov, iv] []) := by intro _; rfl)
    (hs : swapsWithSole [.Subscript o e p2] v pos.line X.env = pure false := by rfl) (hw : swappedStores [.Subscript o e p2] v X.env = pure none := by rfl)
    (h1 : (assignEach [.Subscript o e p2] X.env).map (·.2) = [assign (.Subscript o e p2) X.env] := by rfl) : DS X W (.Assign [.Subscript o e p2] v pos) (sSetI i g f) :=
  (ps_asg hv (pg_sub ho hi set_list ha) hs hw h1).imp fun _ _ _ => rd_setI

/-! ### dicts of one's own -/
def hasK (ks : List Key) (k : Key) : Bool := ks.any fun j => decide (j = k)
def putKs (ks : List Key) (k : Key) : List Key := if hasK ks k then ks else ks ++ [k]
def putVs (ks : List Key) (vs : List D) (k : Key) (d : D) : List D := if hasK ks k then (ks.zip vs).map fun p => if p.1 = k then d else p.2 else vs ++ [d]
def nDict : SN := fun δ => .ok (.dk [] []) δ
def dkAt (δ : List Sl) (i : Nat) : Option (List Key × List D) := match obAt δ i with
  | some (.dk ks vs) => some (ks, vs)
  | _ => none
theorem dkAt_ob {δ : List Sl} {i : Nat} {ks : List Key} {vs : List D} (h : dkAt δ i = some (ks, vs)) : obAt δ i = some (.dk ks vs) := by
  unfold dkAt at h
  cases e : obAt δ i with
  | none => rw [e] at h; cases h
  | some c => cases c <;> rw [e] at h <;> first | (cases h; rfl) | cases h
def sPut (i : Nat) (fi fv : SE) : SS := fun δ => (fv δ).bindS fun a δ1 => match dkAt δ1 i with
  | none => .bad
  | some _ => (fi δ1).bindS fun b δ2 => match a, b, dkAt δ2 i with
    | .v d, .v kd, some (ks, vs) => match keyD kd with
      | some k => if ks.length ≤ lim then .nx (setOb δ2 i (.dk (putKs ks k) (putVs ks vs k d))) else .bad
      | none => .bad
    | _, _, _ => .bad
theorem any_mem {ks : List Key} {xs : List V} {k : Key} (l : ks.length = xs.length) : ((ks.zip xs).any fun kv => decide (kv.1 = k)) = hasK ks k := by
  induction ks generalizing xs with
  | nil => rfl
  | cons a ks ih =>
    cases xs with
    | nil => cases l
    | cons x xs =>
      have := ih (xs := xs) (by simpa using l)
      simp only [hasK] at this
      simp only [hasK, List.zip_cons_cons, List.any_cons, this]
theorem map_put {A : AP} {k : Key} {d : D} {y : V} (ry : Rep K mg A H d y) : ∀ {ks : List Key} {vs : List D} {xs : List V}, RepL K mg A H vs xs → ks.length = vs.length →
    ∃ ys, (ks.zip xs).map (fun kv => if kv.1 = k then (kv.1, y) else kv) = ks.zip ys ∧ RepL K mg A H ((ks.zip vs).map fun p => if p.1 = k then d else p.2) ys
  | [], [], xs, r, l => ⟨[], rfl, RepL.nil⟩
  | k0 :: ks, v :: vs, xs, r, l => by
    simp only [RepL] at r
    obtain ⟨x, r', ex, h1, h2⟩ := r
    subst ex
    obtain ⟨ys, e, ry'⟩ := map_put (k := k) ry h2 (by simpa using l)
    by_cases z : k0 = k
    · refine ⟨y :: ys, ?_, ?_⟩
      · simp only [List.zip_cons_cons, List.map_cons, e, if_pos z]
      · simp only [List.zip_cons_cons, List.map_cons, if_pos z]
        exact RepL.cons ry ry'
    · refine ⟨x :: ys, ?_, ?_⟩
      · simp only [List.zip_cons_cons, List.map_cons, e, if_neg z]
      · simp only [List.zip_cons_cons, List.map_cons, if_neg z]
        exact RepL.cons h1 ry'
  | [], _ :: _, _, _, l => by simp at l
  | _ :: _, [], _, _, l => by simp at l
theorem put_rep {A : AP} {k : Key} {d : D} {y : V} {ks : List Key} {vs : List D} {xs : List V} (ry : Rep K mg A H d y) (r : RepL K mg A H vs xs) (l : ks.length = vs.length) :
    ObR K mg A H (.dk (putKs ks k) (putVs ks vs k d)) (.dK (putK (ks.zip xs) k y)) := by
  have lx : ks.length = xs.length := by rw [r.len]; exact l
  unfold putK putKs putVs
  rw [any_mem lx]
  by_cases z : hasK ks k = true
  · rw [if_pos z, if_pos z, if_pos z]
    obtain ⟨ys, e, ry'⟩ := map_put (k := k) ry r l
    exact ⟨ys, by rw [e], by rw [List.length_map, List.length_zip, ← l, Nat.min_self], ry'⟩
  · rw [if_neg z, if_neg z, if_neg z]
    refine ⟨xs ++ [y], ?_, by simp [l], r.append (RepL.cons ry RepL.nil)⟩
    rw [List.zip_append lx]
    rfl
theorem dn_dict : DN X W (.Dict [] [] pos) nDict := pe_dnewK.imp fun σ H Q ⟨F, bs, H0, δ, R, h⟩ => fun p hp => h (p, .dK []) H R .refl ⟨hp, [], rfl, rfl, RepL.nil⟩
theorem Rel.dkAt (R : Rel K mg F bs H0 δ σ H) {i : Nat} {ks : List Key} {vs : List D} (h : dkAt δ i = some (ks, vs)) : ∃ p xs, σ[i]? = some (some (.ref p)) ∧ H p = some (.dK (ks.zip xs)) ∧ ks.length = vs.length ∧ RepL K mg (AA F δ σ) H vs xs := by
  obtain ⟨p, o, e1, e2, ⟨xs, eo, l, r⟩, _⟩ := R.obj (dkAt_ob h)
  subst eo
  exact ⟨p, xs, e1, e2, l, r⟩
theorem rd_put {i : Nat} {fi fv : SE} {E : Ends} (h : rdS K mg W (sPut i fi fv) E σ H) : sDPut (tVar i) (rdE K mg W fi) (rdE K mg W fv) E σ H := by
  obtain ⟨F, bs, H0, δ, R, h⟩ := h
  refine ⟨F, bs, H0, δ, R, Post.imp (PostS.first h) fun x H1 ⟨δ1, a, R1, k1, pa, h1⟩ => ?_⟩
  cases e0 : DL.dkAt δ1 i with
  | none => rw [e0] at h1; exact h1.elim
  | some l0 =>
  rw [e0] at h1
  obtain ⟨p, xs0, e1, _, _⟩ := R1.dkAt (ks := l0.1) (vs := l0.2) e0
  refine ⟨.ref p, e1, F, bs, H0, δ1, R1, Post.imp (PostS.first h1) fun y H2 ⟨δ2, b, R2, k2, pb, h2⟩ => ?_⟩
  split at h2
  · rename_i d kd ks vs eo _
    cases ek : keyD kd with
    | none => simp only [ek] at h2; exact h2.elim
    | some k =>
      simp only [ek] at h2
      by_cases z : ks.length ≤ lim
      · rw [if_pos z] at h2
        obtain ⟨p', xs, f1, f2, l, r⟩ := R2.dkAt eo
        rw [e1] at f1
        cases f1
        have rx := Rep.mv (R1.mv k2) _ _ pa
        have ey := RepW.key (Rep.w pb) ek
        subst ey
        obtain ⟨R3, k3⟩ := R2.setOb (dkAt_ob eo) e1 (put_rep (k := k) rx r l)
        exact ⟨p, _, rfl, .inl ⟨_, k, f2, rfl, by rw [List.length_zip]; exact Nat.lt_of_le_of_lt (Nat.min_le_left _ _) (lim_lt z), rfl⟩, h2 σ _ R3 k3⟩
      · rw [if_neg z] at h2; exact h2.elim
  · exact h2.elim
theorem ds_put {o : Expr} {i : Nat} (hu : X.A.units + 1 < cLine) (ho : PE X o (tVar i)) (hi : DE X W e g) (hv : DE X W v f) (hs : swapsWith v (some (.Subscript o e p2)) pos.line X.env = pure false := by rfl) :
    DS X W (.Assign [.Subscript o e p2] v pos) (sPut i g f) := (ps_dput hu ho hi hv hs).imp fun _ _ _ => rd_put
end
end DL
set_option Elab.async false
set_option linter.all false
set_option maxRecDepth 100000
set_option maxHeartbeats 4000000
/-! DL: defs and calls of defs. -/
namespace DL
open PySem PySem.Spec L2
open PyProof.Rows hiding St

inductive Ar where
  | v (d : D)
  | io (c : Ob)
inductive RF where
  | ret (d : D) (ios : List Ob)
  | new (c : Ob) (ios : List Ob)
  | exc (c : Str) (ns : List Str) (vs : List D) (ios : List Ob)
  | bad
abbrev FD := List Ar → RF
def ArsR (K : PySem.W.Frag) (mg : Str → Option Value) (F : AP) (H : Hp) : List Ar → List V → List Addr → Prop
  | [], [], [] => True
  | .v d :: r, x :: xs, bs => Rep K mg F H d x ∧ ArsR K mg F H r xs bs
  | .io c :: r, x :: xs, b :: bs => x = .ref b ∧ (∃ o, H b = some o ∧ ObR K mg F H c o) ∧ ArsR K mg F H r xs bs
  | _, _, _ => False
def IosR (K : PySem.W.Frag) (mg : Str → Option Value) (F : AP) (H : Hp) : List Ob → List Addr → Prop
  | [], [] => True
  | c :: cs, b :: bs => (∃ o, H b = some o ∧ ObR K mg F H c o) ∧ IosR K mg F H cs bs
  | _, _ => False
def argSl : Nat → List Ar → List Sl
  | _, [] => []
  | k, .v d :: r => .val d :: argSl k r
  | k, .io c :: r => .io k c :: argSl (k + 1) r
/-- the slots at a def's entry, n of them -/
def slots (n : Nat) (as : List Ar) : List Sl := argSl 0 as ++ List.replicate (n - as.length) .no
def iosOf : Nat → List Ar → List Sl → Option (List Ob)
  | _, [], _ => some []
  | k, .v _ :: r, _ :: δ => iosOf k r δ
  | k, .io _ :: r, .io j c :: δ => if j = k then (match iosOf (k + 1) r δ with
    | some l => some (c :: l)
    | none => none) else none
  | _, _, _ => none
def finish (as : List Ar) : RS → RF
  | .nx δ => match iosOf 0 as δ with
    | some l => .ret .non l
    | none => .bad
  | .rt d δ => match iosOf 0 as δ with
    | some l => .ret d l
    | none => .bad
  | .rtN c δ => match iosOf 0 as δ with
    | some l => .new c l
    | none => .bad
  | .exc c ns vs δ => match iosOf 0 as δ with
    | some l => .exc c ns vs l
    | none => .bad
  | _ => .bad
/-- a def: m parameters, n slots, the body's reading -/
def fD (m n : Nat) (g : SS) : FD := fun as => if as.length = m then finish as (g (slots n as)) else .bad
def Was (bs : List Addr) (F : AP) (H H' : Hp) : Prop := (∀ a o, a ∉ bs → H a = some o → H' a = some o) ∧ ∀ a, F a → H' a ≠ none
def PostF (K : PySem.W.Frag) (mg : Str → Option Value) (F : AP) (bs : List Addr) (H : Hp) (r : RF) (Q : VK) (E : XK) : Prop :=
  match r with
  | .ret d ios => ∀ v H', Was bs F H H' → IosR K mg F H' ios bs → Rep K mg F H' d v → Q v H'
  | .new c ios => ∀ p o H', H' p = none → Was bs F H H' → IosR K mg F H' ios bs → ObR K mg F H' c o → Q (.ref p) (upd H' p o)
  | .exc c ns vs ios => ∀ C dx xs H', mg c = some (.ref C) → H' dx = some (.xd (ns.zip xs)) → ns.length = vs.length → Was bs F H H' → IosR K mg F H' ios bs → ¬ F dx → RepL K mg F H' vs xs → E (.ref C) (some dx) H'
  | .bad => False
def spD (K : PySem.W.Frag) (mg : Str → Option Value) (g : FD) : Sp := fun vs H Q E => ∃ (F : AP) (bs : List Addr) (as : List Ar),
  ArsR K mg F H as vs bs ∧ bs.Nodup ∧ (∀ b, b ∈ bs → F b) ∧ (∀ a, F a → H a ≠ none) ∧ PostF K mg F bs H (g as) Q E
section
variable {K : PySem.W.Frag} {mg : Str → Option Value} {F : AP} {H H' : Hp}
theorem ArsR.len : ∀ {as : List Ar} {vs : List V} {bs : List Addr}, ArsR K mg F H as vs bs → vs.length = as.length
  | [], [], [], _ => rfl
  | .v d :: r, x :: xs, bs, h => by simp only [ArsR] at h; rw [List.length_cons, List.length_cons, ArsR.len h.2]
  | .io c :: r, x :: xs, b :: bs, h => by simp only [ArsR] at h; rw [List.length_cons, List.length_cons, ArsR.len h.2.2]
  | [], _ :: _, _, h => by simp only [ArsR] at h
  | [], [], _ :: _, h => by simp only [ArsR] at h
  | .v _ :: _, [], _, h => by simp only [ArsR] at h
  | .io _ :: _, [], _, h => by simp only [ArsR] at h
  | .io _ :: _, _ :: _, [], h => by simp only [ArsR] at h
theorem argSl_len : ∀ {k : Nat} {as : List Ar}, (argSl k as).length = as.length
  | _, [] => rfl
  | k, .v d :: r => by simp only [argSl, List.length_cons, argSl_len]
  | k, .io c :: r => by simp only [argSl, List.length_cons, argSl_len]
/-- what stands at a slot at the entry -/
theorem ArsR.at : ∀ {as : List Ar} {vs : List V} {bs : List Addr} {k : Nat} {L : List Addr}, ArsR K mg F H as vs bs → (∀ j b, bs[j]? = some b → L[k + j]? = some b) → ∀ (i : Nat) (s : Sl), (argSl k as)[i]? = some s →
    (∃ d v, s = .val d ∧ vs[i]? = some v ∧ Rep K mg F H d v) ∨ ∃ j c p o, s = .io j c ∧ k ≤ j ∧ L[j]? = some p ∧ vs[i]? = some (.ref p) ∧ H p = some o ∧ ObR K mg F H c o
  | [], [], [], k, L, _, _, i, s, e => by simp [argSl] at e
  | .v d :: r, x :: xs, bs, k, L, h, hL, 0, s, e => by
    simp only [ArsR] at h
    simp [argSl] at e
    exact .inl ⟨d, x, e.symm, rfl, h.1⟩
  | .v d :: r, x :: xs, bs, k, L, h, hL, i + 1, s, e => by
    simp only [ArsR] at h
    simp only [argSl, List.getElem?_cons_succ] at e ⊢
    exact ArsR.at h.2 hL i s e
  | .io c :: r, x :: xs, b :: bs, k, L, h, hL, 0, s, e => by
    simp only [ArsR] at h
    simp [argSl] at e
    obtain ⟨ex, ⟨o, ho, r⟩, _⟩ := h
    exact .inr ⟨k, c, b, o, e.symm, Nat.le_refl _, hL 0 b rfl, by rw [ex]; rfl, ho, r⟩
  | .io c :: r, x :: xs, b :: bs, k, L, h, hL, i + 1, s, e => by
    simp only [ArsR] at h
    simp only [argSl, List.getElem?_cons_succ] at e ⊢
    rcases ArsR.at (k := k + 1) (L := L) h.2.2 (fun j b' hb => by have := hL (j + 1) b' (by simpa using hb); rw [← this]; congr 1; omega) i s e with z | ⟨j, c', p, o, e1, e2, z⟩
    · exact .inl z
    · exact .inr ⟨j, c', p, o, e1, by omega, z⟩
  | [], _ :: _, _, _, _, h, _, _, _, _ => by simp only [ArsR] at h
  | [], [], _ :: _, _, _, h, _, _, _, _ => by simp only [ArsR] at h
  | .v _ :: _, [], _, _, _, h, _, _, _, _ => by simp only [ArsR] at h
  | .io _ :: _, [], _, _, _, h, _, _, _, _ => by simp only [ArsR] at h
  | .io _ :: _, _ :: _, [], _, _, h, _, _, _, _ => by simp only [ArsR] at h
theorem argSl_io : ∀ {as : List Ar} {k i j n : Nat} {c d : Ob}, (argSl k as)[i]? = some (.io n c) → (argSl k as)[j]? = some (.io n d) → i = j ∧ k ≤ n
  | [], k, i, j, n, c, d, h, g => by simp [argSl] at h
  | .v _ :: r, k, i, j, n, c, d, h, g => by
    cases i with
    | zero => simp [argSl] at h
    | succ i =>
      cases j with
      | zero => simp [argSl] at g
      | succ j =>
        simp only [argSl, List.getElem?_cons_succ] at h g
        have := argSl_io h g
        exact ⟨by omega, this.2⟩
  | .io c0 :: r, k, i, j, n, c, d, h, g => by
    cases i with
    | zero =>
      simp [argSl] at h
      cases j with
      | zero => exact ⟨rfl, by omega⟩
      | succ j =>
        simp only [argSl, List.getElem?_cons_succ] at g
        have := (argSl_io g g).2
        omega
    | succ i =>
      simp only [argSl, List.getElem?_cons_succ] at h
      have h2 := (argSl_io h h).2
      cases j with
      | zero =>
        simp [argSl] at g
        omega
      | succ j =>
        simp only [argSl, List.getElem?_cons_succ] at g
        have := argSl_io h g
        exact ⟨by omega, by omega⟩
theorem slots_at {n : Nat} {as : List Ar} {i : Nat} {s : Sl} (h : (slots n as)[i]? = some s) : (argSl 0 as)[i]? = some s ∨ s = .no := by
  unfold slots at h
  by_cases z : i < (argSl 0 as).length
  · rw [List.getElem?_append_left z] at h; exact .inl h
  · rw [List.getElem?_append_right (by omega)] at h
    have := List.mem_of_getElem? h
    exact .inr (List.eq_of_mem_replicate this)
/-- at a def's entry -/
theorem rel_start {N : List Str} {as : List Ar} {vs : List V} {bs : List Addr} (h : ArsR K mg F H as vs bs) (nd : bs.Nodup) (hb : ∀ b, b ∈ bs → F b) (hl : ∀ a, F a → H a ≠ none) : Rel K mg F bs H (slots N.length as) (L2.start N vs) H := by
  have no : ∀ {a : Addr}, ¬ OwnAt (slots N.length as) (L2.start N vs) a := fun {a} ⟨i, c, e1, e2⟩ => by
    rcases slots_at e1 with e | e
    · rcases h.at (k := 0) (L := bs) (fun j b hb => by rw [Nat.zero_add]; exact hb) i _ e with ⟨d, v, z, _⟩ | ⟨j, c, p, o, z, _⟩ <;> cases z
    · cases e
  have m : Mv F H (AA F (slots N.length as) (L2.start N vs)) H := fun a o n e => ⟨fun z => z.elim n fun y => no y, e⟩
  refine ⟨?_, fun i s e => ?_, fun i j c d a e1 _ e3 _ => absurd ⟨i, c, e1, e3⟩ no, fun a o _ e => e, hl, hb, fun i j k c d e1 e2 => ?_, nd⟩
  · unfold L2.start slots
    simp [argSl_len, h.len]
  · rcases slots_at e with e | e
    · have hi : i < vs.length := by rw [h.len, ← argSl_len (k := 0)]; exact (List.getElem?_eq_some_iff.mp e).1
      have hs : ∀ v, vs[i]? = some v → (L2.start N vs)[i]? = some (some v) := fun v hv => by
        unfold L2.start
        rw [List.getElem?_append_left (by simpa using hi), List.getElem?_map, hv]
        rfl
      rcases h.at (k := 0) (L := bs) (fun j b hb => by rw [Nat.zero_add]; exact hb) i s e with ⟨d, v, z, hv, r⟩ | ⟨j, c, p, o, z, _, hp, hv, ho, r⟩
      · subst z; exact ⟨v, hs v hv, r.mv m⟩
      · subst z; exact ⟨p, o, hp, hs _ hv, ho, r.mv m⟩
    · subst e; trivial
  · rcases slots_at e1 with e1 | e1
    · rcases slots_at e2 with e2 | e2
      · exact (argSl_io e1 e2).1
      · cases e2
    · cases e1
/-- what the argument slots hold at the end -/
theorem ios_end {bs0 : List Addr} {H0 : Hp} {δ : List Sl} {σ : St} (R : Rel K mg F bs0 H0 δ σ H') (hA : Mv (AA F δ σ) H' F H') : ∀ {as : List Ar} {vs : List V} {bs : List Addr} {k : Nat} {n : Nat} {l : List Ob}, ArsR K mg F H as vs bs → bs0.drop k = bs →
    iosOf k as (δ.drop n) = some l → IosR K mg F H' l bs
  | [], [], [], k, n, l, _, _, e => by simp [iosOf] at e; subst e; trivial
  | .v d :: r, x :: xs, bs, k, n, l, h, hb, e => by
    simp only [ArsR] at h
    cases ed : δ.drop n with
    | nil => rw [ed] at e; simp [iosOf] at e
    | cons s rest =>
      rw [ed] at e
      simp only [iosOf] at e
      have : δ.drop (n + 1) = rest := by rw [← List.drop_drop, ed]; rfl
      rw [← this] at e
      exact ios_end R hA h.2 hb e
  | .io c :: r, x :: xs, b :: bs, k, n, l, h, hb, e => by
    simp only [ArsR] at h
    cases ed : δ.drop n with
    | nil => rw [ed] at e; simp [iosOf] at e
    | cons s rest =>
      rw [ed] at e
      have hr : δ.drop (n + 1) = rest := by rw [← List.drop_drop, ed]; rfl
      have hs : δ[n]? = some s := by
        have := congrArg (fun l => l[0]?) ed
        simpa using this
      cases s with
      | no => simp [iosOf] at e
      | val _ => simp [iosOf] at e
      | exn _ _ _ _ _ => simp [iosOf] at e
      | own _ => simp [iosOf] at e
      | io j c' =>
        simp only [iosOf] at e
        by_cases z : j = k
        · rw [if_pos z] at e
          subst z
          rw [← hr] at e
          cases e2 : iosOf (j + 1) r (δ.drop (n + 1)) with
          | none => rw [e2] at e; cases e
          | some l' =>
            rw [e2] at e
            cases e
            have hbk : bs0[j]? = some b := by
              have := congrArg (fun l => l[0]?) hb
              simpa using this
            have hb' : bs0.drop (j + 1) = bs := by rw [← List.drop_drop, hb]; rfl
            obtain ⟨p, o, f0, f1, f2, f3⟩ := R.slot n _ hs
            rw [hbk] at f0
            cases f0
            exact ⟨⟨o, f2, f3.mv hA⟩, ios_end R hA h.2.2 hb' e2⟩
        · rw [if_neg z] at e; cases e
  | [], _ :: _, _, _, _, _, h, _, _ => by simp only [ArsR] at h
  | [], [], _ :: _, _, _, _, h, _, _ => by simp only [ArsR] at h
  | .v _ :: _, [], _, _, _, _, h, _, _ => by simp only [ArsR] at h
  | .io _ :: _, [], _, _, _, _, h, _, _ => by simp only [ArsR] at h
  | .io _ :: _, _ :: _, [], _, _, _, h, _, _ => by simp only [ArsR] at h
end

section
variable {K : PySem.W.Frag} {mg : Str → Option Value} {F : AP} {H H' : Hp}
theorem mv_out {δ : List Sl} {σ : St} : Mv (AA F δ σ) H F H := fun a o n e => ⟨fun z => n (.inl z), e⟩
theorem rel_was {bs : List Addr} {δ : List Sl} {σ : St} (R : Rel K mg F bs H δ σ H') : Was bs F H H' := ⟨R.ext, R.live⟩
theorem post_fn {N : List Str} {as : List Ar} {vs : List V} {bs : List Addr} {m : Nat} {g : SS} {Q : VK} {E : XK} (h : ArsR K mg F H as vs bs) (nd : bs.Nodup) (hb : ∀ b, b ∈ bs → F b) (hl : ∀ a, F a → H a ≠ none) (p : PostF K mg F bs H (fD m N.length g as) Q E) :
    rdS K mg (fun cls d _ H => E cls d H) g { nx := fun _ H' => Q .non H', rt := Q } (L2.start N vs) H := by
  refine ⟨F, bs, H, slots N.length as, rel_start h nd hb hl, ?_⟩
  unfold fD at p
  by_cases z : as.length = m
  · rw [if_pos z] at p
    cases e : g (slots N.length as) with
    | nx δ =>
      rw [e] at p
      simp only [finish] at p
      cases ei : iosOf 0 as δ with
      | none => rw [ei] at p; exact p.elim
      | some l =>
        rw [ei] at p
        exact fun σ' H' R k => p .non H' (rel_was R) (ios_end (n := 0) R mv_out h rfl ei) Rep.non
    | rt d δ =>
      rw [e] at p
      simp only [finish] at p
      cases ei : iosOf 0 as δ with
      | none => rw [ei] at p; exact p.elim
      | some l =>
        rw [ei] at p
        exact fun v σ' H' R k r => p v H' (rel_was R) (ios_end (n := 0) R mv_out h rfl ei) r
    | rtN c δ =>
      rw [e] at p
      simp only [finish] at p
      cases ei : iosOf 0 as δ with
      | none => rw [ei] at p; exact p.elim
      | some l =>
        rw [ei] at p
        exact fun q o σ' H' hq R k r => p q o H' hq (rel_was R) (ios_end (n := 0) R mv_out h rfl ei) r
    | exc c ns vs δ =>
      rw [e] at p
      simp only [finish] at p
      cases ei : iosOf 0 as δ with
      | none => rw [ei] at p; exact p.elim
      | some l =>
        rw [ei] at p
        exact fun σ' C dx xs H' hc hx hn R k nd' r => p C dx xs H' hc hx hn (rel_was R) (ios_end (n := 0) R mv_out h rfl ei) (fun z => nd' (.inl z)) (r.mv mv_out)
    | bk _ => rw [e] at p; exact p.elim
    | ct _ => rw [e] at p; exact p.elim
    | bad => rw [e] at p; exact p.elim
  · rw [if_neg z] at p; exact p.elim
end
section
variable {P : Program} {w : World} {K : PySem.W.Frag} {mg : Str → Option Value} {base : Heap}
theorem fn_ok {x qual : Str} {st : Stmt} {f : Addr} {fd : FuncData} {N ps : List Str} {k : Nat} {g : SS} (F : Fun K x qual st f fd) (S : FnScope N ps (defScope st))
    (hb : ∀ (cdv : Value) (A : Around) (outer : List Env) (s : Shared) (H : Hp) (E : XK), Room k (A.deeper (envOfC qual (defScope st) s.heap.objs.size f cdv)) →
      DSs (cxOf (L2N.CX P w) P w K mg base N qual (defScope st) f cdv A outer s H E) (fun cls d _ H => E cls d H) (defBody st) g) :
    FnOk P w K mg base (L2N.CX P w) (k + 1) f fd ps (spD K mg (fD ps.length N.length g)) :=
  by
  obtain ⟨oc, od, kV, doc, pm, an, cdv, ct, osl, rfl, lk, hcd⟩ := F.ex
  refine fn_of lk hcd S (fun vs H Q E ⟨F, bs, as, h, _, _, _, p⟩ => ?_) fun A outer s H vs Q E hr hsp => ?_
  · rw [h.len]
    unfold fD at p
    by_cases z : as.length = ps.length
    · exact z
    · rw [if_neg z] at p; exact p.elim
  · obtain ⟨F, bs, as, h, nd, hb', hl, p⟩ := hsp
    exact ⟨_, hb cdv A outer s H E hr, post_fn h nd hb' hl p⟩
end

/-! ### a call -/
def arOf (δ : List Sl) : List Ag → Option (List Ar)
  | [] => some []
  | .v d :: r => match arOf δ r with
    | some l => some (.v d :: l)
    | none => none
  | .s i :: r => match obAt δ i, arOf δ r with
    | some c, some l => some (.io c :: l)
    | _, _ => none
def ixs : List Ag → List Nat
  | [] => []
  | .v _ :: r => ixs r
  | .s i :: r => i :: ixs r
def putIos : List Sl → List Nat → List Ob → List Sl
  | δ, i :: is, c :: cs => putIos (setOb δ i c) is cs
  | δ, _, _ => δ
def nodupB : List Nat → Bool
  | [] => true
  | i :: is => !(is.contains i) && nodupB is
theorem nodupB_ok : ∀ {l : List Nat}, nodupB l = true → l.Nodup
  | [], _ => List.nodup_nil
  | i :: is, h => by
    simp only [nodupB, Bool.and_eq_true, Bool.not_eq_true'] at h
    exact List.nodup_cons.mpr ⟨fun z => (by have := h.1; rw [List.contains_iff_mem.mpr z] at this; cases this), nodupB_ok h.2⟩
def eCall (g : FD) (fa : SA) : SE := fun δ => (fa δ).bind fun as δ1 => match arOf δ1 as with
  | none => .bad
  | some ars => if nodupB (ixs as) then (match g ars with
    | .ret d ios => .ok (.v d) (putIos δ1 (ixs as) ios)
    | .new c ios => match obD c with
      | some d => .ok (.v d) (putIos δ1 (ixs as) ios)
      | none => .bad
    | .exc c ns vs ios => .exc c ns vs (putIos δ1 (ixs as) ios)
    | .bad => .bad) else .bad
def nCall (g : FD) (fa : SA) : SN := fun δ => (fa δ).bind fun as δ1 => match arOf δ1 as with
  | none => .bad
  | some ars => if nodupB (ixs as) then (match g ars with
    | .new c ios => .ok c (putIos δ1 (ixs as) ios)
    | .exc c ns vs ios => .exc c ns vs (putIos δ1 (ixs as) ios)
    | _ => .bad) else .bad
section
variable {K : PySem.W.Frag} {mg : Str → Option Value} {F : AP} {bs : List Addr} {H0 H H' : Hp} {δ : List Sl} {σ : St}
theorem putIos_len : ∀ {is : List Nat} {cs : List Ob} {δ : List Sl}, (putIos δ is cs).length = δ.length
  | [], _, _ => rfl
  | _ :: _, [], _ => rfl
  | i :: is, c :: cs, δ => by simp only [putIos]; rw [putIos_len, setOb_len]
theorem putIos_own : ∀ {is : List Nat} {cs : List Ob} {δ : List Sl} {a : Addr}, OwnAt (putIos δ is cs) σ a ↔ OwnAt δ σ a
  | [], _, _, _ => Iff.rfl
  | _ :: _, [], _, _ => Iff.rfl
  | i :: is, c :: cs, δ, a => by simp only [putIos]; exact putIos_own.trans own_setOb
theorem putIos_own1 : ∀ {is : List Nat} {cs : List Ob} {δ : List Sl} {n : Nat} {d : Ob}, (putIos δ is cs)[n]? = some (.own d) → ∃ d', δ[n]? = some (.own d')
  | [], _, _, _, d, h => ⟨d, h⟩
  | _ :: _, [], _, _, d, h => ⟨d, h⟩
  | i :: is, c :: cs, δ, n, d, h => by
    simp only [putIos] at h
    obtain ⟨d', h'⟩ := putIos_own1 h
    exact setOb_own h'
theorem putIos_io1 : ∀ {is : List Nat} {cs : List Ob} {δ : List Sl} {n k : Nat} {d : Ob}, (putIos δ is cs)[n]? = some (.io k d) → ∃ d', δ[n]? = some (.io k d')
  | [], _, _, _, _, d, h => ⟨d, h⟩
  | _ :: _, [], _, _, _, d, h => ⟨d, h⟩
  | i :: is, c :: cs, δ, n, k, d, h => by
    simp only [putIos] at h
    obtain ⟨d', h'⟩ := putIos_io1 h
    exact setOb_io h'
theorem setOb_ne {i j : Nat} {c : Ob} (h : i ≠ j) : (setOb δ i c)[j]? = δ[j]? := by
  unfold setOb
  split <;> first | exact List.getElem?_set_ne h | rfl
theorem putIos_out : ∀ {is : List Nat} {cs : List Ob} {δ : List Sl} {n : Nat}, n ∉ is → (putIos δ is cs)[n]? = δ[n]?
  | [], _, _, _, _ => rfl
  | _ :: _, [], _, _, _ => rfl
  | i :: is, c :: cs, δ, n, h => by
    simp only [putIos]
    rw [putIos_out fun z => h (List.mem_cons_of_mem _ z)]
    exact setOb_ne fun z => h (z ▸ List.mem_cons_self)
/-- two things of one's own stand apart -/
theorem Rel.apart2 (R : Rel K mg F bs H0 δ σ H) {i j : Nat} {c d : Ob} {p : Addr} (hi : obAt δ i = some c) (hj : obAt δ j = some d) (hij : i ≠ j) (h1 : σ[i]? = some (some (.ref p))) (h2 : σ[j]? = some (some (.ref p))) : False := by
  have sl : ∀ {n : Nat} {c : Ob}, obAt δ n = some c → δ[n]? = some (.own c) ∨ ∃ k, δ[n]? = some (.io k c) := fun {n c} h => by
    unfold obAt at h
    cases e : δ[n]? with
    | none => rw [e] at h; cases h
    | some s =>
      rw [e] at h
      cases s with
      | no => cases h
      | val _ => cases h
      | exn _ _ _ _ _ => cases h
      | own c' => cases h; exact .inl rfl
      | io k c' => cases h; exact .inr ⟨k, rfl⟩
  rcases sl hi with e1 | ⟨k1, e1⟩
  · rcases sl hj with e2 | ⟨k2, e2⟩
    · exact hij (R.apart i j _ _ p e1 e2 h1 h2)
    · obtain ⟨p1, o1, f1, _, _, nF, _⟩ := R.slot i _ e1
      obtain ⟨p2, o2, g0, g1, _⟩ := R.slot j _ e2
      rw [h1] at f1; cases f1
      rw [h2] at g1; cases g1
      exact nF (R.bsF _ (List.mem_of_getElem? g0))
  · rcases sl hj with e2 | ⟨k2, e2⟩
    · obtain ⟨p1, o1, f1, _, _, nF, _⟩ := R.slot j _ e2
      obtain ⟨p2, o2, g0, g1, _⟩ := R.slot i _ e1
      rw [h2] at f1; cases f1
      rw [h1] at g1; cases g1
      exact nF (R.bsF _ (List.mem_of_getElem? g0))
    · obtain ⟨p1, o1, f0, f1, _⟩ := R.slot i _ e1
      obtain ⟨p2, o2, g0, g1, _⟩ := R.slot j _ e2
      rw [h1] at f1; cases f1
      rw [h2] at g1; cases g1
      have hk : k1 = k2 := by
        obtain ⟨l1, t1⟩ := List.getElem?_eq_some_iff.mp f0
        obtain ⟨l2, t2⟩ := List.getElem?_eq_some_iff.mp g0
        exact (List.getElem_inj R.nd).mp (t1.trans t2.symm)
      subst hk
      exact hij (R.ioa i j k1 _ _ e1 e2)
/-- the slots is hold the things at ps -/
def AtP (δ : List Sl) (σ : St) : List Nat → List Addr → Prop
  | [], ps => ps = []
  | i :: is, ps => ∃ p r c, ps = p :: r ∧ σ[i]? = some (some (.ref p)) ∧ obAt δ i = some c ∧ AtP δ σ is r
theorem AtP.mem : ∀ {is : List Nat} {ps : List Addr} {p : Addr}, AtP δ σ is ps → p ∈ ps → ∃ i c, i ∈ is ∧ σ[i]? = some (some (.ref p)) ∧ obAt δ i = some c
  | [], ps, p, h, hp => by obtain rfl : ps = [] := h; cases hp
  | i :: is, ps, p, h, hp => by
    obtain ⟨q, r, c, e, e1, e2, h'⟩ := h
    subst e
    rcases List.mem_cons.mp hp with z | z
    · subst z; exact ⟨i, c, List.mem_cons_self, e1, e2⟩
    · obtain ⟨j, c', m, e3, e4⟩ := AtP.mem h' z
      exact ⟨j, c', List.mem_cons_of_mem _ m, e3, e4⟩
/-- what stands at a slot of is behind the call -/
theorem ios_slot : ∀ {is : List Nat} {ps : List Addr} {cs : List Ob} {δ : List Sl} {n : Nat} {s : Sl}, AtP δ σ is ps → is.Nodup → IosR K mg F H' cs ps → n ∈ is → (putIos δ is cs)[n]? = some s →
    ∃ p c o, σ[n]? = some (some (.ref p)) ∧ H' p = some o ∧ ObR K mg F H' c o ∧ ((s = .own c ∧ ∃ c0, δ[n]? = some (.own c0)) ∨ ∃ k, s = .io k c ∧ ∃ c0, δ[n]? = some (.io k c0))
  | i :: is, ps, cs, δ, n, s, hp, nd, hi, hn, hs => by
    obtain ⟨p, r, c0, e, e1, e2, h'⟩ := hp
    subst e
    cases cs with
    | nil => simp only [IosR] at hi
    | cons c cs =>
    simp only [IosR] at hi
    simp only [putIos] at hs
    obtain ⟨ni, nd'⟩ := List.nodup_cons.mp nd
    have hset : ∀ {j : Nat} {d : Ob}, j ≠ i → obAt (setOb δ i c) j = obAt δ j := fun {j d} hj => by unfold obAt; rw [setOb_ne (Ne.symm hj)]
    have atp : ∀ {is' : List Nat} {ps' : List Addr}, i ∉ is' → AtP δ σ is' ps' → AtP (setOb δ i c) σ is' ps' := by
      intro is'
      induction is' with
      | nil => intro ps' _ h; exact h
      | cons j js ih =>
        intro ps' hj h
        obtain ⟨q, r', c', f1, f2, f3, f4⟩ := h
        exact ⟨q, r', c', f1, f2, by rw [hset (d := c') fun z => hj (z ▸ List.mem_cons_self)]; exact f3, ih (fun z => hj (List.mem_cons_of_mem _ z)) f4⟩
    by_cases z : n = i
    · subst z
      rw [putIos_out ni] at hs
      obtain ⟨o, ho, ro⟩ := hi.1
      refine ⟨p, c, o, e1, ho, ro, ?_⟩
      unfold setOb at hs
      unfold obAt at e2
      cases es : δ[n]? with
      | none => rw [es] at e2; cases e2
      | some s0 =>
        have hl : n < δ.length := (List.getElem?_eq_some_iff.mp es).1
        rw [es] at hs e2
        cases s0 with
        | no => cases e2
        | val _ => cases e2
        | exn _ _ _ _ _ => cases e2
        | own c1 => simp only [List.getElem?_set_self hl] at hs; cases hs; exact .inl ⟨rfl, c1, rfl⟩
        | io k c1 => simp only [List.getElem?_set_self hl] at hs; cases hs; exact .inr ⟨k, rfl, c1, rfl⟩
    · have hn' : n ∈ is := (List.mem_cons.mp hn).resolve_left z
      obtain ⟨q, c', o, f1, f2, f3, f4⟩ := ios_slot (atp ni h') nd' hi.2 hn' hs
      refine ⟨q, c', o, f1, f2, f3, ?_⟩
      rcases f4 with ⟨g1, c1, g2⟩ | ⟨k, g1, c1, g2⟩
      · rw [setOb_ne (Ne.symm z)] at g2; exact .inl ⟨g1, c1, g2⟩
      · rw [setOb_ne (Ne.symm z)] at g2; exact .inr ⟨k, g1, c1, g2⟩
/-- behind a call -/
theorem Rel.called (R : Rel K mg F bs H0 δ σ H) {is : List Nat} {ps : List Addr} {cs : List Ob} (nd : is.Nodup) (hp : AtP δ σ is ps) (w : Was ps (AA F δ σ) H H') (hi : IosR K mg (AA F δ σ) H' cs ps) :
    Rel K mg F bs H0 (putIos δ is cs) σ H' ∧ Keep bs δ σ H (putIos δ is cs) σ H' ∧ Mv (AA F δ σ) H' (AA F (putIos δ is cs) σ) H' := by
  have ap : ∀ {p : Addr}, p ∈ ps → AA F δ σ p ∧ MM bs δ σ p := fun {p} hm => by
    obtain ⟨i, c, _, e1, e2⟩ := hp.mem hm
    obtain ⟨q, o, f1, _, _, f2, f3⟩ := R.obj e2
    rw [e1] at f1; cases f1
    exact ⟨f2, f3⟩
  have aa : ∀ {a : Addr}, AA F (putIos δ is cs) σ a ↔ AA F δ σ a := fun {a} => ⟨fun z => z.elim .inl fun y => .inr (putIos_own.mp y), fun z => z.elim .inl fun y => .inr (putIos_own.mpr y)⟩
  have m2 : Mv (AA F δ σ) H' (AA F (putIos δ is cs) σ) H' := fun a o n e => ⟨fun z => n (aa.mp z), e⟩
  have km : Keep bs δ σ H (putIos δ is cs) σ H' := fun a u n e => ⟨fun z => n (z.elim .inl fun y => .inr (putIos_own.mp y)), w.1 a u (fun z => n (ap z).2) e⟩
  have m := R.mv km
  refine ⟨⟨by rw [putIos_len]; exact R.len, fun j s es => ?_, fun j k c d a e1 e2 e3 e4 => ?_, fun a u n e => ?_, fun a f => w.2 a (.inl f), R.bsF, fun j k n c d e1 e2 => ?_, R.nd⟩, km, m2⟩
  · by_cases hj : j ∈ is
    · obtain ⟨p, c, o, f1, f2, f3, f4⟩ := ios_slot hp nd hi hj es
      rcases f4 with ⟨g1, c0, g2⟩ | ⟨k, g1, c0, g2⟩
      · subst g1
        obtain ⟨p1, o1, h1, _, _, nF, z0⟩ := R.slot j _ g2
        rw [f1] at h1; cases h1
        exact ⟨p, o, f1, f2, f3.mv m2, nF, z0⟩
      · subst g1
        obtain ⟨p1, o1, h0, h1, _⟩ := R.slot j _ g2
        rw [f1] at h1; cases h1
        exact ⟨p, o, h0, f1, f2, f3.mv m2⟩
    · rw [putIos_out hj] at es
      have q := R.slot j s es
      have out : ∀ {c : Ob} {p : Addr}, obAt δ j = some c → σ[j]? = some (some (.ref p)) → p ∉ ps := fun {c p} h1 h2 hm => by
        obtain ⟨i, c', hi', e1, e2⟩ := hp.mem hm
        exact R.apart2 e2 h1 (fun z => hj (z ▸ hi')) e1 h2
      cases s with
      | no => trivial
      | val d => obtain ⟨v, e, rr⟩ := q; exact ⟨v, e, rr.mv m⟩
      | exn _ _ _ _ _ => exact exn_mv m q
      | own c0 =>
        obtain ⟨p1, o1, f1, f2, rr, nF, nz⟩ := q
        exact ⟨p1, o1, f1, w.1 _ _ (out (by unfold obAt; rw [es]) f1) f2, rr.mv m, nF, nz⟩
      | io k0 c0 =>
        obtain ⟨p1, o1, f0, f1, f2, rr⟩ := q
        exact ⟨p1, o1, f0, f1, w.1 _ _ (out (by unfold obAt; rw [es]) f1) f2, rr.mv m⟩
  · obtain ⟨c2, g1⟩ := putIos_own1 e1
    obtain ⟨c3, g2⟩ := putIos_own1 e2
    exact R.apart j k _ _ a g1 g2 e3 e4
  · have e' := R.ext a u n e
    refine w.1 a u (fun hm => ?_) e'
    rcases (ap hm).2 with y | ⟨j, d, f1, f2⟩
    · exact n y
    · obtain ⟨q, oq, g1, g2, _, _, nz⟩ := R.slot j _ f1
      rw [f2] at g1; cases g1
      rw [nz] at e; cases e
  · obtain ⟨c2, g1⟩ := putIos_io1 e1
    obtain ⟨c3, g2⟩ := putIos_io1 e2
    exact R.ioa j k n _ _ g1 g2
/-- the arguments as the callee has them -/
theorem AgsR.ars (R : Rel K mg F bs H0 δ σ H) : ∀ {as : List Ag} {xs : List V} {ars : List Ar}, AgsR K mg F δ σ H as xs → arOf δ as = some ars → ∃ ps, ArsR K mg (AA F δ σ) H ars xs ps ∧ AtP δ σ (ixs as) ps
  | [], xs, ars, h, e => by
    cases e
    obtain rfl : xs = [] := h
    exact ⟨[], trivial, rfl⟩
  | .v d :: r, xs, ars, h, e => by
    obtain ⟨x, y, e1, h1, h2⟩ := h
    subst e1
    simp only [arOf] at e
    cases e2 : arOf δ r with
    | none => rw [e2] at e; cases e
    | some l =>
      rw [e2] at e
      cases e
      obtain ⟨ps, a1, a2⟩ := AgsR.ars R h2 e2
      exact ⟨ps, ⟨h1, a1⟩, a2⟩
  | .s i :: r, xs, ars, h, e => by
    obtain ⟨x, y, e1, h1, h2⟩ := h
    subst e1
    simp only [arOf] at e
    cases e3 : obAt δ i with
    | none => simp only [e3] at e; cases e
    | some c =>
      cases e2 : arOf δ r with
      | none => simp only [e2, e3] at e; cases e
      | some l =>
        simp only [e2, e3] at e
        cases e
        obtain ⟨ps, a1, a2⟩ := AgsR.ars R h2 e2
        obtain ⟨p, o, f1, f2, f3, _⟩ := R.obj e3
        have h1' : σ[i]? = some (some x) := h1
        rw [h1'] at f1; cases f1
        exact ⟨p :: ps, ⟨rfl, ⟨o, f2, f3⟩, a1⟩, p, ps, c, rfl, h1', e3, a2⟩
theorem AtP.nodup (R : Rel K mg F bs H0 δ σ H) : ∀ {is : List Nat} {ps : List Addr}, AtP δ σ is ps → is.Nodup → ps.Nodup
  | [], ps, h, _ => by obtain rfl : ps = [] := h; exact List.nodup_nil
  | i :: is, ps, h, nd => by
    obtain ⟨p, r, c, e, e1, e2, h'⟩ := h
    subst e
    obtain ⟨ni, nd'⟩ := List.nodup_cons.mp nd
    refine List.nodup_cons.mpr ⟨fun z => ?_, AtP.nodup R h' nd'⟩
    obtain ⟨j, c', hj, e3, e4⟩ := h'.mem z
    exact R.apart2 e2 e4 (fun z => ni (z ▸ hj)) e1 e3
end

section
variable {X : Cx} {W : WX} {K : PySem.W.Frag} {mg : Str → Option Value} {pos : Pos} {σ : St} {H : Hp}
theorem rd_call {g : FD} {fa : SA} {Q : VK} (h : rdE K mg W (eCall g fa) σ H Q) : tCallS (spD K mg g) (WE W) (rdA K mg W fa) σ H Q := by
  obtain ⟨F, bs, H0, δ, R, h⟩ := h
  refine ⟨F, bs, H0, δ, R, Post.imp (Post.first h) fun xs H1 ⟨δ1, as, R1, k1, p, h1⟩ => ?_⟩
  cases ea : arOf δ1 as with
  | none => simp only [ea] at h1; exact h1.elim
  | some ars =>
    simp only [ea] at h1
    by_cases z : nodupB (ixs as) = true
    · rw [if_pos z] at h1
      have nd := nodupB_ok z
      obtain ⟨ps, a1, a2⟩ := AgsR.ars R1 p ea
      refine ⟨AA F δ1 σ, ps, ars, a1, a2.nodup R1 nd, fun b hb => ?_, fun a ha => ha.elim (R1.live a) fun y => R1.own_live y, ?_⟩
      · obtain ⟨i, c, _, e1, e2⟩ := a2.mem hb
        obtain ⟨q, o, f1, _, _, f2, _⟩ := R1.obj e2
        rw [e1] at f1; cases f1; exact f2
      · cases eg : g ars with
        | bad => rw [eg] at h1; exact h1.elim
        | ret d ios =>
          rw [eg] at h1
          intro v H' w hi r
          obtain ⟨R2, k2, m2⟩ := R1.called nd a2 w hi
          exact h1 v H' R2 k2 (Rep.mv m2 _ _ r)
        | new c ios =>
          rw [eg] at h1
          intro q o H' hq w hi r
          obtain ⟨R2, k2, m2⟩ := R1.called nd a2 w hi
          have r2 := r.mv m2
          cases c with
          | lst l =>
            obtain ⟨xs, e, r⟩ := r2
            rw [e]
            obtain ⟨R3, k3, r3⟩ := R2.lst r hq
            exact h1 _ _ R3 (k2.trans k3) r3
          | dk ks vs =>
            obtain ⟨xs, e, z, r⟩ := r2
            have m := R2.mv (keep_new (o := o) hq)
            refine h1 _ _ (R2.new hq) (k2.trans (keep_new hq)) ?_
            simp only [AgR, Rep]
            exact ⟨q, xs, rfl, R2.fresh hq, by rw [e]; exact .inl upd_same, z, r.mv m⟩
          | dt _ _ => exact h1.elim
        | exc c ns vs ios =>
          rw [eg] at h1
          intro C dx xs H' hc hx hn w hi nf r
          obtain ⟨R2, k2, m2⟩ := R1.called nd a2 w hi
          exact h1 C dx xs H' hc hx hn R2 k2 (m2 dx _ nf hx).1 (r.mv m2)
    · rw [if_neg z] at h1; exact h1.elim
theorem rd_ncall {g : FD} {fa : SA} {Q : VK} (h : rdN K mg W (nCall g fa) σ H Q) : tCallS (spD K mg g) (WE W) (rdA K mg W fa) σ H Q := by
  obtain ⟨F, bs, H0, δ, R, h⟩ := h
  refine ⟨F, bs, H0, δ, R, Post.imp (Post.first h) fun xs H1 ⟨δ1, as, R1, k1, p, h1⟩ => ?_⟩
  cases ea : arOf δ1 as with
  | none => simp only [ea] at h1; exact h1.elim
  | some ars =>
    simp only [ea] at h1
    by_cases z : nodupB (ixs as) = true
    · rw [if_pos z] at h1
      have nd := nodupB_ok z
      obtain ⟨ps, a1, a2⟩ := AgsR.ars R1 p ea
      refine ⟨AA F δ1 σ, ps, ars, a1, a2.nodup R1 nd, fun b hb => ?_, fun a ha => ha.elim (R1.live a) fun y => R1.own_live y, ?_⟩
      · obtain ⟨i, c, _, e1, e2⟩ := a2.mem hb
        obtain ⟨q, o, f1, _, _, f2, _⟩ := R1.obj e2
        rw [e1] at f1; cases f1; exact f2
      · cases eg : g ars with
        | bad => rw [eg] at h1; exact h1.elim
        | ret d ios => rw [eg] at h1; exact h1.elim
        | new c ios =>
          rw [eg] at h1
          intro q o H' hq w hi r
          obtain ⟨R2, k2, m2⟩ := R1.called nd a2 w hi
          exact h1 (q, o) H' R2 k2 ⟨hq, r.mv m2⟩
        | exc c ns vs ios =>
          rw [eg] at h1
          intro C dx xs H' hc hx hn w hi nf r
          obtain ⟨R2, k2, m2⟩ := R1.called nd a2 w hi
          exact h1 C dx xs H' hc hx hn R2 k2 (m2 dx _ nf hx).1 (r.mv m2)
    · rw [if_neg z] at h1; exact h1.elim
variable {k : Nat} {f : Addr} {fd : FuncData} {ps : List Str} {x : Str} {p : Pos} {e : Expr} {es : List Expr} {g : FD} {fa : SA}
theorem de_call (F : FnOk X.prog X.w X.K X.mg X.base (L2N.CX X.prog X.w) k f fd ps (spD X.K X.mg g)) (tk : L2N.Takes X W) (hr : Room k X.A) (hg : Gl X x) (hm : X.mg x = some (.ref f)) (hk : PySem.W.keepIn X.K (.ref f) = true) (hb : Binds X.K fd ps [])
    (ha : DA X W (e :: es) fa) (hdb : (x == ("__debug__" : Str)) = false := by decide) (he : starEach (e :: es) X.env = (false, eval e X.env) :: starEach es X.env := by rfl) (hpl : (backTo pos (starEach es X.env)).any (·.1) = false := by rfl) :
    DE X W (.Call (.Name x p) (e :: es) [] pos) (eCall g fa) := (pe_callS F hr hg hm hk hb (L2N.passAt tk) ha hdb he hpl).imp fun _ _ _ => rd_call
theorem dn_call (F : FnOk X.prog X.w X.K X.mg X.base (L2N.CX X.prog X.w) k f fd ps (spD X.K X.mg g)) (tk : L2N.Takes X W) (hr : Room k X.A) (hg : Gl X x) (hm : X.mg x = some (.ref f)) (hk : PySem.W.keepIn X.K (.ref f) = true) (hb : Binds X.K fd ps [])
    (ha : DA X W (e :: es) fa) (hdb : (x == ("__debug__" : Str)) = false := by decide) (he : starEach (e :: es) X.env = (false, eval e X.env) :: starEach es X.env := by rfl) (hpl : (backTo pos (starEach es X.env)).any (·.1) = false := by rfl) :
    DN X W (.Call (.Name x p) (e :: es) [] pos) (nCall g fa) := (pe_callS F hr hg hm hk hb (L2N.passAt tk) ha hdb he hpl).imp fun _ _ _ => rd_ncall
end
end DL
set_option Elab.async false
set_option linter.all false
set_option maxRecDepth 100000
set_option maxHeartbeats 4000000
/-! DL: raise of own classes, try. -/
namespace DL
open PySem PySem.Spec L2
open PyProof.Rows hiding St

/-- C(e, ..): the new exception's context is None -/
theorem pmk_oexN {X : Cx} {CXx : CXT} {cn : Str} {C fI : Addr} {kk : Nat} {fd : FuncData} {qs : List Str} {sp : Sp} {e1 : Expr} {er : List Expr} {ta : TA} {np cp : Pos} (T : OexC X.K C) (iC : PySem.W.findIn X.K (.ref C) "__init__" = some (some (.ref fI)))
    (tI : PySem.W.typeIn X.K (.ref fI) = some (.type "function")) (Fi : FnOk X.prog X.w X.K X.mg X.base CXx kk fI fd qs sp) (hr : Room (kk + 1) X.A) (hb : Binds X.K fd qs []) (hx : Passes CXx X (fun _ _ _ => False)) (hg : Gl X cn) (hm : X.mg cn = some (.ref C))
    (ha : PA X (e1 :: er) ta) (hdb : (cn == ("__debug__" : Str)) = false := by decide) (he : starEach (e1 :: er) X.env = (false, eval e1 X.env) :: starEach er X.env := by rfl) (hpl : (backTo cp (starEach er X.env)).any (·.1) = false := by rfl) :
    L2N.PMk X (.Call (.Name cn np) (e1 :: er) [] cp) (tMkO C sp [] ta) := by
  intro pp s0 σ0 H0 QQ I0 h0
  obtain ⟨t1, t2, t3, t4, mm, t6, t7, t8, t9, t10, t11, t12, t13, t14, t15, lC, vC⟩ := T.cls
  refine wpAny_Call_Name_kw (ld_glob I0 hg hm ?_ hdb)
  refine PySem.W.callWith_K (h₀ := X.base) I0.ok.mod.kin T.kC (thn (ha.run cp pp s0 σ0 H0 _ I0 h0) fun us sA ⟨vs, HA, IA, rA, zA, qA⟩ => ⟨IA.kIn, ?_⟩) he hpl
  obtain ⟨hA, gA, dA, kA, oA⟩ := sA
  have le1 : hA.objs.size ≤ hA.objs.size + 1 := by omega
  have nA : HA (hA.objs.size + 1) = none := IA.hok.fresh le1
  have wA := qA (hA.objs.size + 1) nA
  rw [List.append_nil] at wA
  have keepA : ∀ b o, hA.get? b = some o → ((hA.push (PySem.W.kdv_tup us)).push (PySem.HandSPX.excO C hA.objs.size)).get? b = some o :=
    fun b o eb => Heap.get?_push_of_some _ (Heap.get?_push_of_some _ eb)
  have newA : ((hA.push (PySem.W.kdv_tup us)).push (PySem.HandSPX.excO C hA.objs.size)).get? (hA.objs.size + 1) = some (PySem.HandSPX.excO C hA.objs.size) := by heap_get
  have IB : Inv X pp σ0 (upd HA (hA.objs.size + 1) (exo (hA.objs.size + 1) C none)) ⟨(hA.push (PySem.W.kdv_tup us)).push (PySem.HandSPX.excO C hA.objs.size), gA, dA, kA, oA⟩ :=
    IA.laid (t' := kA) (o := exo (hA.objs.size + 1) C none) keepA le1 (exo_ok newA)
  have rB : Vals (V.ref (hA.objs.size + 1) :: vs) (Value.ref (hA.objs.size + 1) :: us) := .cons rfl rA
  have lB : (Value.ref (hA.objs.size + 1) :: us ++ []).length = qs.length := by
    rw [List.append_nil, ← rB.length, Fi.len _ _ _ _ wA]
  have zus : us.length ≤ sizeLine := by have z1 := Paired.length rA; rw [sizeLine_eq]; omega
  have bB := hb _ (Value.ref (hA.objs.size + 1) :: us) IB.kIn lB
  rw [List.append_nil] at bB
  refine wpAny_call (PySem.HandSPX.call_own F.excBase_ValueError (fun Y => PySem.HandSPX.refsVE_contains Y mm vC) (IA.kIn _ _ lC) (PySem.W.looks_findIn IA.kIn iC) (fun self => PySem.W.bind_fn IA.kIn self tI) zus (codeAny_mono (Fi.run _ X.stack _ _ ⟨Value.ref (hA.objs.size + 1) :: us, []⟩
    (Value.ref (hA.objs.size + 1) :: us) _ _ (fun _ _ _ => False) (hr.make C us []) (IB.env0.make C us []) bB rB wA) fun r sZ hZ => ?_))
  cases r with
  | error er' => exact hx pp σ0 _ _ er' sZ IB hZ
  | ok fl =>
    cases fl with
    | next => exact hZ.elim
    | brk => exact hZ.elim
    | cont => exact hZ.elim
    | ret u =>
      obtain ⟨vZ, HZ, osZ, bareZ, unZ, hokZ, rvZ, evZ, dd, fs, eaZ, edZ, hdZ, qZ⟩ := hZ
      subst evZ
      obtain ⟨hZ, gZ, dZ, kZ, oZ⟩ := sZ
      obtain ⟨tt, GG, JJ, kG, gG, hG, nG⟩ := mk_end0 (d2 := dZ) (t2 := kZ) IA le1 keepA unZ hokZ osZ bareZ eaZ edZ hdZ
      refine ⟨rvZ, _, _, _, ⟨GG, gZ, dZ, kZ, oZ⟩, _, .ref C, some dd, rfl, JJ, kG, gG, hG, ⟨rfl, rfl, fun xs ex => ?_⟩, rfl, rfl, nG, rfl, bareZ, raises_own T.exC T.tyC, qZ⟩
      cases ex
      rfl
theorem takes0 {X : Cx} : L2N.Takes X (fun _ _ _ _ => False) := fun _ _ x => by
  obtain ⟨_, _, _, _, _, _, _, _, _, _, _, _, _, _, _, _, z⟩ := x
  exact z.elim
/-! ### making -/
def spI1 (C : Addr) (f : Str) : Sp := fun vs H Q _ => ∃ a y, vs = [.ref a, y] ∧ H a = some (exo a C none) ∧ ∀ d, H d = none → d ≠ a → Q .non (upd (upd H d (exd d [(f, y)])) a (exo a C (some d)))
def spI2 (C : Addr) (f g : Str) : Sp := fun vs H Q _ => ∃ a y z, vs = [.ref a, y, z] ∧ H a = some (exo a C none) ∧ ∀ d, H d = none → d ≠ a → Q .non (upd (upd (upd H d (exd d [(f, y)])) a (exo a C (some d))) d (exd d [(g, z), (f, y)]))
section
variable {P : Program} {w : World} {K : PySem.W.Frag} {mg : Str → Option Value} {base : Heap}
theorem ok_init1 {qual x : Str} {st : Stmt} {fI C : Addr} {fd : FuncData} {s y f : Str} {k : Nat} {p1 p2 p3 p4 : Pos} (F : Fun K x qual st fI fd) (S : FnScope [s, y] [s, y] (defScope st)) (hb : defBody st = [.Assign [.Attribute (.Name s p1) f p2] (.Name y p3) p4])
    (T : OexC K C) (no : PySem.W.findIn K (.ref C) f = some none) (v0 : (defScope st).names.lookup s = some .local) (v1 : (defScope st).names.lookup y = some .local) (d0 : (s == ("__debug__" : Str)) = false) (d1 : (y == ("__debug__" : Str)) = false) (c0 : (s == ("__classdict__" : Str)) = false) (c1 : (y == ("__classdict__" : Str)) = false) :
    FnOk P w K mg base (L2N.CX P w) (k + 1) fI fd [s, y] (spI1 C f) := by
  obtain ⟨oc, od, kV, doc, pm, an, cdv, ct, osl, rfl, lk, hcd⟩ := F.ex
  refine fn_of lk hcd S (fun vs H Q E ⟨a, y, e, _⟩ => by rw [e]; rfl) fun A outer s' H vs Q E hr h => ⟨tOst K f (tVar 0) (tVar 1), ?_, ?_⟩
  · rw [hb]
    exact pss_one (ps_ost (pv 0 rfl (.inl v0) d0 c0) (pv 1 rfl (.inl v1) d1 c1))
  · obtain ⟨a, y, rfl, e, q⟩ := h
    exact ⟨_, rfl, _, rfl, a, C, rfl, T, no, .inl ⟨e, q⟩⟩
theorem ok_init2 {qual x : Str} {st : Stmt} {fI C : Addr} {fd : FuncData} {s y z f g : Str} {k : Nat} {p1 p2 p3 p4 q1 q2 q3 q4 : Pos} (F : Fun K x qual st fI fd) (S : FnScope [s, y, z] [s, y, z] (defScope st))
    (hb : defBody st = [.Assign [.Attribute (.Name s p1) f p2] (.Name y p3) p4, .Assign [.Attribute (.Name s q1) g q2] (.Name z q3) q4])
    (T : OexC K C) (no : PySem.W.findIn K (.ref C) f = some none) (no2 : PySem.W.findIn K (.ref C) g = some none) (v0 : (defScope st).names.lookup s = some .local) (v1 : (defScope st).names.lookup y = some .local) (v2 : (defScope st).names.lookup z = some .local)
    (d0 : (s == ("__debug__" : Str)) = false) (d1 : (y == ("__debug__" : Str)) = false) (d2 : (z == ("__debug__" : Str)) = false) (c0 : (s == ("__classdict__" : Str)) = false) (c1 : (y == ("__classdict__" : Str)) = false) (c2 : (z == ("__classdict__" : Str)) = false) :
    FnOk P w K mg base (L2N.CX P w) (k + 1) fI fd [s, y, z] (spI2 C f g) := by
  obtain ⟨oc, od, kV, doc, pm, an, cdv, ct, osl, rfl, lk, hcd⟩ := F.ex
  refine fn_of lk hcd S (fun vs H Q E ⟨a, y, z, e, _⟩ => by rw [e]; rfl) fun A outer s' H vs Q E hr h => ⟨tSeq (tOst K f (tVar 0) (tVar 1)) (tOst K g (tVar 0) (tVar 2)), ?_, ?_⟩
  · rw [hb]
    exact pss_cons (ps_ost (pv 0 rfl (.inl v0) d0 c0) (pv 1 rfl (.inl v1) d1 c1)) (pss_one (ps_ost (pv 0 rfl (.inl v0) d0 c0) (pv 2 rfl (.inl v2) d2 c2)))
  · obtain ⟨a, y, z, rfl, e, q⟩ := h
    refine ⟨_, rfl, _, rfl, a, C, rfl, T, no, .inl ⟨e, fun d hd hne => ?_⟩⟩
    refine ⟨_, rfl, _, rfl, a, C, rfl, T, no2, .inr ⟨d, [(f, y)], upd_same, ?_, by simp, q d hd hne⟩⟩
    rw [upd_ne hne, upd_same]
end

/-- raise C(..): ns the fields in the order in which the dict has them (the last one stored first) -/
def sRaise (c : Str) (ns : List Str) (fa : SA) : SS := fun δ => (fa δ).bindS fun as δ1 => match datas as with
  | some ds => if ds.length = ns.length then .exc c ns ds.reverse δ1 else .bad
  | none => .bad
section
variable {X : Cx} {W : WX} {K : PySem.W.Frag} {mg : Str → Option Value} {F : AP} {bs : List Addr} {H0 H : Hp} {δ : List Sl} {σ : St}
theorem len2 {α : Type} {l : List α} (h : l.length = 2) : ∃ a b, l = [a, b] := by
  cases l with
  | nil => cases h
  | cons a r =>
    cases r with
    | nil => cases h
    | cons b r2 =>
      cases r2 with
      | nil => exact ⟨a, b, rfl⟩
      | cons _ _ => simp at h
theorem end_made {c : Str} {C d : Addr} {ns : List Str} {vs : List D} {xs : List V} {δ0 : List Sl} {Hb : Hp} {σ0 : St} (R : Rel K mg F bs H0 δ σ H) (gC : mg c = some (.ref C)) (hd : H d = none) (hn : ns.length = vs.length) (r : RepL K mg (AA F δ σ) H vs xs)
    (p : PX K mg W F bs H0 δ0 σ0 Hb c ns vs δ σ) (k : Keep bs δ0 σ0 Hb δ σ H) : W (.ref C) (some d) σ (upd H d (.xd (ns.zip xs))) :=
  p C d xs _ gC upd_same hn (R.new hd) (k.trans (keep_new hd)) (R.fresh hd) (RepL.mv (R.mv (keep_new hd)) _ _ r)
theorem rd_raise1 {c f : Str} {C : Addr} {fa : SA} {E : Ends} (gC : mg c = some (.ref C)) (h : rdS K mg W (sRaise c [f] fa) E σ H) : tMkO C (spI1 C f) [] (rdA K mg W fa) σ H fun cls d H' => W cls d σ H' := by
  obtain ⟨F, bs, H0, δ, R, h⟩ := h
  refine ⟨F, bs, H0, δ, R, Post.imp (PostS.first h) fun xs H1 ⟨δ1, as, R1, k1, p, h1⟩ => ?_⟩
  cases ed : datas as with
  | none => simp only [ed] at h1; exact h1.elim
  | some ds =>
    simp only [ed] at h1
    have r := p.datas ed
    by_cases z : ds.length = [f].length
    · rw [if_pos z] at h1
      obtain ⟨v, eds⟩ := List.length_eq_one_iff.mp (show ds.length = 1 from z)
      subst eds
      · 
        simp only [RepL] at r
        obtain ⟨x, r', ex, r1, er⟩ := r
        subst er ex
        refine ⟨by simp, fun a ha => ⟨a, x, rfl, upd_same, fun d hd hne => ⟨rfl, d, [(f, x)], upd_same, ?_, ?_, ?_⟩⟩⟩
        · rw [upd_ne hne, upd_same]
        · rw [upd_ne hne] at hd; exact hd
        · have hd1 : H1 d = none := by rw [upd_ne hne] at hd; exact hd
          have e : upd (del (upd (upd (upd H1 a (exo a C none)) d (exd d [(f, x)])) a (exo a C (some d))) a) d (.xd [(f, x)]) = upd H1 d (.xd [(f, x)]) := by
            funext b
            by_cases h1 : b = d
            · rw [h1, upd_same, upd_same]
            · rw [upd_ne h1, upd_ne h1]
              by_cases h2 : b = a
              · rw [h2, del_same, ha]
              · rw [del_ne h2, upd_ne h2, upd_ne h1, upd_ne h2]
          rw [e]
          exact end_made (ns := [f]) R1 gC hd1 rfl (RepL.cons r1 RepL.nil) (h1 σ) .refl
    · rw [if_neg z] at h1; exact h1.elim
theorem rd_raise2 {c f g : Str} {C : Addr} {fa : SA} {E : Ends} (gC : mg c = some (.ref C)) (h : rdS K mg W (sRaise c [g, f] fa) E σ H) : tMkO C (spI2 C f g) [] (rdA K mg W fa) σ H fun cls d H' => W cls d σ H' := by
  obtain ⟨F, bs, H0, δ, R, h⟩ := h
  refine ⟨F, bs, H0, δ, R, Post.imp (PostS.first h) fun xs H1 ⟨δ1, as, R1, k1, p, h1⟩ => ?_⟩
  cases ed : datas as with
  | none => simp only [ed] at h1; exact h1.elim
  | some ds =>
    simp only [ed] at h1
    have r := p.datas ed
    by_cases z : ds.length = [g, f].length
    · rw [if_pos z] at h1
      obtain ⟨v, u, eds⟩ := len2 (show ds.length = 2 from z)
      subst eds
      · 
        simp only [RepL] at r
        obtain ⟨x, r', ex, r1, y, r'', ey, r2, er⟩ := r
        subst er ey ex
        refine ⟨by simp, fun a ha => ⟨a, x, y, rfl, upd_same, fun d hd hne => ?_⟩⟩
        have hd1 : H1 d = none := by rw [upd_ne hne] at hd; exact hd
        have e : upd (del (upd (upd (upd (upd H1 a (exo a C none)) d (exd d [(f, x)])) a (exo a C (some d))) d (exd d [(g, y), (f, x)])) a) d (.xd [(g, y), (f, x)]) = upd H1 d (.xd [(g, y), (f, x)]) := by
          funext b
          by_cases h1 : b = d
          · rw [h1, upd_same, upd_same]
          · rw [upd_ne h1, upd_ne h1]
            by_cases h2 : b = a
            · rw [h2, del_same, ha]
            · rw [del_ne h2, upd_ne h1, upd_ne h2, upd_ne h1, upd_ne h2]
        have q := end_made (ns := [g, f]) R1 gC hd1 rfl (RepL.cons r2 (RepL.cons r1 RepL.nil)) (h1 σ) .refl
        have e2 : upd (upd (upd (upd H1 a (exo a C none)) d (exd d [(f, x)])) a (exo a C (some d))) d (exd d [(g, y), (f, x)]) a = some (exo a C (some d)) := by rw [upd_ne (Ne.symm hne), upd_same]
        refine ⟨rfl, d, [(g, y), (f, x)], e2, upd_same, hd1, ?_⟩
        rw [e]
        exact q
    · rw [if_neg z] at h1; exact h1.elim
variable {c f g : Str} {C fI : Addr} {fd : FuncData} {k : Nat} {a b : Expr} {fa : SA} {p pos pos2 : Pos}
/-- a class of exceptions: where it stands, its fields -/
structure ExT (X : Cx) (c : Str) (C : Addr) (fI : Addr) : Prop where
  gC : X.mg c = some (.ref C)
  ox : OexC X.K C
  iC : PySem.W.findIn X.K (.ref C) "__init__" = some (some (.ref fI))
  tI : PySem.W.typeIn X.K (.ref fI) = some (.type "function")
theorem ds_raise1 {s y : Str} (hc : X.calm = true) (tk : L2N.Takes X W) (T : ExT X c C fI) (F1 : FnOk X.prog X.w X.K X.mg X.base (L2N.CX X.prog X.w) k fI fd [s, y] (spI1 C f)) (hr : Room (k + 1) X.A) (hb : Binds X.K fd [s, y] []) (hg : Gl X c) (ha : DA X W [a] fa)
    (hdb : (c == ("__debug__" : Str)) = false := by decide) (he : starEach [a] X.env = (false, eval a X.env) :: starEach [] X.env := by rfl) (hpl : (backTo pos (starEach [] X.env)).any (·.1) = false := by rfl) :
    DS X W (.Raise (some (.Call (.Name c p) [a] [] pos)) none pos2) (sRaise c [f] fa) :=
  (L2N.ps_raise hc tk (pmk_oexN T.ox T.iC T.tI F1 hr hb (fun _ _ _ _ _ _ _ x => by obtain ⟨_, _, _, _, _, _, _, _, _, _, _, _, z⟩ := x; exact z.elim) hg T.gC ha hdb he hpl)).imp fun _ _ _ => rd_raise1 T.gC
theorem ds_raise2 {s y z : Str} (hc : X.calm = true) (tk : L2N.Takes X W) (T : ExT X c C fI) (F1 : FnOk X.prog X.w X.K X.mg X.base (L2N.CX X.prog X.w) k fI fd [s, y, z] (spI2 C f g)) (hr : Room (k + 1) X.A) (hb : Binds X.K fd [s, y, z] []) (hg : Gl X c) (ha : DA X W [a, b] fa)
    (hdb : (c == ("__debug__" : Str)) = false := by decide) (he : starEach [a, b] X.env = (false, eval a X.env) :: starEach [b] X.env := by rfl) (hpl : (backTo pos (starEach [b] X.env)).any (·.1) = false := by rfl) :
    DS X W (.Raise (some (.Call (.Name c p) [a, b] [] pos)) none pos2) (sRaise c [g, f] fa) :=
  (L2N.ps_raise hc tk (pmk_oexN T.ox T.iC T.tI F1 hr hb (fun _ _ _ _ _ _ _ x => by obtain ⟨_, _, _, _, _, _, _, _, _, _, _, _, z⟩ := x; exact z.elim) hg T.gC ha hdb he hpl)).imp fun _ _ _ => rd_raise2 T.gC
end
end DL
set_option Elab.async false
set_option linter.all false
set_option maxRecDepth 100000
set_option maxHeartbeats 4000000
/-! DL: try. -/
namespace DL
open PySem PySem.Spec L2
open PyProof.Rows hiding St

def atEnd : Option Nat → Ends → Ends
  | none, D => D
  | some i, D => { nx := fun σ' H' => D.nx (σ'.set i none) H', rt := D.rt, bk := fun σ' H' => D.bk (σ'.set i none) H', ct := fun σ' H' => D.ct (σ'.set i none) H' }
def atIn : Option Nat → Addr → St → St
  | none, _, σ => σ
  | some i, a, σ => σ.set i (some (.ref a))
abbrev HdT := Value × Option Nat × (Addr → Value → Option Addr → TS)
/-- what the clauses wish of an exception of the body, one after the other -/
def wHds (K : PySem.W.Frag) (Wout : WX) (D : Ends) : List HdT → WX
  | [] => Wout
  | (c, j, ts) :: r => fun cls d σ H => ∃ b, PySem.W.exmOne K cls c = some b ∧ (b = true → ∀ a, H a = none → ts a cls d (atEnd j D) (atIn j a σ) H) ∧ (b = false → wHds K Wout D r cls d σ H)
inductive HdsA (X : Cx) : List ExceptHandler → List HdT → Prop
  | nil : HdsA X [] []
  | as {x n : Str} {i : Nat} {c : Value} {ts : Addr → Value → Option Addr → TS} {b₀ : Stmt} {suite : List Stmt} {np pos' : Pos} {hds : List ExceptHandler} {l : List HdT} (hc : Names X x c) (hi : X.N[i]? = some n) (hln : X.env.kindOf n = some .local)
      (hsu : ∀ (a : Addr) (oe : Obj) (cls : Value) (d : Option Addr) (pn : List (Addr × Obj)), L2N.Zn cls d oe → (∃ vs, oe.data = .fields vs) → L2H.HotC (X.suite a ((a, oe) :: pn)) → PSs (X.suite a ((a, oe) :: pn)) (b₀ :: suite) (ts a cls d)) (r : HdsA X hds l) :
      HdsA X (.ExceptHandler (some (.Name x np)) (some n) (b₀ :: suite) pos' :: hds) ((c, some i, ts) :: l)
  | no {x : Str} {c : Value} {ts : Addr → Value → Option Addr → TS} {b₀ : Stmt} {suite : List Stmt} {np pos' : Pos} {hds : List ExceptHandler} {l : List HdT} (hc : Names X x c)
      (hsu : ∀ (a : Addr) (oe : Obj) (cls : Value) (d : Option Addr) (pn : List (Addr × Obj)), L2N.Zn cls d oe → (∃ vs, oe.data = .fields vs) → L2H.HotC (X.suite a ((a, oe) :: pn)) → PSs (X.suite a ((a, oe) :: pn)) (b₀ :: suite) (ts a cls d)) (r : HdsA X hds l) :
      HdsA X (.ExceptHandler (some (.Name x np)) none (b₀ :: suite) pos' :: hds) ((c, none, ts) :: l)
section
variable {X : Cx} {body : List Stmt} {h₀ : ExceptHandler} {hds : List ExceptHandler} {l : List HdT} {pos : Pos} {tb : WX → TS} {Wout : WX}
theorem ps_tryA (hs : X.stack = X.env :: X.outer) (hf : X.env.frame = some X.env.locals) (hN : X.N.Nodup) (tk : L2N.Takes X Wout)
    (hb : ∀ (W : WX) (pn : List (Addr × Obj)) (xe : Value → Shared → Prop), L2N.Takes (X.tr pn xe) W → PassesOwn (model X.prog X.w) X.A X.env xe → PSs (X.tr pn xe) body (tb W))
    (hh : HdsA X (h₀ :: hds) l) : PS X (.Try body (h₀ :: hds) [] [] pos) (fun D σ H => tb (wHds X.K Wout D l) D σ H) := by
  refine ⟨fun pins s σ H D I h => ?_⟩
  have ok := I.ok
  have hfr : X.A.frames = some (X.env :: X.outer) := by rw [ok.frames, hs]
  refine wpAny_Try_except ?_
  refine wpAny_mono ((hb (wHds X.K Wout D l) (X.pn ++ pins) (fun e s₁ => wpAny (model X.prog X.w) X.A (noteFrame e X.env) (fun _ s₂ => wpAny (model X.prog X.w) X.A (setFlight e none) (fun _ s₃ =>
    wpAny (model X.prog X.w) X.A (handleBy e X.env (h₀ :: hds)) (SP X pins D) X.xe s₃) X.xe s₂) X.xe s₁) (fun u s' xx => ?_) PassesOwn.looking).run [] s σ H D (I.toTry _) h) (fun f s1 hsp => ?_) (fun e s1 he => he)
  · obtain ⟨a, B, sI, pins', σ', H', cls, d, rfl, J', nb, up, sky, na, os, ag, w⟩ := xx
    have J : Inv X pins σ' H' sI := J'.ofTry ok
    have sky' : Sky B (X.env :: X.outer) a (L2N.Zn cls d) X.env.locals s'.heap := by rw [← hs]; exact sky
    show wpAny (model X.prog X.w) X.A (noteFrame (.ref a) X.env) _ _ _
    refine L2N.Sky.land L2N.Zn.steady hfr hf sky' fun h3 fl3 up3 => ?_
    have J3 : Inv X pins σ' H' { s' with heap := h3 } := J.landed nb fl3.1 (up.trans up3) os ag
    obtain ⟨oe3, vs3, he3, hz3, hd3⟩ := fl3.there
    have nfr : a ∉ frs (X.env :: X.outer) := fun hm => by
      obtain ⟨_, o', e', hnf⟩ := fl3.2.2.1.mem hm
      rw [he3] at e'; cases e'
      exact hnf _ hd3
    have nL : a ≠ X.env.locals := fun z => nfr (List.mem_filterMap.mpr ⟨X.env, List.mem_cons_self, by rw [hf, z]⟩)
    have nF : a ∉ X.fs := fun hm => by
      obtain ⟨e, he, q⟩ := List.mem_filterMap.mp hm
      exact nfr (List.mem_filterMap.mpr ⟨e, List.mem_cons_of_mem _ he, q⟩)
    have S3 := J3.suite he3 hd3 na nL nF
    have tst : ∀ {x : Str} {np : Pos} {c : Value}, Names X x c → ∀ {Q : Value → Shared → Prop} {E : Value → Shared → Prop}, Q c { s' with heap := h3 } → wpAny (model X.prog X.w) (X.A.mark (some (.ref a))) (eval (.Name x np) X.env) Q E { s' with heap := h3 } := fun {x np c} hc {Q E} q => by
      obtain ⟨hg, hdbg, hm | ⟨hm, hv, hnn⟩⟩ := hc
      · exact ld_glob (X := X.suite a ((a, oe3) :: (X.pn ++ pins))) S3 hg hm q hdbg
      · exact ld_blt (X := X.suite a ((a, oe3) :: (X.pn ++ pins))) S3 hg hm hv q hnn hdbg
    have LT : PySem.W.Looks (model X.prog X.w) h3 (typeOf (.ref a)) cls := fun A Q E s k q => wpAny_typeOf_ref (k _ _ he3) (by rw [hz3.1]; exact q)
    have go : ∀ {hds' : List ExceptHandler} {l' : List HdT}, HdsA X hds' l' → wHds X.K Wout D l' cls d σ' H' → wpAny (model X.prog X.w) X.A (handleBy (.ref a) X.env hds') (SP X pins D) X.xe { s' with heap := h3 } := by
      intro hds' l' hk
      induction hk with
      | nil =>
        intro w
        refine wpAny_handleBy_nil ?_
        obtain ⟨k1, k2, k3, oe, vs, T, oT, ts', he, hz, hd, h1, hr⟩ := id fl3
        unfold PySem.passOn
        refine wpAny_bind (wpAny_field he hd h1 ?_)
        rw [if_neg (show ¬ ((Value.ref T == Value.none) = true) from by simp)]
        have fin : wpAny (model X.prog X.w) X.A (setFlight (.ref a) X.env.frame) (fun _ s4 => wpAny (model X.prog X.w) X.A (throw (.ref a) : Sem Flow) (SP X pins D) X.xe s4) X.xe { s' with heap := h3 } := by
          rw [hf]
          refine HandSPX.setFlight_upZ fl3 fun h4 hh4 up4 => wpAny_throw (tk _ _ ?_)
          exact ⟨a, B, sI, pins, σ', H', cls, d, rfl, J, nb, (up.trans up3).trans up4, .inr (.inr (by rw [hs]; exact hh4)), na, os, ag, w⟩
        first
          | exact wpAny_bind (wpAny_pure (wpAny_bind fin))
          | exact wpAny_bind fin
      | @as x n i c ts b₀ suite np pos' hds2 l2 hc hi hln hsu r ih =>
        intro w
        obtain ⟨b, hb1, hyes, hno⟩ := w
        refine wpAny_handleBy_cons (codeAny_handlers_test ?_) (by intro q; cases q)
        have LM := PySem.W.exm_one (M := model X.prog X.w) (J3.kIn) LT hb1
        refine tst hc (LM.here ?_)
        cases b with
        | true =>
          refine codeAny_handlers_suite_as ?_
          refine HandSPX.lands_againZ fl3 fun h4 fl4 up4 => ?_
          have J4 : Inv X pins σ' H' { s' with heap := h4 } := J.landed nb fl4.1 ((up.trans up3).trans up4) os ag
          obtain ⟨oe4, vs4, he4, hz4, hd4⟩ := fl4.there
          have S4 := J4.suite he4 hd4 na nL nF
          refine store_ok (X := X.suite a ((a, oe4) :: (X.pn ++ pins))) (v := .ref a) S4 hN hi (.inl hln) rfl (fun s5 S5 => ?_) (.inr hln)
          refine wpAny_mono ((hsu a oe4 cls d (X.pn ++ pins) hz4 ⟨_, hd4⟩ ⟨(a, oe4), ⟨rfl, vs4, hd4, hz4.2.2 vs4 hd4⟩, List.mem_cons_self⟩).run [] s5 _ H' _ S5 (hyes rfl a na)) (fun f s6 hsp => ?_) (fun _ _ z => False.elim z)
          have end_ : ∀ {σ6 : St} {H6 : Hp} {Q : Shared → Prop}, Inv (X.suite a ((a, oe4) :: (X.pn ++ pins))) [] σ6 H6 s6 → (∀ s7, Inv X pins (σ6.set i none) H6 s7 → Q s7) →
              wpAny (model X.prog X.w) X.A (do bindName X.env n .none; unbindBehindTheSuite X.env n pos') (fun _ s7 => Q s7) X.xe s6 := fun {σ6 H6 Q} S6 hq => gone_ok (S6.unsuite ok) hN hi hln hq
          cases f with
          | next =>
            obtain ⟨σ6, H6, S6, q6⟩ := hsp
            exact end_ S6 fun s7 J7 => ⟨_, _, J7, q6⟩
          | brk =>
            obtain ⟨σ6, H6, S6, q6⟩ := hsp
            exact end_ S6 fun s7 J7 => ⟨_, _, J7, q6⟩
          | cont =>
            obtain ⟨σ6, H6, S6, q6⟩ := hsp
            exact end_ S6 fun s7 J7 => ⟨_, _, J7, q6⟩
          | ret u =>
            obtain ⟨v6, σ6, H6, S6, r6, q6⟩ := hsp
            exact end_ S6 fun s7 J7 => ⟨_, _, _, J7, r6, q6⟩
        | false =>
          show wpAny _ X.A (handleBy (.ref a) X.env hds2) _ _ _
          exact ih (hno rfl)
      | @no x c ts b₀ suite np pos' hds2 l2 hc hsu r ih =>
        intro w
        obtain ⟨b, hb1, hyes, hno⟩ := w
        refine wpAny_handleBy_cons (codeAny_handlers_test ?_) (by intro q; cases q)
        have LM := PySem.W.exm_one (M := model X.prog X.w) (J3.kIn) LT hb1
        refine tst hc (LM.here ?_)
        cases b with
        | true =>
          refine codeAny_handlers_suite ?_
          refine HandSPX.lands_againZ fl3 fun h4 fl4 up4 => ?_
          have J4 : Inv X pins σ' H' { s' with heap := h4 } := J.landed nb fl4.1 ((up.trans up3).trans up4) os ag
          obtain ⟨oe4, vs4, he4, hz4, hd4⟩ := fl4.there
          have S4 := J4.suite he4 hd4 na nL nF
          refine wpAny_mono ((hsu a oe4 cls d (X.pn ++ pins) hz4 ⟨_, hd4⟩ ⟨(a, oe4), ⟨rfl, vs4, hd4, hz4.2.2 vs4 hd4⟩, List.mem_cons_self⟩).run [] _ _ H' _ S4 (hyes rfl a na)) (fun f s6 hsp => ?_) (fun _ _ z => False.elim z)
          cases f with
          | next =>
            obtain ⟨σ6, H6, S6, q6⟩ := hsp
            exact ⟨_, _, S6.unsuite ok, q6⟩
          | brk =>
            obtain ⟨σ6, H6, S6, q6⟩ := hsp
            exact ⟨_, _, S6.unsuite ok, q6⟩
          | cont =>
            obtain ⟨σ6, H6, S6, q6⟩ := hsp
            exact ⟨_, _, S6.unsuite ok, q6⟩
          | ret u =>
            obtain ⟨v6, σ6, H6, S6, r6, q6⟩ := hsp
            exact ⟨_, _, _, S6.unsuite ok, r6, q6⟩
        | false =>
          show wpAny _ X.A (handleBy (.ref a) X.env hds2) _ _ _
          exact ih (hno rfl)
    exact go hh w
  · cases f with
    | next =>
      obtain ⟨σ', H', J', q⟩ := hsp
      exact wpAny_execs_nil ⟨σ', H', J'.ofTry ok, q⟩
    | brk =>
      obtain ⟨σ', H', J', q⟩ := hsp
      exact ⟨σ', H', J'.ofTry ok, q⟩
    | cont =>
      obtain ⟨σ', H', J', q⟩ := hsp
      exact ⟨σ', H', J'.ofTry ok, q⟩
    | ret u =>
      obtain ⟨v, σ', H', J', r, q⟩ := hsp
      exact ⟨v, σ', H', J'.ofTry ok, r, q⟩
end

/-! ### a caught exception in its slot -/
section
variable {K : PySem.W.Frag} {mg : Str → Option Value} {F : AP} {bs : List Addr} {H0 H H' : Hp} {δ δ' : List Sl} {σ σ' : St}
def plainSl : Sl → Bool
  | .own _ => false
  | .io _ _ => false
  | _ => true
theorem set_plain_at {i j : Nat} {s t : Sl} (h : (δ.set i s)[j]? = some t) : (i = j ∧ i < δ.length ∧ t = s) ∨ (i ≠ j ∧ δ[j]? = some t) := by
  by_cases hj : i = j
  · subst hj
    by_cases hl : i < δ.length
    · rw [List.getElem?_set_self hl] at h; exact .inl ⟨rfl, hl, (Option.some.inj h).symm⟩
    · rw [List.getElem?_eq_none (by rw [List.length_set]; omega)] at h; cases h
  · rw [List.getElem?_set_ne hj] at h; exact .inr ⟨hj, h⟩
theorem Rel.setPlain (R : Rel K mg F bs H0 δ σ H) {i : Nat} {s : Sl} {x : Option V} (ps : plainSl s = true) (r : SlR K mg F bs H0 (AA F δ σ) H s (some x)) :
    Rel K mg F bs H0 (δ.set i s) (σ.set i x) H ∧ Keep bs δ σ H (δ.set i s) (σ.set i x) H := by
  have own : ∀ {j : Nat} {c : Ob}, (δ.set i s)[j]? = some (.own c) → i ≠ j ∧ δ[j]? = some (.own c) := fun {j c} h => by
    rcases set_plain_at h with ⟨_, _, e⟩ | z
    · subst e; cases ps
    · exact z
  have io : ∀ {j n : Nat} {c : Ob}, (δ.set i s)[j]? = some (.io n c) → δ[j]? = some (.io n c) := fun {j n c} h => by
    rcases set_plain_at h with ⟨_, _, e⟩ | z
    · subst e; cases ps
    · exact z.2
  have ow : ∀ {a : Addr}, OwnAt (δ.set i s) (σ.set i x) a → OwnAt δ σ a := fun {a} ⟨j, c, e1, e2⟩ => by
    obtain ⟨hj, e3⟩ := own e1
    rw [List.getElem?_set_ne hj] at e2
    exact ⟨j, c, e3, e2⟩
  have km : Keep bs δ σ H (δ.set i s) (σ.set i x) H := fun a o n e => ⟨fun z => n (z.elim .inl fun y => .inr (ow y)), e⟩
  have m := R.mv km
  refine ⟨⟨by rw [List.length_set, List.length_set]; exact R.len, fun j t e => ?_, fun j k c d a e1 e2 e3 e4 => ?_, R.ext, R.live, R.bsF, fun j k n c d e1 e2 => R.ioa j k n c d (io e1) (io e2), R.nd⟩, km⟩
  · rcases set_plain_at e with ⟨hj, hl, et⟩ | ⟨hj, e'⟩
    · subst hj et
      rw [List.getElem?_set_self (by rw [R.len]; exact hl)]
      cases t with
      | no => trivial
      | val d => obtain ⟨v, ev, rv⟩ := r; exact ⟨v, ev, rv.mv m⟩
      | exn _ _ _ _ _ => exact exn_mv m r
      | own _ => cases ps
      | io _ _ => cases ps
    · rw [List.getElem?_set_ne hj]
      exact (R.slot j t e').mv m (fun _ _ _ z => z) (fun b hb => .inl (R.bsF b hb)) (fun c p es ex => .inr ⟨j, c, es ▸ e', ex⟩)
  · obtain ⟨h1, f1⟩ := own e1
    obtain ⟨h2, f2⟩ := own e2
    rw [List.getElem?_set_ne h1] at e3
    rw [List.getElem?_set_ne h2] at e4
    exact R.apart j k c d a f1 f2 e3 e4
end
def fld : List Str → List D → Str → Option D
  | n :: ns, v :: vs, x => if x = n then some v else fld ns vs x
  | _, _, _ => none
/-- e.f, e the exception that is held in slot i (a, dx: where it stands) -/
def eFld (a dx : Addr) (i : Nat) (f : Str) : SE := fun δ => match δ[i]? with
  | some (.exn a' dx' _ ns vs) => if a' = a ∧ dx' = dx then opt (fld ns vs f) δ else .bad
  | _ => .bad
/-- the slot is empty behind a suite -/
def unset (j : Option Nat) : RS → RS
  | .nx δ => .nx (match j with | some i => δ.set i .no | none => δ)
  | .bk δ => .bk (match j with | some i => δ.set i .no | none => δ)
  | .ct δ => .ct (match j with | some i => δ.set i .no | none => δ)
  | .rt d δ => .rt d (match j with | some i => δ.set i .no | none => δ)
  | .rtN c δ => .rtN c (match j with | some i => δ.set i .no | none => δ)
  | .exc _ _ _ _ => .bad
  | .bad => .bad
def setIn (j : Option Nat) (a dx : Addr) (c : Str) (ns : List Str) (vs : List D) (δ : List Sl) : List Sl := match j with
  | some i => δ.set i (.exn a dx c ns vs)
  | none => δ
/-- a clause: which classes it takes; its slot; its suite, by where the exception stands -/
structure HdD where
  test : Str → Option Bool
  at_ : Option Nat
  suite : Addr → Addr → Str → SS
open Classical in
noncomputable def handle : List HdD → Str → List Str → List D → List Sl → RS
  | [], c, ns, vs, δ => .exc c ns vs δ
  | h :: r, c, ns, vs, δ => match h.test c with
    | some true => if ∀ a dx, unset h.at_ (h.suite a dx c (setIn h.at_ a dx c ns vs δ)) = unset h.at_ (h.suite 0 0 c (setIn h.at_ 0 0 c ns vs δ)) then unset h.at_ (h.suite 0 0 c (setIn h.at_ 0 0 c ns vs δ)) else .bad
    | some false => handle r c ns vs δ
    | none => .bad
noncomputable def sTry (body : SS) (hs : List HdD) : SS := fun δ => match body δ with
  | .exc c ns vs δ1 => handle hs c ns vs δ1
  | r => r
section
variable {X : Cx} {W : WX} {K : PySem.W.Frag} {mg : Str → Option Value} {F : AP} {bs : List Addr} {H0 H : Hp} {δ : List Sl} {σ : St}
theorem lookup_fld {A : AP} : ∀ {ns : List Str} {vs : List D} {xs : List V} {f : Str} {d : D}, RepL K mg A H vs xs → fld ns vs f = some d → ∃ v, (ns.zip xs).lookup f = some v ∧ Rep K mg A H d v
  | [], _, _, _, _, _, e => by simp [fld] at e
  | _ :: _, [], _, _, _, _, e => by simp [fld] at e
  | n :: ns, v :: vs, xs, f, d, r, e => by
    simp only [RepL] at r
    obtain ⟨x, r', ex, r1, r2⟩ := r
    subst ex
    simp only [fld] at e
    by_cases z : f = n
    · rw [if_pos z] at e
      cases e
      subst z
      exact ⟨x, by simp [List.zip_cons_cons, List.lookup], r1⟩
    · rw [if_neg z] at e
      obtain ⟨y, h1, h2⟩ := lookup_fld (f := f) r2 e
      refine ⟨y, ?_, h2⟩
      have : (f == n) = false := by simp [z]
      simp [List.zip_cons_cons, List.lookup, this, h1]
/-- e.f in a suite: the class of the exception is one of those whose tables are known -/
theorem de_fld {W' : WX} {a dx : Addr} {oe : Obj} {cls : Value} {pn : List (Addr × Obj)} {i : Nat} {n : Str} {f : Str} {np pos : Pos} (hz : L2N.Zn cls (some dx) oe) (hf : ∃ vs, oe.data = .fields vs)
    (T : ∀ C, cls = .ref C → XfC X.K C ∧ PySem.W.findIn X.K (.ref C) f = some none) (hcls : ∃ C, cls = .ref C)
    (hN : X.N[i]? = some n) (hv : Vis X.env.scope n) (hd : (n == ("__debug__" : Str)) = false) (hcd : (n == ("__classdict__" : Str)) = false) (hb : attributeBase (.Name n np) f X.env (eval (.Name n np) X.env) = eval (.Name n np) X.env := by rfl) :
    DE (X.suite a ((a, oe) :: pn)) W' (.Attribute (.Name n np) f pos) (eFld a dx i f) := by
  obtain ⟨C, rfl⟩ := hcls
  obtain ⟨T1, T2⟩ := T C rfl
  refine (pe_xf (d := some dx) T1 T2 hz.zc hf (pe_var (X := X.suite a ((a, oe) :: pn)) hN hv hd hcd) hb).imp fun σ H Q h => ?_
  obtain ⟨F, bs, H0, δ, R, h⟩ := h
  unfold eFld at h
  cases e : δ[i]? with
  | none => rw [e] at h; exact h.elim
  | some s =>
    rw [e] at h
    have q := R.slot i s e
    cases s with
    | no => exact h.elim
    | val _ => exact h.elim
    | own _ => exact h.elim
    | io _ _ => exact h.elim
    | exn a' dx' c ns vs =>
      by_cases z : a' = a ∧ dx' = dx
      · obtain ⟨rfl, rfl⟩ := z
        simp only [and_self, if_true] at h
        obtain ⟨es, C', xs, _, _, t, _, r⟩ := q
        cases ef : fld ns vs f with
        | none => rw [ef] at h; exact h.elim
        | some d =>
          rw [ef] at h
          obtain ⟨v, lv, rv⟩ := lookup_fld r ef
          exact ⟨.ref a', es, rfl, rfl, dx', _, v, rfl, t, lv, h v H R .refl rv⟩
      · simp only [if_neg z] at h; exact h.elim
/-- a clause is right: what the library asks of it -/
inductive HdsD (X : Cx) : List ExceptHandler → List HdD → Prop
  | nil : HdsD X [] []
  | as {x n : Str} {i : Nat} {c : Value} {h : HdD} {b₀ : Stmt} {suite : List Stmt} {np pos' : Pos} {hds : List ExceptHandler} {l : List HdD} (hc : Names X x c) (hi : X.N[i]? = some n) (hln : X.env.kindOf n = some .local) (ha : h.at_ = some i)
      (ht : ∀ k C b, X.mg k = some (.ref C) → h.test k = some b → PySem.W.exmOne X.K (.ref C) c = some b)
      (hsu : ∀ (a : Addr) (oe : Obj) (k : Str) (C dx : Addr) (pn : List (Addr × Obj)), X.mg k = some (.ref C) → h.test k = some true → L2N.Zn (.ref C) (some dx) oe → (∃ vs, oe.data = .fields vs) → L2H.HotC (X.suite a ((a, oe) :: pn)) → DSs (X.suite a ((a, oe) :: pn)) W0 (b₀ :: suite) (h.suite a dx k)) (r : HdsD X hds l) :
      HdsD X (.ExceptHandler (some (.Name x np)) (some n) (b₀ :: suite) pos' :: hds) (h :: l)
  | no {x : Str} {c : Value} {h : HdD} {b₀ : Stmt} {suite : List Stmt} {np pos' : Pos} {hds : List ExceptHandler} {l : List HdD} (hc : Names X x c) (ha : h.at_ = none)
      (ht : ∀ k C b, X.mg k = some (.ref C) → h.test k = some b → PySem.W.exmOne X.K (.ref C) c = some b)
      (hsu : ∀ (a : Addr) (oe : Obj) (k : Str) (C dx : Addr) (pn : List (Addr × Obj)), X.mg k = some (.ref C) → h.test k = some true → L2N.Zn (.ref C) (some dx) oe → (∃ vs, oe.data = .fields vs) → L2H.HotC (X.suite a ((a, oe) :: pn)) → DSs (X.suite a ((a, oe) :: pn)) W0 (b₀ :: suite) (h.suite a dx k)) (r : HdsD X hds l) :
      HdsD X (.ExceptHandler (some (.Name x np)) none (b₀ :: suite) pos' :: hds) (h :: l)

def RI (X : Cx) (l : List HdD) (l' : List HdT) : Prop := ∀ (Wout : WX) (D : Ends) (F : AP) (bs : List Addr) (H0 : Hp) (δ0 : List Sl) (σ0 : St) (Hb : Hp) (c : Str) (ns : List Str) (vs : List DL.D) (δ : List Sl) (σ : St) (H : Hp) (C dx : Addr) (xs : List V),
  X.mg c = some (.ref C) → H dx = some (.xd (ns.zip xs)) → ns.length = vs.length → Rel X.K X.mg F bs H0 δ σ H → Keep bs δ0 σ0 Hb δ σ H → ¬ AA F δ σ dx → RepL X.K X.mg (AA F δ σ) H vs xs → PostS X.K X.mg Wout F bs H0 δ0 σ0 Hb (handle l c ns vs δ) D → wHds X.K Wout D l' (.ref C) (some dx) σ H
def tsOf (X : Cx) (h : HdD) : Addr → Value → Option Addr → TS := fun a cls d D σ H => ∃ k C dx, cls = .ref C ∧ d = some dx ∧ X.mg k = some (.ref C) ∧ h.test k = some true ∧ rdS X.K X.mg W0 (h.suite a dx k) D σ H
theorem tsOf_ok {h : HdD} {b₀ : Stmt} {suite : List Stmt}
    (hsu : ∀ (a : Addr) (oe : Obj) (k : Str) (C dx : Addr) (pn : List (Addr × Obj)), X.mg k = some (.ref C) → h.test k = some true → L2N.Zn (.ref C) (some dx) oe → (∃ vs, oe.data = .fields vs) → L2H.HotC (X.suite a ((a, oe) :: pn)) → DSs (X.suite a ((a, oe) :: pn)) W0 (b₀ :: suite) (h.suite a dx k))
    (a : Addr) (oe : Obj) (cls : Value) (d : Option Addr) (pn : List (Addr × Obj)) (hz : L2N.Zn cls d oe) (hf : ∃ vs, oe.data = .fields vs) (hot : L2H.HotC (X.suite a ((a, oe) :: pn))) : PSs (X.suite a ((a, oe) :: pn)) (b₀ :: suite) (tsOf X h a cls d) :=
  ⟨fun pins s σ H D I ⟨k, C, dx, e1, e2, g, t, q⟩ => by
    subst e1 e2
    exact (hsu a oe k C dx pn g t hz hf hot).run pins s σ H D I q⟩
theorem suite_post {h : HdD} {Wout : WX} {D : Ends} {j : Option Nat} {δ0 : List Sl} {σ0 : St} {Hb : Hp} {δ1 : List Sl} {σ1 : St} {H1 : Hp} {r : RS} (k : Keep bs δ0 σ0 Hb δ1 σ1 H1) (p : PostS K mg Wout F bs H0 δ0 σ0 Hb (unset j r) D) : PostS K mg W0 F bs H0 δ1 σ1 H1 r (atEnd j D) := by
  cases j with
  | none =>
    cases r with
    | nx δ => exact fun s H' R k' => p s H' R (k.trans k')
    | rt d δ => exact fun v s H' R k' => p v s H' R (k.trans k')
    | rtN c δ => exact fun q o s H' hq R k' => p q o s H' hq R (k.trans k')
    | bk δ => exact fun s H' R k' => p s H' R (k.trans k')
    | ct δ => exact fun s H' R k' => p s H' R (k.trans k')
    | exc c ns vs δ => exact p.elim
    | bad => exact p.elim
  | some i =>
    have go : ∀ {δ : List Sl} {s : St} {H' : Hp}, Rel K mg F bs H0 δ s H' → Keep bs δ1 σ1 H1 δ s H' → Rel K mg F bs H0 (δ.set i .no) (s.set i none) H' ∧ Keep bs δ0 σ0 Hb (δ.set i .no) (s.set i none) H' := fun R k' =>
      let ⟨R2, k2⟩ := R.setPlain (i := i) (s := .no) (x := none) rfl trivial
      ⟨R2, k.trans (k'.trans k2)⟩
    cases r with
    | nx δ => exact fun s H' R k' => p _ H' (go R k').1 (go R k').2
    | rt d δ => exact fun v s H' R k' => p v _ H' (go R k').1 (go R k').2
    | rtN c δ => exact fun q o s H' hq R k' => p q o _ H' hq (go R k').1 (go R k').2
    | bk δ => exact fun s H' R k' => p _ H' (go R k').1 (go R k').2
    | ct δ => exact fun s H' R k' => p _ H' (go R k').1 (go R k').2
    | exc c ns vs δ => exact p.elim
    | bad => exact p.elim
theorem hds_ok {hds : List ExceptHandler} {l : List HdD} (h : HdsD X hds l) : ∃ l', HdsA X hds l' ∧ RI X l l' := by
  induction h with
  | nil => exact ⟨[], .nil, fun Wout D F bs H0 δ0 σ0 Hb c ns vs δ σ H C dx xs gC hx hl R k nd r p => p σ C dx xs H gC hx hl R k nd r⟩
  | @as x n i c h b₀ suite np pos' hds l hc hi hln ha ht hsu r ih =>
    obtain ⟨l', h1, h2⟩ := ih
    refine ⟨(c, some i, tsOf X h) :: l', .as hc hi hln (tsOf_ok hsu) h1, fun Wout D F bs H0 δ0 σ0 Hb k ns vs δ σ H C dx xs gC hx hl R kp nd r p => ?_⟩
    simp only [handle] at p
    cases et : h.test k with
    | none => rw [et] at p; exact p.elim
    | some b =>
      rw [et] at p
      refine ⟨b, ht k C b gC et, fun hb a na => ?_, fun hb => ?_⟩
      · subst hb
        simp only at p
        by_cases hfr : ∀ a dx, unset h.at_ (h.suite a dx k (setIn h.at_ a dx k ns vs δ)) = unset h.at_ (h.suite 0 0 k (setIn h.at_ 0 0 k ns vs δ))
        case neg => rw [if_neg hfr] at p; exact p.elim
        rw [if_pos hfr, ← hfr a dx, ha] at p
        obtain ⟨R2, k2⟩ := R.setPlain (i := i) (s := .exn a dx k ns vs) (x := some (.ref a)) rfl ⟨rfl, C, xs, gC, nd, hx, hl, r⟩
        exact ⟨k, C, dx, rfl, rfl, gC, et, F, bs, H0, _, R2, suite_post (h := h) (kp.trans k2) p⟩
      · subst hb
        exact h2 Wout D F bs H0 δ0 σ0 Hb k ns vs δ σ H C dx xs gC hx hl R kp nd r p
  | @no x c h b₀ suite np pos' hds l hc ha ht hsu r ih =>
    obtain ⟨l', h1, h2⟩ := ih
    refine ⟨(c, none, tsOf X h) :: l', .no hc (tsOf_ok hsu) h1, fun Wout D F bs H0 δ0 σ0 Hb k ns vs δ σ H C dx xs gC hx hl R kp nd r p => ?_⟩
    simp only [handle] at p
    cases et : h.test k with
    | none => rw [et] at p; exact p.elim
    | some b =>
      rw [et] at p
      refine ⟨b, ht k C b gC et, fun hb a na => ?_, fun hb => ?_⟩
      · subst hb
        simp only at p
        by_cases hfr : ∀ a dx, unset h.at_ (h.suite a dx k (setIn h.at_ a dx k ns vs δ)) = unset h.at_ (h.suite 0 0 k (setIn h.at_ 0 0 k ns vs δ))
        case neg => rw [if_neg hfr] at p; exact p.elim
        rw [if_pos hfr, ← hfr a dx, ha] at p
        exact ⟨k, C, dx, rfl, rfl, gC, et, F, bs, H0, _, R, suite_post (h := h) kp p⟩
      · subst hb
        exact h2 Wout D F bs H0 δ0 σ0 Hb k ns vs δ σ H C dx xs gC hx hl R kp nd r p
theorem ds_try {Wout : WX} {body : List Stmt} {h₀ : ExceptHandler} {hds : List ExceptHandler} {l : List HdD} {g : SS} {pos : Pos} (hs : X.stack = X.env :: X.outer) (hf : X.env.frame = some X.env.locals) (hN : X.N.Nodup) (tk : L2N.Takes X Wout)
    (hb : ∀ (W : WX) (pn : List (Addr × Obj)) (xe : Value → Shared → Prop), L2N.Takes (X.tr pn xe) W → PassesOwn (model X.prog X.w) X.A X.env xe → DSs (X.tr pn xe) W body g) (hh : HdsD X (h₀ :: hds) l) : DS X Wout (.Try body (h₀ :: hds) [] [] pos) (sTry g l) := by
  obtain ⟨l', h1, h2⟩ := hds_ok hh
  refine (ps_tryA (tb := fun W => rdS X.K X.mg W g) hs hf hN tk hb h1).imp fun D σ H ⟨F, bs, H0, δ, R, p⟩ => ⟨F, bs, H0, δ, R, ?_⟩
  unfold sTry at p
  cases e : g δ with
  | nx δ' => rw [e] at p; exact p
  | rt d δ' => rw [e] at p; exact p
  | rtN c δ' => rw [e] at p; exact p
  | bk δ' => rw [e] at p; exact p
  | ct δ' => rw [e] at p; exact p
  | bad => rw [e] at p; exact p.elim
  | exc c ns vs δ' =>
    rw [e] at p
    exact fun σ' C dx xs H' gC hx hl R' k' nd r => h2 Wout D F bs H0 δ σ H c ns vs δ' σ' H' C dx xs gC hx hl R' k' nd r p
end
end DL
set_option Elab.async false
set_option linter.all false
set_option maxRecDepth 100000
set_option maxHeartbeats 4000000
/-! DL: built-in functions. -/
namespace DL
open PySem PySem.Spec L2
open PyProof.Rows hiding St

section
variable {X : Cx} {W : WX} {K : PySem.W.Frag} {mg : Str → Option Value} {pos : Pos} {σ : St} {A : AP} {H : Hp}
theorem RepWL.one {d : D} {xs : List V} (h : RepWL K mg A H [d] xs) : ∃ x, xs = [x] ∧ RepW K mg A H d x := by
  obtain ⟨x, r, e, h1, e2⟩ := h
  obtain rfl : r = [] := e2
  exact ⟨x, e, h1⟩
theorem RepWL.two {d d' : D} {xs : List V} (h : RepWL K mg A H [d, d'] xs) : ∃ x y, xs = [x, y] ∧ RepW K mg A H d x ∧ RepW K mg A H d' y := by
  obtain ⟨x, r, e, h1, y, r2, e2, h2, e3⟩ := h
  obtain rfl : r2 = [] := e3
  subst e2
  exact ⟨x, y, e, h1, h2⟩
theorem KTup.len {a : Addr} {xs : List V} (h : KTup K a xs) : xs.length ≤ sizeLine := by
  obtain ⟨o, its, n, _, _, _, hz, rv⟩ := h
  rw [rv.length, Array.length_toList]; exact hz
/-! ### names -/
theorem de_glob {x : Str} {v : V} {u : Value} {d : D} (hg : Gl X x) (hm : X.mg x = some u) (r : RelV v u) (hv : ∀ A H, Rep X.K X.mg A H d v) (hd : (x == ("__debug__" : Str)) = false := by decide) : DE X W (.Name x pos) (eC d) := (pe_glob hg hm r hd).imp fun _ _ _ => rd_c hv
theorem de_ty {x : Str} {n : String} (hg : Gl X x) (hm : X.mg x = none) (hv : bootBuiltins x = some (.type n)) (hn : x ≠ "__name__" := by decide) (hd : (x == ("__debug__" : Str)) = false := by decide) : DE X W (.Name x pos) (eC (.ty n)) :=
  (pe_bltn (v := .ty n) hg hm hv rfl hn hd).imp fun _ _ _ => rd_c fun _ _ => by simp only [Rep]
/-! ### len -/
def gLen : List D → Option D
  | [.tup l] => some (.int l.length)
  | [.lst l] => some (.int l.length)
  | [.frl l] => some (.int l.length)
  | [.dct ks _] => some (.int ks.length)
  | [.str x] => if x.length ≤ lim then some (.int x.length) else none
  | _ => none
theorem op_len : CallR X (.builtin "len") (fun xs H Q => (∃ x n, xs = [x] ∧ LenV X.K x H n ∧ Q (.int n) H) ∨ ∃ a kvs, xs = [V.ref a] ∧ H a = some (.dK kvs) ∧ Q (.int kvs.length) H) := call_len.or call_lenD
/-- len of lists, tuples and texts -/
def gLen1 : List D → Option D
  | [.tup l] => some (.int l.length)
  | [.lst l] => some (.int l.length)
  | [.frl l] => some (.int l.length)
  | [.str x] => if x.length ≤ lim then some (.int x.length) else none
  | _ => none
theorem sem_len : CrS K mg (fun xs H Q => ∃ x n, xs = [x] ∧ LenV K x H n ∧ Q (.int n) H) gLen1 := by
  intro F bs H0 δ σ H ds d xs Q R r e q
  match ds, e with
  | [.tup l], e =>
    cases e
    obtain ⟨x, ex, rx⟩ := r.one
    obtain ⟨a, ys, ev, t, rr⟩ := rx.tup
    subst ex ev
    exact ⟨_, l.length, rfl, .inr ⟨ys, t.sq, rr.len.symm⟩, q _ H R .refl Rep.int⟩
  | [.lst l], e =>
    cases e
    obtain ⟨x, ex, rx⟩ := r.one
    obtain ⟨a, ys, ev, t, rr⟩ := rx.lst
    subst ex ev
    exact ⟨_, l.length, rfl, .inl ⟨ys, .inl (.inl t), rr.len.symm⟩, q _ H R .refl Rep.int⟩
  | [.frl l], e =>
    cases e
    obtain ⟨x, ex, rx⟩ := r.one
    obtain ⟨a, ys, ev, t, rr⟩ := rx.frl
    subst ex ev
    exact ⟨_, l.length, rfl, .inl ⟨ys, t, rr.len.symm⟩, q _ H R .refl Rep.int⟩
  | [.str y], e =>
    simp only [gLen1] at e
    by_cases z : y.length ≤ lim
    · rw [if_pos z] at e
      cases e
      obtain ⟨x, ex, rx⟩ := r.one
      have ev := rx.str
      subst ex ev
      exact ⟨_, y.length, rfl, ⟨lim_le z, rfl⟩, q _ H R .refl Rep.int⟩
    · rw [if_neg z] at e; cases e
/-! ### isinstance -/
def tyN : D → Option String
  | .non => some "NoneType"
  | .bl _ => some "bool"
  | .int _ => some "int"
  | .str _ => some "str"
  | .tup _ => some "tuple"
  | .lst _ => some "list"
  | .frl _ => some "list"
  | .dct _ _ => some "dict"
  | _ => none
def isTy (a b : String) : Option Bool :=
  if (["NoneType", "bool", "int", "str", "tuple", "list", "dict"].contains a && ["bool", "int", "str", "tuple", "list", "dict"].contains b) = true then some (a == b || (a == "bool" && b == "int")) else none
theorem isTy_ok {a b : String} {r : Bool} (h : isTy a b = some r) : kitB a b = some r := by
  unfold isTy at h
  split at h
  · rename_i z
    obtain ⟨za, zb⟩ := Bool.and_eq_true_iff.mp z
    simp only [List.contains_iff_mem, List.mem_cons, List.not_mem_nil, or_false] at za zb
    cases h
    rcases za with rfl | rfl | rfl | rfl | rfl | rfl | rfl <;> rcases zb with rfl | rfl | rfl | rfl | rfl | rfl <;> decide +kernel
  · cases h
theorem RepW.ty {d : D} {x : V} {n : String} (h : RepW K mg A H d x) (e : tyN d = some n) : TyX K H x (.type n) := by
  cases d with
  | non => cases e; rw [h.non]; exact .base .non
  | bl b => cases e; rw [h.bl]; exact .base (.bl b)
  | int i => cases e; rw [h.int]; exact .base (.int i)
  | str y => cases e; rw [h.str]; exact .base (.str y)
  | tup l =>
    cases e
    obtain ⟨a, xs, ex, t, _⟩ := h.tup
    rw [ex]
    rcases t with ⟨t | ⟨o, t⟩, _⟩ | ⟨o, its, k, t, c, _⟩
    · exact .base (.tup t)
    · exact .fTuple t
    · exact .kTuple t c
  | lst l =>
    cases e
    obtain ⟨a, xs, ex, t, _⟩ := h.lst
    rw [ex]
    exact .base (.lst t)
  | frl l =>
    cases e
    obtain ⟨a, xs, ex, t, _⟩ := h.frl
    rw [ex]
    rcases t with (t | ⟨o, t⟩) | ⟨o, its, k, t, c, _⟩
    · exact .base (.lst t)
    · exact .base (.frz t)
    · exact .kList t c
  | dct ks vs =>
    cases e
    obtain ⟨a, xs, ex, t, _⟩ := h.dct
    rw [ex]
    rcases t with t | ⟨o, t⟩
    · exact .base (.dK t)
    · exact .fDict t
  | ty _ => cases e
  | cl _ => cases e
  | obj _ _ _ => cases e
  | exc _ _ _ => cases e
def gIsi : List D → Option D
  | [d, .ty n] => match tyN d with
    | some a => match isTy a n with
      | some b => some (.bl b)
      | none => none
    | none => none
  | _ => none
theorem RepW.tyv {n : String} {x : V} (h : RepW K mg A H (.ty n) x) : x = .ty n := by simpa only [RepW, Rep] using h
theorem sem_isi : CrS K mg (rIsi K) gIsi := by
  intro F bs H0 δ σ H ds d xs Q R r e q
  match ds, e with
  | [d0, .ty n], e =>
    obtain ⟨x, y, exs, rx, ry⟩ := r.two
    subst exs
    simp only [gIsi] at e
    cases e1 : tyN d0 with
    | none => rw [e1] at e; cases e
    | some a =>
      rw [e1] at e
      simp only at e
      cases e2 : isTy a n with
      | none => rw [e2] at e; cases e
      | some b =>
        rw [e2] at e
        cases e
        have ey := ry.tyv
        subst ey
        exact ⟨x, .ty n, .type a, .type n, b, rfl, .ty n, rx.ty e1, kit_ty (isTy_ok e2), q _ H R .refl Rep.bl⟩
/-! ### ints -/
def gInt : List D → Option D
  | [.int i] => some (.int i)
  | [.bl b] => some (.int (if b then 1 else 0))
  | _ => none
theorem sem_int : CrS K mg (fun xs H Q => (∃ i, xs = [.int i] ∧ Q (.int i) H) ∨ ∃ k, xs = [.bl k] ∧ Q (.int (if k then 1 else 0)) H) gInt := by
  intro F bs H0 δ σ H ds d xs Q R r e q
  match ds, e with
  | [.int i], e =>
    cases e
    obtain ⟨x, ex, rx⟩ := r.one
    have ev := rx.int
    subst ex ev
    exact .inl ⟨i, rfl, q _ H R .refl Rep.int⟩
  | [.bl b], e =>
    cases e
    obtain ⟨x, ex, rx⟩ := r.one
    have ev := rx.bl
    subst ex ev
    exact .inr ⟨b, rfl, q _ H R .refl Rep.int⟩
def gAbs : List D → Option D
  | [.int i] => some (.int (if i < 0 then -i else i))
  | _ => none
theorem sem_abs : CrS K mg (fun xs H Q => ∃ i, xs = [.int i] ∧ Q (.int (if i < 0 then -i else i)) H) gAbs := by
  intro F bs H0 δ σ H ds d xs Q R r e q
  match ds, e with
  | [.int i], e =>
    cases e
    obtain ⟨x, ex, rx⟩ := r.one
    have ev := rx.int
    subst ex ev
    exact ⟨i, rfl, q _ H R .refl Rep.int⟩
def gMax2 : List D → Option D
  | [.int i, .int j] => some (.int (if j > i then j else i))
  | _ => none
def gMin2 : List D → Option D
  | [.int i, .int j] => some (.int (if j < i then j else i))
  | _ => none
theorem sem_max2 : CrS K mg (fun xs H Q => ∃ i j, xs = [.int i, .int j] ∧ Q (.int (if j > i then j else i)) H) gMax2 := by
  intro F bs H0 δ σ H ds d xs Q R r e q
  match ds, e with
  | [.int i, .int j], e =>
    cases e
    obtain ⟨x, y, ex, rx, ry⟩ := r.two
    have ev := rx.int
    have ew := ry.int
    subst ex ev ew
    exact ⟨i, j, rfl, q _ H R .refl Rep.int⟩
theorem sem_min2 : CrS K mg (fun xs H Q => ∃ i j, xs = [.int i, .int j] ∧ Q (.int (if j < i then j else i)) H) gMin2 := by
  intro F bs H0 δ σ H ds d xs Q R r e q
  match ds, e with
  | [.int i, .int j], e =>
    cases e
    obtain ⟨x, y, ex, rx, ry⟩ := r.two
    have ev := rx.int
    have ew := ry.int
    subst ex ev ew
    exact ⟨i, j, rfl, q _ H R .refl Rep.int⟩
/-! ### list(), tuple() -/
def nListOf : List D → Option Ob
  | [.tup l] => some (.lst l)
  | [.lst l] => some (.lst l)
  | [.frl l] => some (.lst l)
  | _ => none
theorem RepW.seq {d : D} {l : List D} {x : V} (h : RepW K mg A H d x) (e : nListOf [d] = some (.lst l)) : ∃ p ys, x = .ref p ∧ (SqL K H p ys ∨ SqT K H p ys) ∧ RepL K mg A H l ys := by
  cases d <;> try cases e
  · obtain ⟨a, xs, ex, t, r⟩ := h.tup; exact ⟨a, xs, ex, .inr t.sq, r⟩
  · obtain ⟨a, xs, ex, t, r⟩ := h.lst; exact ⟨a, xs, ex, .inl (.inl (.inl t)), r⟩
  · obtain ⟨a, xs, ex, t, r⟩ := h.frl; exact ⟨a, xs, ex, .inl t, r⟩
theorem sem_list : CrN K mg (fun xs H Q => ∃ p ys, xs = [.ref p] ∧ (SqL K H p ys ∨ SqT K H p ys) ∧ ∀ l, H l = none → Q (.ref l) (upd H l (.lst ys))) nListOf := by
  intro F bs H0 δ σ H ds c xs Q R r e q
  have key : ∀ {d : D} {l : List D}, ds = [d] → nListOf [d] = some (.lst l) → c = .lst l → ∃ p ys, xs = [.ref p] ∧ (SqL K H p ys ∨ SqT K H p ys) ∧ ∀ l, H l = none → Q (.ref l) (upd H l (.lst ys)) := by
    intro d l ed el ec
    subst ed ec
    obtain ⟨x, ex, rx⟩ := r.one
    obtain ⟨p, ys, ev, t, rr⟩ := rx.seq el
    subst ex ev
    exact ⟨p, ys, rfl, t, fun a ha => q a _ ha ⟨ys, rfl, rr⟩⟩
  match ds, e with
  | [.tup l], e => exact key rfl rfl (Option.some.inj e).symm
  | [.lst l], e => exact key rfl rfl (Option.some.inj e).symm
  | [.frl l], e => exact key rfl rfl (Option.some.inj e).symm
def gTup1 : List D → Option D
  | [.tup l] => some (.tup l)
  | [.lst l] => some (.tup l)
  | [.frl l] => some (.tup l)
  | _ => none
theorem sem_tup : CrS K mg (fun xs H Q => ∃ p ys, xs = [.ref p] ∧ ((SqL K H p ys ∧ ∀ l, H l = none → Q (.ref l) (upd H l (.tup ys))) ∨ (SqT K H p ys ∧ Q (.ref p) H))) gTup1 := by
  intro F bs H0 δ σ H ds d xs Q R r e q
  match ds, e with
  | [.tup l], e =>
    cases e
    obtain ⟨x, ex, rx⟩ := r.one
    obtain ⟨a, ys, ev, t, rr⟩ := rx.tup
    subst ex ev
    exact ⟨a, ys, rfl, .inr ⟨t.sq, q _ H R .refl (by simp only [Rep]; exact ⟨a, ys, rfl, t, rr⟩)⟩⟩
  | [.lst l], e =>
    cases e
    obtain ⟨x, ex, rx⟩ := r.one
    obtain ⟨a, ys, ev, t, rr⟩ := rx.lst
    subst ex ev
    refine ⟨a, ys, rfl, .inl ⟨.inl (.inl t), fun p hp => ?_⟩⟩
    obtain ⟨R2, k2, r2⟩ := R.tup rr hp
    exact q _ _ R2 k2 r2
  | [.frl l], e =>
    cases e
    obtain ⟨x, ex, rx⟩ := r.one
    obtain ⟨a, ys, ev, t, rr⟩ := rx.frl
    subst ex ev
    refine ⟨a, ys, rfl, .inl ⟨t, fun p hp => ?_⟩⟩
    obtain ⟨R2, k2, r2⟩ := R.tup rr hp
    exact q _ _ R2 k2 r2
/-! ### lists of ints, of truths -/
def intsOf : List D → Option (List Int)
  | [] => some []
  | .int i :: r => match intsOf r with
    | some l => some (i :: l)
    | none => none
  | _ => none
theorem intsOf_ok : ∀ {l : List D} {ns : List Int}, intsOf l = some ns → l = ns.map D.int
  | [], ns, e => by cases e; rfl
  | .int i :: r, ns, e => by
    simp only [intsOf] at e
    cases e1 : intsOf r with
    | none => rw [e1] at e; cases e
    | some m => rw [e1] at e; cases e; rw [intsOf_ok e1]; rfl
theorem intsOf_map (ns : List Int) : intsOf (ns.map D.int) = some ns := by
  induction ns with
  | nil => rfl
  | cons a r ih => simp only [List.map_cons, intsOf, ih]
def blsOf : List D → Option (List Bool)
  | [] => some []
  | .bl i :: r => match blsOf r with
    | some l => some (i :: l)
    | none => none
  | _ => none
theorem blsOf_ok : ∀ {l : List D} {ns : List Bool}, blsOf l = some ns → l = ns.map D.bl
  | [], ns, e => by cases e; rfl
  | .bl i :: r, ns, e => by
    simp only [blsOf] at e
    cases e1 : blsOf r with
    | none => rw [e1] at e; cases e
    | some m => rw [e1] at e; cases e; rw [blsOf_ok e1]; rfl
theorem blsOf_map (ns : List Bool) : blsOf (ns.map D.bl) = some ns := by
  induction ns with
  | nil => rfl
  | cons a r ih => simp only [List.map_cons, blsOf, ih]
/-- a list (not a tuple), as ints -/
def listI : List D → Option (List Int)
  | [.lst l] => intsOf l
  | [.frl l] => intsOf l
  | _ => none
def listB : List D → Option (List Bool)
  | [.lst l] => blsOf l
  | [.frl l] => blsOf l
  | _ => none
theorem RepWL.ints {ds : List D} {xs : List V} {ns : List Int} (r : RepWL K mg A H ds xs) (e : listI ds = some ns) : ∃ a, xs = [V.ref a] ∧ SqL K H a (ns.map V.int) := by
  match ds, e with
  | [.lst l], e =>
    obtain ⟨x, ex, rx⟩ := r.one
    obtain ⟨a, ys, ev, t, rr⟩ := rx.lst
    subst ex ev
    rw [intsOf_ok e] at rr
    rw [RepL.ints.mp rr] at t
    exact ⟨a, rfl, .inl (.inl t)⟩
  | [.frl l], e =>
    obtain ⟨x, ex, rx⟩ := r.one
    obtain ⟨a, ys, ev, t, rr⟩ := rx.frl
    subst ex ev
    rw [intsOf_ok e] at rr
    rw [RepL.ints.mp rr] at t
    exact ⟨a, rfl, t⟩
theorem RepWL.bls {ds : List D} {xs : List V} {ns : List Bool} (r : RepWL K mg A H ds xs) (e : listB ds = some ns) : ∃ a, xs = [V.ref a] ∧ SqL K H a (ns.map V.bl) := by
  match ds, e with
  | [.lst l], e =>
    obtain ⟨x, ex, rx⟩ := r.one
    obtain ⟨a, ys, ev, t, rr⟩ := rx.lst
    subst ex ev
    rw [blsOf_ok e] at rr
    rw [RepL.bls.mp rr] at t
    exact ⟨a, rfl, .inl (.inl t)⟩
  | [.frl l], e =>
    obtain ⟨x, ex, rx⟩ := r.one
    obtain ⟨a, ys, ev, t, rr⟩ := rx.frl
    subst ex ev
    rw [blsOf_ok e] at rr
    rw [RepL.bls.mp rr] at t
    exact ⟨a, rfl, t⟩
def gSum (ds : List D) : Option D := match listI ds with
  | some ns => some (.int ns.sum)
  | none => none
def gAll (ds : List D) : Option D := match listB ds with
  | some ns => some (.bl (ns.all id))
  | none => none
def gAny (ds : List D) : Option D := match listB ds with
  | some ns => some (.bl (ns.any id))
  | none => none
def maxI : List Int → Int
  | [] => 0
  | [a] => a
  | a :: r => if maxI r < a then a else maxI r
def minI : List Int → Int
  | [] => 0
  | [a] => a
  | a :: r => if a < minI r then a else minI r
theorem maxI_cons (a b : Int) (r : List Int) : maxI (a :: b :: r) = if maxI (b :: r) < a then a else maxI (b :: r) := rfl
theorem minI_cons (a b : Int) (r : List Int) : minI (a :: b :: r) = if a < minI (b :: r) then a else minI (b :: r) := rfl
theorem maxI_ok : ∀ {l : List Int}, l ≠ [] → maxI l ∈ l ∧ ∀ y ∈ l, y ≤ maxI l
  | [], h => absurd rfl h
  | [a], _ => by simp [maxI]
  | a :: b :: r, _ => by
    obtain ⟨h1, h2⟩ := maxI_ok (l := b :: r) (by simp)
    rw [maxI_cons]
    by_cases z : maxI (b :: r) < a
    · rw [if_pos z]
      refine ⟨by simp, fun y hy => ?_⟩
      rcases List.mem_cons.mp hy with e | e
      · omega
      · have := h2 y e; omega
    · rw [if_neg z]
      refine ⟨List.mem_cons_of_mem _ h1, fun y hy => ?_⟩
      rcases List.mem_cons.mp hy with e | e
      · omega
      · exact h2 y e
theorem minI_ok : ∀ {l : List Int}, l ≠ [] → minI l ∈ l ∧ ∀ y ∈ l, minI l ≤ y
  | [], h => absurd rfl h
  | [a], _ => by simp [minI]
  | a :: b :: r, _ => by
    obtain ⟨h1, h2⟩ := minI_ok (l := b :: r) (by simp)
    rw [minI_cons]
    by_cases z : a < minI (b :: r)
    · rw [if_pos z]
      refine ⟨by simp, fun y hy => ?_⟩
      rcases List.mem_cons.mp hy with e | e
      · omega
      · have := h2 y e; omega
    · rw [if_neg z]
      refine ⟨List.mem_cons_of_mem _ h1, fun y hy => ?_⟩
      rcases List.mem_cons.mp hy with e | e
      · omega
      · exact h2 y e
def gMaxL (ds : List D) : Option D := match listI ds with
  | some (a :: r) => some (.int (maxI (a :: r)))
  | _ => none
def gMinL (ds : List D) : Option D := match listI ds with
  | some (a :: r) => some (.int (minI (a :: r)))
  | _ => none
theorem sem_sum : CrS K mg (rSum K) gSum := by
  intro F bs H0 δ σ H ds d xs Q R r e q
  unfold gSum at e
  cases el : listI ds with
  | none => rw [el] at e; cases e
  | some ns =>
    rw [el] at e
    cases e
    obtain ⟨a, ex, t⟩ := r.ints el
    exact ⟨a, ns, ex, t, q _ H R .refl Rep.int⟩
theorem sem_all : CrS K mg (rAll K) gAll := by
  intro F bs H0 δ σ H ds d xs Q R r e q
  unfold gAll at e
  cases el : listB ds with
  | none => rw [el] at e; cases e
  | some ns =>
    rw [el] at e
    cases e
    obtain ⟨a, ex, t⟩ := r.bls el
    exact ⟨a, ns, ex, t, q _ H R .refl Rep.bl⟩
theorem sem_any : CrS K mg (rAny K) gAny := by
  intro F bs H0 δ σ H ds d xs Q R r e q
  unfold gAny at e
  cases el : listB ds with
  | none => rw [el] at e; cases e
  | some ns =>
    rw [el] at e
    cases e
    obtain ⟨a, ex, t⟩ := r.bls el
    exact ⟨a, ns, ex, t, q _ H R .refl Rep.bl⟩
theorem sem_maxL : CrS K mg (rMax K) gMaxL := by
  intro F bs H0 δ σ H ds d xs Q R r e q
  unfold gMaxL at e
  cases el : listI ds with
  | none => rw [el] at e; cases e
  | some ns =>
    rw [el] at e
    cases ns with
    | nil => cases e
    | cons b r' =>
      cases e
      obtain ⟨a, ex, t⟩ := r.ints el
      refine ⟨a, _, ex, t, by simp, fun m hm hb => ?_⟩
      obtain ⟨h1, h2⟩ := maxI_ok (l := b :: r') (by simp)
      have : m = maxI (b :: r') := Int.le_antisymm (h2 m hm) (hb _ h1)
      rw [this]
      exact q _ H R .refl Rep.int
theorem sem_minL : CrS K mg (rMin K) gMinL := by
  intro F bs H0 δ σ H ds d xs Q R r e q
  unfold gMinL at e
  cases el : listI ds with
  | none => rw [el] at e; cases e
  | some ns =>
    rw [el] at e
    cases ns with
    | nil => cases e
    | cons b r' =>
      cases e
      obtain ⟨a, ex, t⟩ := r.ints el
      refine ⟨a, _, ex, t, by simp, fun m hm hb => ?_⟩
      obtain ⟨h1, h2⟩ := minI_ok (l := b :: r') (by simp)
      have : m = minI (b :: r') := Int.le_antisymm (hb _ h1) (h2 m hm)
      rw [this]
      exact q _ H R .refl Rep.int
/-! ### sorted -/
def insI (a : Int) : List Int → List Int
  | [] => [a]
  | b :: r => if a ≤ b then a :: b :: r else b :: insI a r
def srtI : List Int → List Int
  | [] => []
  | a :: r => insI a (srtI r)
theorem insI_perm (a : Int) : ∀ l : List Int, (insI a l).Perm (a :: l)
  | [] => .refl _
  | b :: r => by
    unfold insI
    by_cases z : a ≤ b
    · rw [if_pos z]
    · rw [if_neg z]
      exact ((insI_perm a r).cons b).trans (.swap a b r)
theorem srtI_perm : ∀ l : List Int, (srtI l).Perm l
  | [] => .refl _
  | a :: r => (insI_perm a _).trans ((srtI_perm r).cons a)
theorem insI_up (a : Int) : ∀ {l : List Int}, l.Pairwise (· ≤ ·) → (insI a l).Pairwise (· ≤ ·)
  | [], _ => List.pairwise_singleton _ _
  | b :: r, h => by
    unfold insI
    obtain ⟨h1, h2⟩ := List.pairwise_cons.mp h
    by_cases z : a ≤ b
    · rw [if_pos z]
      exact List.pairwise_cons.mpr ⟨fun y hy => (List.mem_cons.mp hy).elim (fun e => e ▸ z) fun e => Int.le_trans z (h1 y e), h⟩
    · rw [if_neg z]
      refine List.pairwise_cons.mpr ⟨fun y hy => ?_, insI_up a h2⟩
      rcases List.mem_cons.mp ((insI_perm a r).mem_iff.mp hy) with e | e
      · omega
      · exact h1 y e
theorem srtI_up : ∀ l : List Int, (srtI l).Pairwise (· ≤ ·)
  | [] => List.Pairwise.nil
  | a :: r => insI_up a (srtI_up r)
def nSorted (ds : List D) : Option Ob := match listI ds with
  | some ns => some (.lst ((srtI ns).map D.int))
  | none => none
theorem sem_sorted : CrN K mg (rSortedI K) nSorted := by
  intro F bs H0 δ σ H ds c xs Q R r e q
  unfold nSorted at e
  cases el : listI ds with
  | none => rw [el] at e; cases e
  | some ns =>
    rw [el] at e
    cases e
    obtain ⟨a, ex, t⟩ := r.ints el
    refine ⟨a, ns, ex, t, fun ns' p hp up hn => ?_⟩
    have : ns' = srtI ns := List.Perm.eq_of_pairwise (fun _ _ _ _ h1 h2 => Int.le_antisymm h1 h2) up (srtI_up ns) (hp.trans (srtI_perm ns).symm)
    rw [this]
    exact q p _ hn ⟨_, rfl, RepL.ints.mpr rfl⟩
end
end DL
set_option Elab.async false
set_option linter.all false
set_option maxRecDepth 100000
set_option maxHeartbeats 4000000
/-! DL: enumerate, zip, ranges. -/
namespace DL
open PySem PySem.Spec L2
open PyProof.Rows hiding St

theorem meets_enum1 {v : Value} {o : Obj} {H : Heap → Prop} (B : Begins v o H) :
    Meets (Builtin.«enumerate.__new__» ⟨[.type "enumerate", v], []⟩) (fun _ R s => H s.heap ∧
      R (.ok (.ret (.ref (s.heap.push o).objs.size))) { s with heap := (s.heap.push o).push { cls := .type "enumerate", data := .fields #[.none, .bool false, .ref s.heap.objs.size, rawInt 0, .none, .none] } }) :=
  .of_wp fun prog w A R s h => by
    obtain ⟨hp, g, d, tk, os⟩ := s; obtain ⟨h1, h⟩ := h
    have hsub := sub_enumerate
    have q1 : ∀ {A' : Around} {E : Value → Shared → Prop} {Q : Value → Shared → Prop}, Q (.ref hp.objs.size) ⟨hp.push o, g, d, tk, os⟩ → wpAny (model prog w) A' (pyIter v) Q E ⟨hp, g, d, tk, os⟩ :=
      fun q => B.iter prog w _ _ ⟨hp, g, d, tk, os⟩ _ h1 q
    wp_walk using q1
    refine wpAny_stack_any fun st => wpAny_pure ?_
    split
    · rename_i c _ _ _ _ _
      cases (c == Value.type "enumerate")
      · wp_walk using q1
        exact ⟨_, rfl, h⟩
      · wp_walk using q1
        exact ⟨_, rfl, h⟩
    · wp_walk using q1
      exact ⟨_, rfl, h⟩
theorem enum1_begins {prog : Program} {w : World} {A : Around} {E : Value → Shared → Prop} {s : Shared} {v : Value} {o : Obj} {H : Heap → Prop} {Q : Value → Shared → Prop} (B : Begins v o H) (h1 : H s.heap)
    (h : ∀ h', IsEnum h' (s.heap.objs.size + 1) s.heap.objs.size 0 .none → h'.get? s.heap.objs.size = some o → h'.objs.size = s.heap.objs.size + 2 →
      (∀ b o, s.heap.get? b = some o → h'.get? b = some o) → Q (.ref (s.heap.objs.size + 1)) { s with heap := h' }) :
    wpAny (model prog w) A (call (.type "enumerate") [v]) Q E s := by
  refine callType_new F.called_enumerate (by decide) (F.typeCall_enumerate_1 _) (F.newCall_enumerate_1 _) (fun obj => F.args_object_init_2 obj _) F.entry_enumerate_new
    (meets_enum1 B) ⟨h1, ?_⟩
  have hz : (s.heap.push o).objs.size = s.heap.objs.size + 1 := Heap.size_push ..
  show _ ∧ _
  rw [hz]
  have he : IsEnum ((s.heap.push o).push { cls := .type "enumerate", data := .fields #[.none, .bool false, .ref s.heap.objs.size, rawInt 0, .none, .none] }) (s.heap.objs.size + 1) s.heap.objs.size 0 .none := by
    have := Heap.get?_push_size (s.heap.push o) (o := { cls := .type "enumerate", data := .fields #[.none, .bool false, .ref s.heap.objs.size, rawInt 0, .none, .none] }) rfl
    rw [hz] at this; exact this
  refine ⟨⟨_, he, rfl⟩, h _ he (Heap.get?_push_of_some _ (Heap.get?_push_size _ B.free)) (by rw [Heap.size_push, hz]) fun b o x => Heap.get?_push_of_some _ (Heap.get?_push_of_some _ x)⟩
/-- the tuple at a, each item in a new pair -/
def IteT (K : PySem.W.Frag) (a : Addr) : It :=
  ⟨fun i H => ∃ (xs : List V) (x : V), SqT K H a xs ∧ xs[i]? = some x, fun i H v H' => ∃ T x, v = .ref T ∧ H T = none ∧ H' = upd H T (.tup [.int (i : Nat), x]) ∧ ∀ xs, SqT K H a xs → xs[i]? = some x, fun i H => ∃ xs : List V, SqT K H a xs ∧ xs.length ≤ i⟩
theorem turn_enumT {P : Program} {w : World} {K : PySem.W.Frag} {elts : List Expr} {kk : Nat} {tpos : Pos} (a e it : Addr) :
    Turn P w K (.Tuple elts kk tpos) (IteT K a) [e, it] e (fun i h => (∃ old, IsEnum h e it ((i : Nat) : Int) old) ∧ h.IsTupleIter it a i ∧ e ≠ it ∧ a ≠ it ∧ a ≠ e) where
  mem := by simp
  obj := fun i h st b hb => by
    obtain ⟨⟨old, he⟩, ⟨o, ho, hc, hd⟩, _⟩ := st
    have e' : b = e ∨ b = it := by simpa using hb
    rcases e' with z | z
    · rw [z]; exact ⟨_, he, fun v q => nomatch q⟩
    · rw [z]; exact ⟨o, ho, fun v q => by rw [hd] at q; cases q⟩
  keep := fun i h h' st k => let ⟨⟨old, he⟩, hi, hne⟩ := st; ⟨⟨old, k e (by simp) _ he⟩, hi.at fun o q => k it (by simp) o q, hne⟩
  item := by
    intro X hP hw hK hc i pins s σ H E I hf st hg
    subst hP hw hK
    obtain ⟨⟨old, he⟩, hit, hne, hai, hae⟩ := st
    obtain ⟨xs, x, hq, hx⟩ := hg
    obtain ⟨its, rv, p, hz⟩ := I.tuple hq
    obtain ⟨u, hu, ru⟩ := rv.get hx
    have hel : e < s.heap.objs.size := Heap.lt_size he
    have hil : it < s.heap.objs.size := by obtain ⟨_, q, _⟩ := hit; exact Heap.lt_size q
    have hlt : i < its.length := (List.getElem?_eq_some_iff.mp hu).1
    refine wpAny_pyNext_enum_itemC (Draws.tuple (prog := X.prog) (w := X.w) (A := X.A.in1) (show X.A.in1.handled = none from I.ok.hd hc) it a hai its.toArray) he (And.intro hit (show s.heap.IsTuple a its.toArray from p)) (show i < its.toArray.size by simpa using hlt) hne (by simp [hne, Ne.symm hae]) fun y h' tk hy ho hst' hT hsz hk => ?_
    have ey : y = u := by
      have : some y = some u := by rw [← hu, ← hy]; simp
      exact Option.some.inj this
    subst ey
    obtain ⟨hit', hta⟩ := hst'
    refine ⟨_, rfl, wpAny_letOwnedTupleGo_enum (s := { s with heap := h', toks := tk + 1 }) ho fun h'' he' sb => ?_⟩
    have hT2 : h''.get? s.heap.objs.size = some { cls := .type "tuple", data := .seq #[.int i tk, y] } := (sb.2 _ (Nat.ne_of_gt hel)).trans hT
    have new : ObjOk X.prog X.w (upd H s.heap.objs.size (.tup [.int (i : Nat), x])) h'' s.heap.objs.size (.tup [.int (i : Nat), x]) :=
      ⟨by show 2 ≤ sizeLine; decide, [.int i tk, y], .cons ⟨_, rfl⟩ (.cons ru .nil), ⟨_, hT2, rfl, _, rfl⟩⟩
    have I1 : Inv X pins σ (upd H s.heap.objs.size (.tup [.int (i : Nat), x])) { s with heap := h'', toks := tk + 1 } :=
      I.turnedNew (ch := [e, it]) (fun b ob hb q => (sb.2 b (fun z => hb (by simp [z]))).trans (hk b ob (fun z => hb (by simp [z])) (fun z => hb (by simp [z])) q)) hf (Nat.le_refl _) new
    refine ⟨.ref s.heap.objs.size, _, I1, rfl, ⟨_, x, rfl, I.hok.fresh (Nat.le_refl _), rfl, fun ys hy => by rw [I.tuple_inj hy hq]; exact hx⟩, ⟨⟨y, ?_⟩, hit'.at fun o q => (sb.2 it (Ne.symm hne)).trans q, hne, hai, hae⟩, fun b hb => ?_⟩
    · have e1 : ((i + 1 : Nat) : Int) = (i : Int) + 1 := by omega
      rw [e1]; exact he'
    · have hb' : b < s.heap.objs.size := by
        have e' : b = e ∨ b = it := by simpa using hb
        rcases e' with z | z
        · rw [z]; exact hel
        · rw [z]; exact hil
      rw [upd_ne (Nat.ne_of_lt hb')]
      exact (hf b hb).1
  done := by
    intro X hP hw hK hc i pins s σ H E I hf st hg
    subst hP hw hK
    obtain ⟨⟨old, he⟩, hit, hne, hai, hae⟩ := st
    obtain ⟨xs, hq, hx⟩ := hg
    obtain ⟨its, rv, p, hz⟩ := I.tuple hq
    obtain ⟨f0, f1, f2, f3, f4, f5⟩ := hf it (by simp)
    have hl := rv.length
    have hT : s.TypeIs (.ref e) "enumerate" := ⟨_, he, rfl⟩
    unfold pyNext
    refine wpAny_bind (wpAny_attempt (wpAny_callSpecial?_slot (name := Str.ofString "__next__") hT F.slot_enumerate_next
      (wpAny_call_entry F.slot_enumerate_next hT F.entry_enumerate_next ?_ (F.args_enumerate_next_1 _))))
    show wpAny _ _ (field (.ref e) 2 >>= _) _ _ _
    refine wpAny_bind (wpAny_field he rfl (x := .ref it) rfl ?_)
    refine wpAny_bind (RZ.nextOf_tuple_end (I.ok.hd hc) hit (show s.heap.IsTuple a its.toArray from p) (by simp; omega) fun h' x he' hx' => ?_)
    obtain ⟨o, ho, hcc⟩ := hx'
    refine wpAny_bind (wpAny_isInstance (T := "StopIteration") (b := true) ⟨o, ho, hcc⟩ isSubtype_stop ?_)
    exact wpAny_pure ⟨rfl, I.turned (t' := s.toks) (fun b o hb q => he' b o hb q) f0 f1 f3 f4 f5⟩
  self := fun A i s Q E st h => let ⟨⟨_, he⟩, _⟩ := st; wpAny_pyIter_enum he h
def iEnumA (K : PySem.W.Frag) (ta : TA) : TI := fun σ H R => ta σ H fun vs H1 => ∃ a xs, vs = [.ref a] ∧ ((SqL K H1 a xs ∧ R (Ite K a) H1) ∨ (SqT K H1 a xs ∧ R (IteT K a) H1))
theorem pi_enumA {X : Cx} {e : Expr} {ta : TA} {p pos tpos : Pos} {elts : List Expr} {kk : Nat} (hg : Gl X "enumerate") (hm : X.mg "enumerate" = none) (ha : PA X [e] ta) (hs : starEach [e] X.env = [(false, eval e X.env)] := by rfl) :
    PI X (.Tuple elts kk tpos) (.Call (.Name "enumerate" p) [e] [] pos) (iEnumA X.K ta) := by
  refine ⟨fun pins s σ H R I h => ?_⟩
  refine Call_ (ld_blt I hg hm boot_enumerate (PyProof.Rows.callWith_type1 (thn (ha.run pos pins s σ H _ I h) fun us s1 ⟨vs, H1, I1, r1, q1⟩ => ?_) hs rfl))
  obtain ⟨a, xs, ex, q⟩ := q1
  subst ex
  cases r1 with
  | cons r rr =>
    cases rr
    cases r
    have fp2 : ∀ b, b ∈ [s1.heap.objs.size + 1, s1.heap.objs.size] → FpOk X pins H1 b := fun b hb => by
      have e' : b = s1.heap.objs.size + 1 ∨ b = s1.heap.objs.size := by simpa using hb
      have hle : s1.heap.objs.size ≤ b := by
        rcases e' with z | z
        · rw [z]; exact Nat.le_add_right _ _
        · rw [z]; exact Nat.le_refl _
      exact I1.fpOk hle (I1.hok.fresh hle)
    rcases q with ⟨hq, q⟩ | ⟨hq, q⟩
    · obtain ⟨its, rv, p', hz⟩ := I1.list hq
      refine call_enumerate_list p'.isList fun h' he hit hsz hk => wpAny_pyIter_enum he ?_
      have I2 : Inv X pins σ H1 { s1 with heap := h' } := I1.kept (t' := s1.toks) hk
      exact ⟨s1.heap.objs.size + 1, [s1.heap.objs.size + 1, s1.heap.objs.size], _, _, H1, rfl, I2, turn_enum a (s1.heap.objs.size + 1) s1.heap.objs.size, ⟨⟨.none, he⟩, hit, Nat.succ_ne_self _⟩, fp2, q⟩
    · obtain ⟨its, rv, p', hz⟩ := I1.tuple hq
      have hal : a < s1.heap.objs.size := by obtain ⟨o, ho, _⟩ := id p'; exact Heap.lt_size ho
      refine enum1_begins (begins_tuple a its.toArray) (show s1.heap.IsTuple a its.toArray from p') fun h' he hit hsz hk => wpAny_pyIter_enum he ?_
      have I2 : Inv X pins σ H1 { s1 with heap := h' } := I1.kept (t' := s1.toks) hk
      exact ⟨s1.heap.objs.size + 1, [s1.heap.objs.size + 1, s1.heap.objs.size], _, _, H1, rfl, I2, turn_enumT a (s1.heap.objs.size + 1) s1.heap.objs.size, ⟨⟨.none, he⟩, ⟨_, hit, rfl, rfl⟩, Nat.succ_ne_self _, Nat.ne_of_lt hal, Nat.ne_of_lt (Nat.lt_succ_of_lt hal)⟩, fp2, q⟩
end DL
set_option Elab.async false
set_option linter.all false
set_option maxRecDepth 100000
set_option maxHeartbeats 4000000
/-! DL: what is walked, more. -/
namespace DL
open PySem PySem.Spec L2
open PyProof.Rows hiding St

section
variable {X : Cx} {W : WX} {K : PySem.W.Frag} {mg : Str → Option Value} {pos : Pos} {tg : Expr} {F : AP} {bs : List Addr} {H0 H H' : Hp} {δ δ' : List Sl} {σ σ' : St}
/-- the list (the tuple, where tp) at p, as it stands later -/
def LAt (K : PySem.W.Frag) (mg : Str → Option Value) (F : AP) (bs : List Addr) (H0 : Hp) (σ : St) (tp : Bool) (p : Addr) (l : List D) (g : List (Nat × List D)) (δ : List Sl) (H : Hp) : Prop :=
  ∀ F' δ' σ' H', (∀ a, F a → F' a) → (∀ a o, H a = some o → F' a → F a) → Rel K mg F' bs H0 δ' σ' H' → Keep bs δ σ H δ' σ' H' → (∀ q, q ∈ g → σ'[q.1]? = σ[q.1]? ∧ obAt δ' q.1 = some (.lst q.2)) →
    ∃ xs, (if tp then SqT K H' p xs else SqL K H' p xs) ∧ RepL K mg (AA F' δ' σ') H' l xs
/-- a sequence: tuple?, items, guard -/
def srcD (δ : List Sl) : Ag → Option (Bool × List D × List (Nat × List D))
  | .v (.lst l) => some (false, l, [])
  | .v (.frl l) => some (false, l, [])
  | .v (.tup l) => some (true, l, [])
  | .s i => match lstAt δ i with
    | some l => some (false, l, [(i, l)])
    | none => none
  | _ => none
theorem src_at (R : Rel K mg F bs H0 δ σ H) {a : Ag} {x : V} (h : AgR K mg F δ σ H a x) {tp : Bool} {l : List D} {g : List (Nat × List D)} (e : srcD δ a = some (tp, l, g)) :
    ∃ p xs, x = .ref p ∧ (if tp then SqT K H p xs else SqL K H p xs) ∧ xs.length = l.length ∧ LAt K mg F bs H0 σ tp p l g δ H := by
  cases a with
  | s i =>
    simp only [srcD] at e
    cases el : lstAt δ i with
    | none => rw [el] at e; cases e
    | some m =>
      rw [el] at e
      cases e
      have h' : σ[i]? = some (some x) := h
      obtain ⟨p, xs, e1, e2, r⟩ := R.lstAt el
      rw [h'] at e1
      cases e1
      refine ⟨p, xs, rfl, .inl (.inl e2), r.len, fun F' δ' σ' H' h1 h2 R' k gg => ?_⟩
      obtain ⟨g1, g2⟩ := gg (i, l) (by simp)
      obtain ⟨p', o, f1, f2, ⟨ys, eo, r'⟩, _⟩ := R'.obj g2
      subst eo
      rw [g1, h'] at f1
      cases f1
      exact ⟨ys, .inl (.inl f2), r'⟩
  | v d =>
    cases d with
    | lst m =>
      cases e
      simp only [AgR, Rep] at h
      obtain ⟨p, xs, ex, t, r⟩ := h
      refine ⟨p, xs, ex, t.sq, r.len, fun F' δ' σ' H' h1 h2 R' k gg => ?_⟩
      have m := mv_up R.bsF h2 k
      exact ⟨xs, (t.mv m).sq, r.mv m⟩
    | frl m =>
      cases e
      simp only [AgR, Rep] at h
      obtain ⟨p, xs, ex, t, r⟩ := h
      refine ⟨p, xs, ex, t.sq, r.len, fun F' δ' σ' H' h1 h2 R' k gg => ?_⟩
      have m := mv_up R.bsF h2 k
      exact ⟨xs, (t.mv m).sq, r.mv m⟩
    | tup m =>
      cases e
      simp only [AgR, Rep] at h
      obtain ⟨p, xs, ex, t, r⟩ := h
      refine ⟨p, xs, ex, t.sq, r.len, fun F' δ' σ' H' h1 h2 R' k gg => ?_⟩
      have m := mv_up R.bsF h2 k
      exact ⟨xs, (t.mv m).sq, r.mv m⟩
    | non => cases e
    | bl _ => cases e
    | int _ => cases e
    | str _ => cases e
    | ty _ => cases e
    | cl _ => cases e
    | dct _ _ => cases e
    | obj _ _ _ => cases e
    | exc _ _ _ => cases e
/-! ### enumerate -/
def enumD (l : List D) : List D := l.zipIdx.map fun p => .tup [.int (p.2 : Nat), p.1]
theorem enumD_len {l : List D} : (enumD l).length = l.length := by simp [enumD]
theorem enumD_get {l : List D} {i : Nat} {d : D} (h : (enumD l)[i]? = some d) : ∃ x, l[i]? = some x ∧ d = .tup [.int (i : Nat), x] := by
  unfold enumD at h
  rw [List.getElem?_map, List.getElem?_zipIdx] at h
  cases e : l[i]? with
  | none => rw [e] at h; cases h
  | some x => rw [e] at h; simp at h; exact ⟨x, rfl, h.symm⟩
theorem pair_rep (R : Rel K mg F bs H0 δ σ H) {a b : D} {x y : V} (ra : Rep K mg (AA F δ σ) H a x) (rb : Rep K mg (AA F δ σ) H b y) {T : Addr} (hT : H T = none) :
    Rel K mg F bs H0 δ σ (upd H T (.tup [x, y])) ∧ Keep bs δ σ H δ σ (upd H T (.tup [x, y])) ∧ Rep K mg (AA F δ σ) (upd H T (.tup [x, y])) (.tup [a, b]) (.ref T) :=
  R.tup (RepL.cons ra (RepL.cons rb RepL.nil)) hT
theorem jok_enum {p : Addr} {l : List D} {g : List (Nat × List D)} (L : LAt K mg F bs H0 σ false p l g δ H) : JOk K mg F bs H0 σ ⟨enumD l, g⟩ δ (Ite K p) H := by
  intro F' δ' σ' H' h1 h2 R k gg
  obtain ⟨xs, t, r⟩ := L F' δ' σ' H' h1 h2 R k gg
  have t : SqL K H' p xs := t
  refine ⟨⟨xs, t, by show _ ≤ (enumD l).length; rw [enumD_len, r.len]; exact Nat.le_refl _⟩, fun i d e => ?_⟩
  obtain ⟨y, ey, ed⟩ := enumD_get e
  obtain ⟨x, ex, rx⟩ := r.get ey
  refine ⟨⟨xs, x, t, ex⟩, fun v H'' q => ?_⟩
  obtain ⟨T, x', ev, hT, eH, q⟩ := q
  have := q xs t
  rw [ex] at this
  cases this
  subst ev eH ed
  exact pair_rep R Rep.int rx hT
theorem jok_enumT {p : Addr} {l : List D} {g : List (Nat × List D)} (L : LAt K mg F bs H0 σ true p l g δ H) : JOk K mg F bs H0 σ ⟨enumD l, g⟩ δ (IteT K p) H := by
  intro F' δ' σ' H' h1 h2 R k gg
  obtain ⟨xs, t, r⟩ := L F' δ' σ' H' h1 h2 R k gg
  have t : SqT K H' p xs := t
  refine ⟨⟨xs, t, by show _ ≤ (enumD l).length; rw [enumD_len, r.len]; exact Nat.le_refl _⟩, fun i d e => ?_⟩
  obtain ⟨y, ey, ed⟩ := enumD_get e
  obtain ⟨x, ex, rx⟩ := r.get ey
  refine ⟨⟨xs, x, t, ex⟩, fun v H'' q => ?_⟩
  obtain ⟨T, x', ev, hT, eH, q⟩ := q
  have := q xs t
  rw [ex] at this
  cases this
  subst ev eH ed
  exact pair_rep R Rep.int rx hT
def iEnum (f : SA) : SI := fun δ => (f δ).bind fun as δ1 => match as with
  | [a] => match srcD δ1 a with
    | some (_, l, g) => .ok ⟨enumD l, g⟩ δ1
    | none => .bad
  | _ => .bad
theorem AgsR.one {a : Ag} {xs : List V} (h : AgsR K mg F δ σ H [a] xs) : ∃ x, xs = [x] ∧ AgR K mg F δ σ H a x := by
  obtain ⟨x, r, e1, p, e2⟩ := h
  obtain rfl : r = [] := e2
  exact ⟨x, e1, p⟩
theorem AgsR.two {a b : Ag} {xs : List V} (h : AgsR K mg F δ σ H [a, b] xs) : ∃ x y, xs = [x, y] ∧ AgR K mg F δ σ H a x ∧ AgR K mg F δ σ H b y := by
  obtain ⟨x, r, e1, p, y, r2, e2, p2, e3⟩ := h
  obtain rfl : r2 = [] := e3
  subst e2
  exact ⟨x, y, e1, p, p2⟩
theorem di_enum {e : Expr} {f : SA} {p tpos : Pos} {elts : List Expr} {kk : Nat} (hg : Gl X "enumerate") (hm : X.mg "enumerate" = none) (ha : DA X W [e] f) (hs : starEach [e] X.env = [(false, eval e X.env)] := by rfl) :
    DI X W (.Tuple elts kk tpos) (.Call (.Name "enumerate" p) [e] [] pos) (iEnum f) := (pi_enumA hg hm ha hs).imp fun σ H Q hh => by
  obtain ⟨F, bs, H0, δ, R, hh⟩ := hh
  refine ⟨F, bs, H0, δ, R, Post.imp (Post.first hh) fun xs H1 ⟨δ1, as, R1, k1, p, h1⟩ => ?_⟩
  match as, p, h1 with
  | [], p, h1 => exact h1.elim
  | _ :: _ :: _, p, h1 => exact h1.elim
  | [a], p, h1 =>
    obtain ⟨x, ex, pa⟩ := p.one
    cases es : srcD δ1 a with
    | none => simp only [es] at h1; exact h1.elim
    | some t =>
      obtain ⟨tp, l, g⟩ := t
      simp only [es] at h1
      obtain ⟨q, ys, ev, t, _, L⟩ := src_at R1 pa es
      subst ev
      cases tp with
      | false => exact ⟨q, ys, ex, .inl ⟨t, h1 _ H1 R1 .refl (jok_enum L)⟩⟩
      | true => exact ⟨q, ys, ex, .inr ⟨t, h1 _ H1 R1 .refl (jok_enumT L)⟩⟩
/-! ### zip -/
def zipD (l m : List D) : List D := List.zipWith (fun a b => .tup [a, b]) l m
theorem zipD_len {l m : List D} : (zipD l m).length = min l.length m.length := by simp [zipD]
theorem zipD_get {l m : List D} {i : Nat} {d : D} (h : (zipD l m)[i]? = some d) : ∃ x y, l[i]? = some x ∧ m[i]? = some y ∧ d = .tup [x, y] := by
  unfold zipD at h
  rw [List.getElem?_zipWith] at h
  cases e : l[i]? with
  | none => rw [e] at h; simp at h
  | some x =>
    cases e2 : m[i]? with
    | none => rw [e, e2] at h; simp at h
    | some y => rw [e, e2] at h; simp at h; exact ⟨x, y, rfl, rfl, h.symm⟩
theorem jok_zip {p q : Addr} {l m : List D} {g g' : List (Nat × List D)} (L : LAt K mg F bs H0 σ false p l g δ H) (M : LAt K mg F bs H0 σ false q m g' δ H) : JOk K mg F bs H0 σ ⟨zipD l m, g ++ g'⟩ δ (Itz K p q) H := by
  intro F' δ' σ' H' h1 h2 R k gg
  obtain ⟨xs, t, r⟩ := L F' δ' σ' H' h1 h2 R k fun z hz => gg z (List.mem_append_left _ hz)
  obtain ⟨ys, t2, r2⟩ := M F' δ' σ' H' h1 h2 R k fun z hz => gg z (List.mem_append_right _ hz)
  have t : SqL K H' p xs := t
  have t2 : SqL K H' q ys := t2
  refine ⟨⟨xs, ys, t, t2, ?_⟩, fun i d e => ?_⟩
  · show xs.length ≤ (zipD l m).length ∨ ys.length ≤ (zipD l m).length
    rw [zipD_len, r.len, r2.len]
    omega
  · obtain ⟨x, y, ex, ey, ed⟩ := zipD_get e
    obtain ⟨vx, e1, rx⟩ := r.get ex
    obtain ⟨vy, e2, ry⟩ := r2.get ey
    refine ⟨⟨xs, ys, vx, vy, t, t2, e1, e2⟩, fun v H'' q => ?_⟩
    obtain ⟨T, x', y', ev, hT, eH, q1, q2⟩ := q
    have z1 := q1 xs t
    have z2 := q2 ys t2
    rw [e1] at z1
    rw [e2] at z2
    cases z1
    cases z2
    subst ev eH ed
    exact pair_rep R rx ry hT
theorem jok_zipT {p q : Addr} {l m : List D} {g g' : List (Nat × List D)} (L : LAt K mg F bs H0 σ true p l g δ H) (M : LAt K mg F bs H0 σ true q m g' δ H) : JOk K mg F bs H0 σ ⟨zipD l m, g ++ g'⟩ δ (RZ.ItzT K p q) H := by
  intro F' δ' σ' H' h1 h2 R k gg
  obtain ⟨xs, t, r⟩ := L F' δ' σ' H' h1 h2 R k fun z hz => gg z (List.mem_append_left _ hz)
  obtain ⟨ys, t2, r2⟩ := M F' δ' σ' H' h1 h2 R k fun z hz => gg z (List.mem_append_right _ hz)
  have t : SqT K H' p xs := t
  have t2 : SqT K H' q ys := t2
  refine ⟨⟨xs, ys, t, t2, ?_⟩, fun i d e => ?_⟩
  · show xs.length ≤ (zipD l m).length ∨ ys.length ≤ (zipD l m).length
    rw [zipD_len, r.len, r2.len]
    omega
  · obtain ⟨x, y, ex, ey, ed⟩ := zipD_get e
    obtain ⟨vx, e1, rx⟩ := r.get ex
    obtain ⟨vy, e2, ry⟩ := r2.get ey
    refine ⟨⟨xs, ys, vx, vy, t, t2, e1, e2⟩, fun v H'' q => ?_⟩
    obtain ⟨T, x', y', ev, hT, eH, q1, q2⟩ := q
    have z1 := q1 xs t
    have z2 := q2 ys t2
    rw [e1] at z1
    rw [e2] at z2
    cases z1
    cases z2
    subst ev eH ed
    exact pair_rep R rx ry hT
def iZip (f : SA) : SI := fun δ => (f δ).bind fun as δ1 => match as with
  | [a, b] => match srcD δ1 a, srcD δ1 b with
    | some (t, l, g), some (t', m, g') => if t = t' then .ok ⟨zipD l m, g ++ g'⟩ δ1 else .bad
    | _, _ => .bad
  | _ => .bad
theorem di_zip {e e2 : Expr} {f : SA} {p tpos : Pos} {elts : List Expr} {kk : Nat} (hg : Gl X "zip") (hm : X.mg "zip" = none) (ha : DA X W [e, e2] f)
    (hs : starEach [e, e2] X.env = (false, eval e X.env) :: starEach [e2] X.env := by rfl) (hpl : (backTo pos (starEach [e2] X.env)).any (·.1) = false := by rfl) :
    DI X W (.Tuple elts kk tpos) (.Call (.Name "zip" p) [e, e2] [] pos) (iZip f) := (RZ.pi_zipA hg hm ha hs hpl).imp fun σ H Q hh => by
  obtain ⟨F, bs, H0, δ, R, hh⟩ := hh
  refine ⟨F, bs, H0, δ, R, Post.imp (Post.first hh) fun xs H1 ⟨δ1, as, R1, k1, p, h1⟩ => ?_⟩
  match as, p, h1 with
  | [], p, h1 => exact h1.elim
  | [_], p, h1 => exact h1.elim
  | _ :: _ :: _ :: _, p, h1 => exact h1.elim
  | [a, b], p, h1 =>
    obtain ⟨x, y, ex, pa, pb⟩ := p.two
    cases ea : srcD δ1 a with
    | none => simp only [ea] at h1; exact h1.elim
    | some t =>
      cases eb : srcD δ1 b with
      | none => simp only [ea, eb] at h1; exact h1.elim
      | some t' =>
        obtain ⟨tp, l, g⟩ := t
        obtain ⟨tp', m, g'⟩ := t'
        simp only [ea, eb] at h1
        by_cases z : tp = tp'
        · rw [if_pos z] at h1
          subst z
          obtain ⟨q, ys, ev, t, _, L⟩ := src_at R1 pa ea
          obtain ⟨q', ys', ev', t', _, M⟩ := src_at R1 pb eb
          subst ev ev'
          cases tp with
          | false => exact ⟨q, q', ys, ys', ex, .inl ⟨t, t', h1 _ H1 R1 .refl (jok_zip L M)⟩⟩
          | true => exact ⟨q, q', ys, ys', ex, .inr ⟨t, t', h1 _ H1 R1 .refl (jok_zipT L M)⟩⟩
        · rw [if_neg z] at h1; exact h1.elim
/-! ### reversed(range(n)) -/
def iRevR1 (f : SE) : SI := fun δ => (f δ).bind fun a δ1 => match a with
  | .v (.int n) => if small62 n then .ok ⟨rngD (n.toNat - 1) (-1) n.toNat, []⟩ δ1 else .bad
  | _ => .bad
theorem di_revR1 {a : Expr} {f : SE} {p q pos2 : Pos} (hg : Gl X "reversed") (hm : X.mg "reversed" = none) (hg2 : Gl X "range") (hm2 : X.mg "range" = none) (ha : DE X W a f) (na : starEach [a] X.env = (false, eval a X.env) :: starEach [] X.env := by rfl)
    (hs : starEach [(.Call (.Name "range" p) [a] [] pos)] X.env = (false, eval (.Call (.Name "range" p) [a] [] pos) X.env) :: starEach [] X.env := by rfl) : DI X W tg (.Call (.Name "reversed" q) [.Call (.Name "range" p) [a] [] pos] [] pos2) (iRevR1 f) :=
  (pi_revR hg hm (prg_1 hg2 hm2 ha na) hs).imp fun σ H Q hh => by
  obtain ⟨F, bs, H0, δ, R, hh⟩ := hh
  refine ⟨F, bs, H0, δ, R, Post.imp (Post.first hh) fun x H1 ⟨δ1, a, R1, k1, p, h1⟩ => ?_⟩
  split at h1
  · rename_i n
    by_cases z : small62 n = true
    · rw [if_pos z] at h1
      obtain ⟨z1, z2⟩ := small62_ok z
      refine ⟨n, by simpa only [AgR, Rep] using p, by decide, by decide, z1, z2, ?_⟩
      have e : (0 : Int) + (((n - 0).toNat : Nat) : Int) - 1 = (n.toNat : Int) - 1 := by rw [Int.sub_zero, Int.zero_add]
      rw [e, Int.sub_zero]
      exact h1 _ H1 R1 .refl jok_rngC
    · rw [if_neg z] at h1; exact h1.elim
  · exact h1.elim
/-! ### range(i, j, c) -/
def okRng3 (i j c : Int) : Bool := decide (c ≠ 0) && decide (c.natAbs < 1073741824) && Builtin.Range.small i j c && decide (0 ≤ Builtin.Range.rangeSize i j c)
def iRng3 (f : SA) : SI := fun δ => (f δ).bind fun as δ1 => match as with
  | [.v (.int i), .v (.int j), .v (.int c)] => if okRng3 i j c then .ok ⟨rngD i c (Builtin.Range.rangeSize i j c).toNat, []⟩ δ1 else .bad
  | _ => .bad
theorem args3 {as : List Ag} {xs : List V} {d d' d'' : D} (h : AgsR K mg F δ σ H as xs) (e : as = [.v d, .v d', .v d'']) : ∃ x y z, xs = [x, y, z] ∧ Rep K mg (AA F δ σ) H d x ∧ Rep K mg (AA F δ σ) H d' y ∧ Rep K mg (AA F δ σ) H d'' z := by
  subst e
  obtain ⟨x, r, e1, p, y, r2, e2, p2, z, r3, e3, p3, e4⟩ := h
  obtain rfl : r3 = [] := e4
  subst e3 e2
  exact ⟨x, y, z, e1, p, p2, p3⟩
theorem di_rng3 {a b c : Expr} {f : SA} {p : Pos} (hg : Gl X "range") (hm : X.mg "range" = none) (ha : DA X W [a, b, c] f)
    (hs : starEach [a, b, c] X.env = (false, eval a X.env) :: starEach [b, c] X.env := by rfl) (hpl : (backTo pos (starEach [b, c] X.env)).any (·.1) = false := by rfl) :
    DI X W tg (.Call (.Name "range" p) [a, b, c] [] pos) (iRng3 f) := (pi_range3 hg hm ha hs hpl).imp fun σ H Q hh => by
  obtain ⟨F, bs, H0, δ, R, hh⟩ := hh
  refine ⟨F, bs, H0, δ, R, Post.imp (Post.first hh) fun xs H1 ⟨δ1, as, R1, k1, p, h1⟩ => ?_⟩
  split at h1
  · rename_i i j c
    obtain ⟨x, y, z, e, r, r', r''⟩ := args3 p rfl
    simp only [Rep] at r r' r''
    subst r r' r'' e
    by_cases z : okRng3 i j c = true
    · rw [if_pos z] at h1
      simp only [okRng3, Bool.and_eq_true, decide_eq_true_eq] at z
      exact ⟨i, j, c, _, rfl, ⟨z.1.1.1, z.1.1.2, z.1.2, (Int.toNat_of_nonneg z.2).symm⟩, h1 _ H1 R1 .refl jok_rngC⟩
    · rw [if_neg z] at h1; exact h1.elim
  · exact h1.elim
end
end DL
set_option Elab.async false
set_option linter.all false
set_option maxRecDepth 100000
set_option maxHeartbeats 4000000
/-! DL: rules in short. -/
namespace DL
open PySem PySem.Spec L2
open PyProof.Rows hiding St

section
variable {X : Cx} {W : WX} {K : PySem.W.Frag} {mg : Str → Option Value} {p p2 p3 pos tpos : Pos} {a b c e : Expr} {es : List Expr} {fa : SA} {f g : SE} {σ : St} {H : Hp}
theorem b_len : bootBuiltins "len" = some (.builtin "len") := by decide +kernel
theorem b_isi : bootBuiltins "isinstance" = some (.builtin "isinstance") := by decide +kernel
theorem b_int : bootBuiltins "int" = some (.type "int") := by decide +kernel
theorem b_bool : bootBuiltins "bool" = some (.type "bool") := by decide +kernel
theorem b_str : bootBuiltins "str" = some (.type "str") := by decide +kernel
theorem b_list : bootBuiltins "list" = some (.type "list") := by decide +kernel
theorem b_tuple : bootBuiltins "tuple" = some (.type "tuple") := by decide +kernel
theorem b_abs : bootBuiltins "abs" = some (.builtin "abs") := by decide +kernel
theorem b_max : bootBuiltins "max" = some (.builtin "max") := by decide +kernel
theorem b_min : bootBuiltins "min" = some (.builtin "min") := by decide +kernel
theorem b_sum : bootBuiltins "sum" = some (.builtin "sum") := by decide +kernel
theorem b_all : bootBuiltins "all" = some (.builtin "all") := by decide +kernel
theorem b_any : bootBuiltins "any" = some (.builtin "any") := by decide +kernel
theorem b_sorted : bootBuiltins "sorted" = some (.builtin "sorted") := by decide +kernel
theorem de_len (hm : X.mg "len" = none) (hg : Gl X "len") (ha : DA X W [a] fa) (he : starEach [a] X.env = (false, eval a X.env) :: starEach [] X.env := by rfl) (hpl : (backTo pos (starEach [] X.env)).any (·.1) = false := by rfl) : DE X W (.Call (.Name "len" p) [a] [] pos) (eCB gLen1 fa) :=
  de_callB call_len sem_len hg hm b_len ha (by decide) (by decide) he hpl
theorem de_isi (hm : X.mg "isinstance" = none) (hg : Gl X "isinstance") (ha : DA X W [a, b] fa) (he : starEach [a, b] X.env = (false, eval a X.env) :: starEach [b] X.env := by rfl) (hpl : (backTo pos (starEach [b] X.env)).any (·.1) = false := by rfl) :
    DE X W (.Call (.Name "isinstance" p) [a, b] [] pos) (eCB gIsi fa) := de_callB call_isi sem_isi hg hm b_isi ha (by decide) (by decide) he hpl
theorem de_toInt (hm : X.mg "int" = none) (hg : Gl X "int") (ha : DA X W [a] fa) (he : starEach [a] X.env = (false, eval a X.env) :: starEach [] X.env := by rfl) (hpl : (backTo pos (starEach [] X.env)).any (·.1) = false := by rfl) : DE X W (.Call (.Name "int" p) [a] [] pos) (eCB gInt fa) :=
  de_callTy call_int1 sem_int hg hm b_int ha (by decide) (by decide) he hpl
theorem de_abs (hm : X.mg "abs" = none) (hg : Gl X "abs") (ha : DA X W [a] fa) (he : starEach [a] X.env = (false, eval a X.env) :: starEach [] X.env := by rfl) (hpl : (backTo pos (starEach [] X.env)).any (·.1) = false := by rfl) : DE X W (.Call (.Name "abs" p) [a] [] pos) (eCB gAbs fa) :=
  de_callB call_abs sem_abs hg hm b_abs ha (by decide) (by decide) he hpl
theorem de_max2 (hm : X.mg "max" = none) (hc : X.calm = true) (hg : Gl X "max") (ha : DA X W [a, b] fa) (he : starEach [a, b] X.env = (false, eval a X.env) :: starEach [b] X.env := by rfl) (hpl : (backTo pos (starEach [b] X.env)).any (·.1) = false := by rfl) :
    DE X W (.Call (.Name "max" p) [a, b] [] pos) (eCB gMax2 fa) := de_callB (call_max2 hc) sem_max2 hg hm b_max ha (by decide) (by decide) he hpl
theorem de_min2 (hm : X.mg "min" = none) (hc : X.calm = true) (hg : Gl X "min") (ha : DA X W [a, b] fa) (he : starEach [a, b] X.env = (false, eval a X.env) :: starEach [b] X.env := by rfl) (hpl : (backTo pos (starEach [b] X.env)).any (·.1) = false := by rfl) :
    DE X W (.Call (.Name "min" p) [a, b] [] pos) (eCB gMin2 fa) := de_callB (call_min2 hc) sem_min2 hg hm b_min ha (by decide) (by decide) he hpl
theorem de_maxL (hm : X.mg "max" = none) (hc : X.calm = true) (hg : Gl X "max") (ha : DA X W [a] fa) (he : starEach [a] X.env = (false, eval a X.env) :: starEach [] X.env := by rfl) (hpl : (backTo pos (starEach [] X.env)).any (·.1) = false := by rfl) : DE X W (.Call (.Name "max" p) [a] [] pos) (eCB gMaxL fa) :=
  de_callB (cr_max hc) sem_maxL hg hm b_max ha (by decide) (by decide) he hpl
theorem de_minL (hm : X.mg "min" = none) (hc : X.calm = true) (hg : Gl X "min") (ha : DA X W [a] fa) (he : starEach [a] X.env = (false, eval a X.env) :: starEach [] X.env := by rfl) (hpl : (backTo pos (starEach [] X.env)).any (·.1) = false := by rfl) : DE X W (.Call (.Name "min" p) [a] [] pos) (eCB gMinL fa) :=
  de_callB (cr_min hc) sem_minL hg hm b_min ha (by decide) (by decide) he hpl
theorem de_sum (hm : X.mg "sum" = none) (hc : X.calm = true) (hg : Gl X "sum") (ha : DA X W [a] fa) (he : starEach [a] X.env = (false, eval a X.env) :: starEach [] X.env := by rfl) (hpl : (backTo pos (starEach [] X.env)).any (·.1) = false := by rfl) : DE X W (.Call (.Name "sum" p) [a] [] pos) (eCB gSum fa) :=
  de_callB (cr_sum hc) sem_sum hg hm b_sum ha (by decide) (by decide) he hpl
theorem de_all (hm : X.mg "all" = none) (hc : X.calm = true) (hg : Gl X "all") (ha : DA X W [a] fa) (he : starEach [a] X.env = (false, eval a X.env) :: starEach [] X.env := by rfl) (hpl : (backTo pos (starEach [] X.env)).any (·.1) = false := by rfl) : DE X W (.Call (.Name "all" p) [a] [] pos) (eCB gAll fa) :=
  de_callB (cr_all hc) sem_all hg hm b_all ha (by decide) (by decide) he hpl
theorem de_any (hm : X.mg "any" = none) (hc : X.calm = true) (hg : Gl X "any") (ha : DA X W [a] fa) (he : starEach [a] X.env = (false, eval a X.env) :: starEach [] X.env := by rfl) (hpl : (backTo pos (starEach [] X.env)).any (·.1) = false := by rfl) : DE X W (.Call (.Name "any" p) [a] [] pos) (eCB gAny fa) :=
  de_callB (cr_any hc) sem_any hg hm b_any ha (by decide) (by decide) he hpl
theorem de_tuple (hm : X.mg "tuple" = none) (hg : Gl X "tuple") (ha : DA X W [a] fa) (he : starEach [a] X.env = (false, eval a X.env) :: starEach [] X.env := by rfl) (hpl : (backTo pos (starEach [] X.env)).any (·.1) = false := by rfl) : DE X W (.Call (.Name "tuple" p) [a] [] pos) (eCB gTup1 fa) :=
  de_callTy call_tuple_of sem_tup hg hm b_tuple ha (by decide) (by decide) he hpl
theorem dn_list (hm : X.mg "list" = none) (hg : Gl X "list") (ha : DA X W [a] fa) (he : starEach [a] X.env = (false, eval a X.env) :: starEach [] X.env := by rfl) (hpl : (backTo pos (starEach [] X.env)).any (·.1) = false := by rfl) : DN X W (.Call (.Name "list" p) [a] [] pos) (nCB nListOf fa) :=
  dn_callTy call_list_of sem_list hg hm b_list ha (by decide) (by decide) he hpl
theorem dn_sorted (hm : X.mg "sorted" = none) (hg : Gl X "sorted") (ha : DA X W [a] fa) (he : starEach [a] X.env = (false, eval a X.env) :: starEach [] X.env := by rfl) (hpl : (backTo pos (starEach [] X.env)).any (·.1) = false := by rfl) : DN X W (.Call (.Name "sorted" p) [a] [] pos) (nCB nSorted fa) :=
  dn_callB cr_sortedI sem_sorted hg hm b_sorted ha (by decide) (by decide) he hpl
theorem de_bint (hm : X.mg "int" = none) (hg : Gl X "int") : DE X W (.Name "int" p) (eC (.ty "int")) := de_ty hg hm b_int
theorem de_bbool (hm : X.mg "bool" = none) (hg : Gl X "bool") : DE X W (.Name "bool" p) (eC (.ty "bool")) := de_ty hg hm b_bool
theorem de_bstr (hm : X.mg "str" = none) (hg : Gl X "str") : DE X W (.Name "str" p) (eC (.ty "str")) := de_ty hg hm b_str
theorem de_blist (hm : X.mg "list" = none) (hg : Gl X "list") : DE X W (.Name "list" p) (eC (.ty "list")) := de_ty hg hm b_list
theorem de_btuple (hm : X.mg "tuple" = none) (hg : Gl X "tuple") : DE X W (.Name "tuple" p) (eC (.ty "tuple")) := de_ty hg hm b_tuple
/-! ### isinstance(e, (A, B)) -/
def isiAny : D → List String → Option Bool
  | d, [] => match tyN d with
    | some _ => some false
    | none => none
  | d, n :: ns => match tyN d with
    | some t => match isTy t n, isiAny d ns with
      | some b, some r => some (b || r)
      | _, _ => none
    | none => none
def eIsiT (f : SE) (ns : List String) : SE := fun δ => (f δ).bind fun x δ1 => match look δ1 x with
  | some d => match isiAny d ns with
    | some b => .ok (.v (.bl b)) δ1
    | none => .bad
  | none => .bad
theorem kitAny_of {t : String} : ∀ {ns : List String} {d : D} {b : Bool}, tyN d = some t → isiAny d ns = some b → PySem.W.kitAny K (.type t) (ns.map Value.type) = some b
  | [], d, b, et, e => by
    simp only [isiAny, et] at e
    cases e
    rfl
  | n :: ns, d, b, et, e => by
    simp only [isiAny, et] at e
    cases e1 : isTy t n with
    | none => simp only [e1] at e; cases e
    | some b1 =>
      cases e2 : isiAny d ns with
      | none => simp only [e1, e2] at e; cases e
      | some r =>
        simp only [e1, e2] at e
        cases e
        refine kitAny_cons (b := b1) (kit_ty (isTy_ok e1)) (fun h => ?_) (fun h => by rw [h]; rfl)
        rw [h, Bool.false_or]
        exact kitAny_of et e2
theorem cls_all : ∀ ns : List String, Paired ClsV (ns.map V.ty) (ns.map Value.type)
  | [] => .nil
  | n :: ns => .cons (.ty n) (cls_all ns)
def tTys (ns : List String) : TA := fun _ H Q => Q (ns.map V.ty) H
theorem de_isiT {k : Nat} {ns : List String} (hm : X.mg "isinstance" = none) (hg : Gl X "isinstance") (he : DE X W e f) (ht : PA X es (tTys ns)) (hz : ns.length ≤ 1000 := by decide)
    (hs1 : starEach [e, .Tuple es k tpos] X.env = (false, eval e X.env) :: starEach [.Tuple es k tpos] X.env := by rfl) (hs2 : starEach [.Tuple es k tpos] X.env = (false, eval (.Tuple es k tpos) X.env) :: starEach [] X.env := by rfl)
    (hpl : (backTo pos (starEach [.Tuple es k tpos] X.env)).any (·.1) = false := by rfl) : DE X W (.Call (.Name "isinstance" p) [e, .Tuple es k tpos] [] pos) (eIsiT f ns) :=
  (pe_callB call_isiT hg hm b_isi (pa_cons he (pa_cons (pe_tup ht) pa_nil hs2) hs1) (by decide) (by decide) hs1 hpl).imp fun σ H Q h => by
  obtain ⟨F, bs, H0, δ, R, h⟩ := h
  refine ⟨F, bs, H0, δ, R, Post.imp (Post.first h) fun x H1 ⟨δ1, a, R1, k1, pa, h1⟩ => ?_⟩
  cases ea : look δ1 a with
  | none => simp only [ea] at h1; exact h1.elim
  | some d =>
    simp only [ea] at h1
    cases eb : isiAny d ns with
    | none => simp only [eb] at h1; exact h1.elim
    | some r =>
      simp only [eb] at h1
      have rx := R1.look pa ea
      refine ⟨by rw [List.length_map]; exact lim_le (Nat.le_trans hz (by decide)), fun q hq => ?_⟩
      cases et : tyN d with
      | none =>
        cases ns with
        | nil => simp only [isiAny, et] at eb; cases eb
        | cons n ns => simp only [isiAny, et] at eb; cases eb
      | some t =>
        have k2 : Keep bs δ1 σ H1 δ1 σ (upd H1 q (.tup (ns.map V.ty))) := keep_new hq
        have R2 := R1.new (o := .tup (ns.map V.ty)) hq
        have ty2 : TyX X.K (upd H1 q (.tup (ns.map V.ty))) x (.type t) := by
          have := rx.ty et
          cases this with
          | base h =>
            cases h with
            | non => exact .base .non
            | bl b => exact .base (.bl b)
            | int i => exact .base (.int i)
            | str y => exact .base (.str y)
            | flt y => exact .base (.flt y)
            | lst e => exact .base (.lst (by rw [upd_ne (ne_of_none e hq)]; exact e))
            | frz e => exact .base (.frz (by rw [upd_ne (ne_of_none e hq)]; exact e))
            | tup e => exact .base (.tup (by rw [upd_ne (ne_of_none e hq)]; exact e))
            | dK e => exact .base (.dK (by rw [upd_ne (ne_of_none e hq)]; exact e))
            | dT e => exact .base (.dT (by rw [upd_ne (ne_of_none e hq)]; exact e))
          | byt b => exact .byt b
          | set e => exact .set (by rw [upd_ne (ne_of_none e hq)]; exact e)
          | kList e c => exact .kList e c
          | kTuple e c => exact .kTuple e c
          | kDict e c => exact .kDict e c
          | fTuple e => exact .fTuple (by rw [upd_ne (ne_of_none e hq)]; exact e)
          | fDict e => exact .fDict (by rw [upd_ne (ne_of_none e hq)]; exact e)
        exact ⟨x, q, ns.map V.ty, .type t, ns.map Value.type, r, rfl, upd_same, cls_all ns, ty2, kitAny_of et eb, h1 (.bl r) _ R2 k2 (by simp only [AgR, Rep])⟩
theorem ptys_nil : PA X [] (tTys []) := pa_nil.imp fun σ H Q h => h
theorem ptys_cons {n : String} {ns : List String} {x : Str} (hg : Gl X x) (hm : X.mg x = none) (hv : bootBuiltins x = some (.type n)) (hr : PA X es (tTys ns)) (hn : x ≠ "__name__" := by decide) (hd : (x == ("__debug__" : Str)) = false := by decide)
    (hs : starEach (.Name x p :: es) X.env = (false, eval (.Name x p) X.env) :: starEach es X.env := by rfl) : PA X (.Name x p :: es) (tTys (n :: ns)) := (pa_cons (pe_bltn (v := .ty n) hg hm hv rfl hn hd) hr hs).imp fun σ H Q h => h
/-! ### defs by name -/
structure FnK (P : Program) (w : World) (K : PySem.W.Frag) (mg : Str → Option Value) (base : Heap) (x : Str) (ps : List Str) (k : Nat) (g : FD) : Prop where
  ex : ∃ f fd, mg x = some (.ref f) ∧ PySem.W.keepIn K (.ref f) = true ∧ Binds K fd ps [] ∧ FnOk P w K mg base (L2N.CX P w) k f fd ps (spD K mg g)
variable {x : Str} {ps : List Str} {k : Nat} {gf : FD}
theorem de_c (F : FnK X.prog X.w X.K X.mg X.base x ps k gf) (tk : L2N.Takes X W) (hr : Room k X.A) (hg : Gl X x) (ha : DA X W (e :: es) fa) (hdb : (x == ("__debug__" : Str)) = false := by decide) (he : starEach (e :: es) X.env = (false, eval e X.env) :: starEach es X.env := by rfl)
    (hpl : (backTo pos (starEach es X.env)).any (·.1) = false := by rfl) : DE X W (.Call (.Name x p) (e :: es) [] pos) (eCall gf fa) := by
  obtain ⟨f, fd, hm, hk, hb, F⟩ := F.ex
  exact de_call F tk hr hg hm hk hb ha hdb he hpl
theorem dn_c (F : FnK X.prog X.w X.K X.mg X.base x ps k gf) (tk : L2N.Takes X W) (hr : Room k X.A) (hg : Gl X x) (ha : DA X W (e :: es) fa) (hdb : (x == ("__debug__" : Str)) = false := by decide) (he : starEach (e :: es) X.env = (false, eval e X.env) :: starEach es X.env := by rfl)
    (hpl : (backTo pos (starEach es X.env)).any (·.1) = false := by rfl) : DN X W (.Call (.Name x p) (e :: es) [] pos) (nCall gf fa) := by
  obtain ⟨f, fd, hm, hk, hb, F⟩ := F.ex
  exact dn_call F tk hr hg hm hk hb ha hdb he hpl
/-- a class of exceptions of one field, of two fields, by name -/
structure ExK1 (P : Program) (w : World) (K : PySem.W.Frag) (mg : Str → Option Value) (base : Heap) (c : Str) (f : Str) (s y : Str) : Prop where
  ex : ∃ C fI fd, mg c = some (.ref C) ∧ OexC K C ∧ PySem.W.findIn K (.ref C) "__init__" = some (some (.ref fI)) ∧ PySem.W.typeIn K (.ref fI) = some (.type "function") ∧ Binds K fd [s, y] [] ∧ FnOk P w K mg base (L2N.CX P w) 1 fI fd [s, y] (spI1 C f)
structure ExK2 (P : Program) (w : World) (K : PySem.W.Frag) (mg : Str → Option Value) (base : Heap) (c : Str) (f g : Str) (s y z : Str) : Prop where
  ex : ∃ C fI fd, mg c = some (.ref C) ∧ OexC K C ∧ PySem.W.findIn K (.ref C) "__init__" = some (some (.ref fI)) ∧ PySem.W.typeIn K (.ref fI) = some (.type "function") ∧ Binds K fd [s, y, z] [] ∧ FnOk P w K mg base (L2N.CX P w) 1 fI fd [s, y, z] (spI2 C f g)
theorem ds_r1 {c f s y : Str} {p pos pos2 : Pos} (T : ExK1 X.prog X.w X.K X.mg X.base c f s y) (hc : X.calm = true) (tk : L2N.Takes X W) (hr : Room 2 X.A) (hg : Gl X c) (ha : DA X W [a] fa)
    (hdb : (c == ("__debug__" : Str)) = false := by decide) (he : starEach [a] X.env = (false, eval a X.env) :: starEach [] X.env := by rfl) (hpl : (backTo pos (starEach [] X.env)).any (·.1) = false := by rfl) :
    DS X W (.Raise (some (.Call (.Name c p) [a] [] pos)) none pos2) (sRaise c [f] fa) := by
  obtain ⟨C, fI, fd, g, o, i, t, b, F⟩ := T.ex
  exact ds_raise1 hc tk ⟨g, o, i, t⟩ F hr b hg ha hdb he hpl
theorem ds_r2 {c f g s y z : Str} {p pos pos2 : Pos} (T : ExK2 X.prog X.w X.K X.mg X.base c f g s y z) (hc : X.calm = true) (tk : L2N.Takes X W) (hr : Room 2 X.A) (hg : Gl X c) (ha : DA X W [a, b] fa)
    (hdb : (c == ("__debug__" : Str)) = false := by decide) (he : starEach [a, b] X.env = (false, eval a X.env) :: starEach [b] X.env := by rfl) (hpl : (backTo pos (starEach [b] X.env)).any (·.1) = false := by rfl) :
    DS X W (.Raise (some (.Call (.Name c p) [a, b] [] pos)) none pos2) (sRaise c [g, f] fa) := by
  obtain ⟨C, fI, fd, g', o, i, t, b, F⟩ := T.ex
  exact ds_raise2 hc tk ⟨g', o, i, t⟩ F hr b hg ha hdb he hpl
end
end DL
set_option Elab.async false
set_option linter.all false
set_option maxRecDepth 100000
set_option maxHeartbeats 4000000
/-! DL: a dict that is walked; {k: v}. -/
namespace DL
open PySem PySem.Spec L2
open PyProof.Rows hiding St

section
variable {X : Cx} {W : WX} {K : PySem.W.Frag} {mg : Str → Option Value} {F A : AP} {bs : List Addr} {H0 H H' : Hp} {δ δ' : List Sl} {σ σ' : St} {d : Addr} {od : Obj} {kvs : List (Key × V)}
theorem rd_lock {a : Addr} {u : HO} (e : H d = some (.dK kvs)) (h : Rd H a u) : Rd (upd H d (.frz od (.dK kvs))) a u := by
  by_cases z : a = d
  · subst z
    rcases h with h | ⟨o, h⟩
    · rw [e] at h; cases h; exact .inr ⟨od, upd_same⟩
    · rw [e] at h; cases h
  · rcases h with h | ⟨o, h⟩
    · exact .inl (by rw [upd_ne z]; exact h)
    · exact .inr ⟨o, by rw [upd_ne z]; exact h⟩
theorem at_lock {a : Addr} {o : HO} (e : H d = some (.dK kvs)) (h : H a = some o) (n : o ≠ .dK kvs) : upd H d (.frz od (.dK kvs)) a = some o := by
  have z : a ≠ d := fun z => by subst z; rw [e] at h; cases h; exact n rfl
  rw [upd_ne z]; exact h
mutual
theorem Rep.lock (e : H d = some (.dK kvs)) : ∀ (x : D) (v : V), Rep K mg A H x v → Rep K mg A (upd H d (.frz od (.dK kvs))) x v
  | .non, v, h => by simp only [Rep] at h ⊢; exact h
  | .bl _, v, h => by simp only [Rep] at h ⊢; exact h
  | .int _, v, h => by simp only [Rep] at h ⊢; exact h
  | .str _, v, h => by simp only [Rep] at h ⊢; exact h
  | .ty _, v, h => by simp only [Rep] at h ⊢; exact h
  | .cl _, v, h => by simp only [Rep] at h ⊢; exact h
  | .tup l, v, h => by
    simp only [Rep] at h ⊢
    obtain ⟨a, xs, ev, t, r⟩ := h
    exact ⟨a, xs, ev, t.elim (fun z => .inl ⟨rd_lock e z.1, z.2⟩) .inr, RepL.lock e l xs r⟩
  | .lst l, v, h => by
    simp only [Rep] at h ⊢
    obtain ⟨a, xs, ev, t, r⟩ := h
    exact ⟨a, xs, ev, ⟨at_lock e t.1 (fun z => nomatch z), t.2⟩, RepL.lock e l xs r⟩
  | .frl l, v, h => by
    simp only [Rep] at h ⊢
    obtain ⟨a, xs, ev, t, r⟩ := h
    exact ⟨a, xs, ev, t.elim (fun z => .inl ⟨rd_lock e z.1, z.2⟩) .inr, RepL.lock e l xs r⟩
  | .dct ks vs, v, h => by
    simp only [Rep] at h ⊢
    obtain ⟨a, xs, ev, n, t, z, r⟩ := h
    exact ⟨a, xs, ev, n, rd_lock e t, z, RepL.lock e vs xs r⟩
  | .obj c ns vs, v, h => by
    simp only [Rep] at h ⊢
    obtain ⟨a, C, dx, xs, ev, n, t, g, z, r⟩ := h
    exact ⟨a, C, dx, xs, ev, n, at_lock e t (fun z => nomatch z), g, z, RepL.lock e vs xs r⟩
  | .exc c ns vs, v, h => by
    simp only [Rep] at h ⊢
    obtain ⟨a, C, d2, oe, u, xs, ev, n, nd, t, zc, f, td, g, z, r⟩ := h
    exact ⟨a, C, d2, oe, u, xs, ev, n, nd, at_lock e t (fun z => nomatch z), zc, f, at_lock e td (fun z => nomatch z), g, z, RepL.lock e vs xs r⟩
theorem RepL.lock (e : H d = some (.dK kvs)) : ∀ (ds : List D) (xs : List V), RepL K mg A H ds xs → RepL K mg A (upd H d (.frz od (.dK kvs))) ds xs
  | [], xs, h => by simp only [RepL] at h ⊢; exact h
  | x :: ds, xs, h => by
    simp only [RepL] at h ⊢
    obtain ⟨y, r, ey, h1, h2⟩ := h
    exact ⟨y, r, ey, Rep.lock e x y h1, RepL.lock e ds r h2⟩
end
theorem rd_open {a : Addr} {u : HO} (e : H d = some (.frz od (.dK kvs))) (nf : ∀ o w, u ≠ .frz o w) (h : Rd H a u) : Rd (upd H d (.dK kvs)) a u := by
  by_cases z : a = d
  · subst z
    rcases h with h | ⟨o, h⟩
    · rw [e] at h
      exact absurd (Option.some.inj h).symm (nf _ _)
    · rw [e] at h; cases h; exact .inl upd_same
  · rcases h with h | ⟨o, h⟩
    · exact .inl (by rw [upd_ne z]; exact h)
    · exact .inr ⟨o, by rw [upd_ne z]; exact h⟩
theorem at_open {a : Addr} {o : HO} (e : H d = some (.frz od (.dK kvs))) (h : H a = some o) (n : o ≠ .frz od (.dK kvs)) : upd H d (.dK kvs) a = some o := by
  have z : a ≠ d := fun z => by subst z; rw [e] at h; cases h; exact n rfl
  rw [upd_ne z]; exact h
mutual
theorem Rep.openD (e : H d = some (.frz od (.dK kvs))) : ∀ (x : D) (v : V), Rep K mg A H x v → Rep K mg A (upd H d (.dK kvs)) x v
  | .non, v, h => by simp only [Rep] at h ⊢; exact h
  | .bl _, v, h => by simp only [Rep] at h ⊢; exact h
  | .int _, v, h => by simp only [Rep] at h ⊢; exact h
  | .str _, v, h => by simp only [Rep] at h ⊢; exact h
  | .ty _, v, h => by simp only [Rep] at h ⊢; exact h
  | .cl _, v, h => by simp only [Rep] at h ⊢; exact h
  | .tup l, v, h => by
    simp only [Rep] at h ⊢
    obtain ⟨a, xs, ev, t, r⟩ := h
    exact ⟨a, xs, ev, t.elim (fun z => .inl ⟨rd_open e (fun _ _ z => nomatch z) z.1, z.2⟩) .inr, RepL.openD e l xs r⟩
  | .lst l, v, h => by
    simp only [Rep] at h ⊢
    obtain ⟨a, xs, ev, t, r⟩ := h
    exact ⟨a, xs, ev, ⟨at_open e t.1 (fun z => nomatch z), t.2⟩, RepL.openD e l xs r⟩
  | .frl l, v, h => by
    simp only [Rep] at h ⊢
    obtain ⟨a, xs, ev, t, r⟩ := h
    exact ⟨a, xs, ev, t.elim (fun z => .inl ⟨rd_open e (fun _ _ z => nomatch z) z.1, z.2⟩) .inr, RepL.openD e l xs r⟩
  | .dct ks vs, v, h => by
    simp only [Rep] at h ⊢
    obtain ⟨a, xs, ev, n, t, z, r⟩ := h
    exact ⟨a, xs, ev, n, rd_open e (fun _ _ z => nomatch z) t, z, RepL.openD e vs xs r⟩
  | .obj c ns vs, v, h => by
    simp only [Rep] at h ⊢
    obtain ⟨a, C, dx, xs, ev, n, t, g, z, r⟩ := h
    exact ⟨a, C, dx, xs, ev, n, at_open e t (fun z => nomatch z), g, z, RepL.openD e vs xs r⟩
  | .exc c ns vs, v, h => by
    simp only [Rep] at h ⊢
    obtain ⟨a, C, d2, oe, u, xs, ev, n, nd, t, zc, ⟨fv, hf, nu⟩, td, g, z, r⟩ := h
    exact ⟨a, C, d2, oe, u, xs, ev, n, nd, at_open e t (fun z => by cases z; exact nu _ rfl), zc, ⟨fv, hf, nu⟩, at_open e td (fun z => nomatch z), g, z, RepL.openD e vs xs r⟩
theorem RepL.openD (e : H d = some (.frz od (.dK kvs))) : ∀ (ds : List D) (xs : List V), RepL K mg A H ds xs → RepL K mg A (upd H d (.dK kvs)) ds xs
  | [], xs, h => by simp only [RepL] at h ⊢; exact h
  | x :: ds, xs, h => by
    simp only [RepL] at h ⊢
    obtain ⟨y, r, ey, h1, h2⟩ := h
    exact ⟨y, r, ey, Rep.openD e x y h1, RepL.openD e ds r h2⟩
end
def dropA (H : Hp) (d : Addr) : Hp := fun a => if a = d then none else H a
theorem dropA_ne {H : Hp} {a d : Addr} (h : a ≠ d) : dropA H d a = H a := if_neg h
theorem ObR.lock (e : H d = some (.dK kvs)) {c : Ob} {o : HO} (h : ObR K mg A H c o) : ObR K mg A (upd H d (.frz od (.dK kvs))) c o := by
  cases c with
  | lst l => obtain ⟨xs, e1, r⟩ := h; exact ⟨xs, e1, RepL.lock e _ _ r⟩
  | dk ks vs => obtain ⟨xs, e1, l, r⟩ := h; exact ⟨xs, e1, l, RepL.lock e _ _ r⟩
  | dt ks vs => obtain ⟨xs, e1, l, r⟩ := h; exact ⟨xs, e1, l, RepL.lock e _ _ r⟩
theorem ObR.openD (e : H d = some (.frz od (.dK kvs))) {c : Ob} {o : HO} (h : ObR K mg A H c o) : ObR K mg A (upd H d (.dK kvs)) c o := by
  cases c with
  | lst l => obtain ⟨xs, e1, r⟩ := h; exact ⟨xs, e1, RepL.openD e _ _ r⟩
  | dk ks vs => obtain ⟨xs, e1, l, r⟩ := h; exact ⟨xs, e1, l, RepL.openD e _ _ r⟩
  | dt ks vs => obtain ⟨xs, e1, l, r⟩ := h; exact ⟨xs, e1, l, RepL.openD e _ _ r⟩
theorem Rel.lock (R : Rel K mg F bs H0 δ σ H) (e : H d = some (.dK kvs)) (n : ¬ AA F δ σ d) : Rel K mg F bs (dropA H0 d) δ σ (upd H d (.frz od (.dK kvs))) := by
  have nm := R.mm n
  refine ⟨R.len, fun i s es => ?_, R.apart, fun a o nb ea => ?_, fun a f => ?_, R.bsF, R.ioa, R.nd⟩
  · have q := R.slot i s es
    cases s with
    | no => trivial
    | val x => obtain ⟨v, ev, r⟩ := q; exact ⟨v, ev, Rep.lock e _ _ r⟩
    | exn a dx c ns vs => obtain ⟨ea, C, xs, g, nd, t, l, r⟩ := q; exact ⟨ea, C, xs, g, nd, at_lock e t (fun z => nomatch z), l, RepL.lock e _ _ r⟩
    | own c =>
      obtain ⟨p, o, e1, e2, r, nF, z⟩ := q
      have ne : p ≠ d := fun z => n (z ▸ .inr ⟨i, c, es, e1⟩)
      refine ⟨p, o, e1, by rw [upd_ne ne]; exact e2, r.lock e, nF, ?_⟩
      rw [dropA_ne ne]; exact z
    | io k c =>
      obtain ⟨p, o, e0, e1, e2, r⟩ := q
      have ne : p ≠ d := fun z => n (z ▸ .inl (R.bsF _ (List.mem_of_getElem? e0)))
      exact ⟨p, o, e0, e1, by rw [upd_ne ne]; exact e2, r.lock e⟩
  · by_cases z : a = d
    · subst z; simp [dropA] at ea
    · rw [dropA_ne z] at ea
      rw [upd_ne z]; exact R.ext a o nb ea
  · by_cases z : a = d
    · subst z; rw [upd_same]; exact fun y => nomatch y
    · rw [upd_ne z]; exact R.live a f
theorem Rel.openD (R : Rel K mg F bs (dropA H0 d) δ σ H) (e : H d = some (.frz od (.dK kvs))) (n : ¬ AA F δ σ d) (h0 : ∀ o, H0 d = some o → o = .dK kvs) : Rel K mg F bs H0 δ σ (upd H d (.dK kvs)) := by
  refine ⟨R.len, fun i s es => ?_, R.apart, fun a o nb ea => ?_, fun a f => ?_, R.bsF, R.ioa, R.nd⟩
  · have q := R.slot i s es
    cases s with
    | no => trivial
    | val x => obtain ⟨v, ev, r⟩ := q; exact ⟨v, ev, Rep.openD e _ _ r⟩
    | exn a dx c ns vs => obtain ⟨ea, C, xs, g, nd, t, l, r⟩ := q; exact ⟨ea, C, xs, g, nd, at_open e t (fun z => nomatch z), l, RepL.openD e _ _ r⟩
    | own c =>
      obtain ⟨p, o, e1, e2, r, nF, z⟩ := q
      have ne : p ≠ d := fun z => n (z ▸ .inr ⟨i, c, es, e1⟩)
      refine ⟨p, o, e1, by rw [upd_ne ne]; exact e2, r.openD e, nF, ?_⟩
      rw [dropA_ne ne] at z; exact z
    | io k c =>
      obtain ⟨p, o, e0, e1, e2, r⟩ := q
      have ne : p ≠ d := fun z => n (z ▸ .inl (R.bsF _ (List.mem_of_getElem? e0)))
      exact ⟨p, o, e0, e1, by rw [upd_ne ne]; exact e2, r.openD e⟩
  · by_cases z : a = d
    · subst z; rw [upd_same, h0 o ea]
    · rw [upd_ne z]; exact R.ext a o nb (by rw [dropA_ne z]; exact ea)
  · by_cases z : a = d
    · subst z; rw [upd_same]; exact fun y => nomatch y
    · rw [upd_ne z]; exact R.live a f
/-! ### for k, v in x.items() -/
def keyData : Key → D
  | .inl i => .int i
  | .inr s => .str s
def itemsD (ks : List Key) (vs : List D) : List D := List.zipWith (fun k v => .tup [keyData k, v]) ks vs
theorem itemsD_len {ks : List Key} {vs : List D} (l : ks.length = vs.length) : (itemsD ks vs).length = ks.length := by simp [itemsD, l]
theorem itemsD_get {ks : List Key} {vs : List D} {i : Nat} {x : D} (h : (itemsD ks vs)[i]? = some x) : ∃ k v, ks[i]? = some k ∧ vs[i]? = some v ∧ x = .tup [keyData k, v] := by
  unfold itemsD at h
  rw [List.getElem?_zipWith] at h
  cases e : ks[i]? with
  | none => rw [e] at h; simp at h
  | some k =>
    cases e2 : vs[i]? with
    | none => rw [e, e2] at h; simp at h
    | some v => rw [e, e2] at h; simp at h; exact ⟨k, v, rfl, rfl, h.symm⟩
def onlyNx : RS → RS
  | .nx δ => .nx δ
  | _ => .bad
def sItems (i : Nat) (γ : TgF) (body : SS) : SS := fun δ => match δ[i]? with
  | some (.val (.dct ks vs)) => onlyNx (forL γ body (itemsD ks vs) δ)
  | _ => .bad
theorem key_rep {k : Key} : Rep K mg A H (keyData k) (kV k) := by
  cases k with
  | inl i => exact Rep.int
  | inr s => exact Rep.str
theorem jok_items {ks : List Key} {vs : List D} {xs : List V} (hb : ∀ b, b ∈ bs → F b) (e : H d = some (.frz od (.dK (ks.zip xs)))) (n : ¬ AA F δ σ d) (l : ks.length = vs.length) (r : RepL K mg (AA F δ σ) H vs xs) : JOk K mg F bs H0 σ ⟨itemsD ks vs, []⟩ δ (Iti d od (ks.zip xs)) H := by
  intro F' δ' σ' H' h1 h2 R k g
  have m := mv_up hb h2 k
  have e' := (m d _ n e).2
  have r' := RepL.mv m _ _ r
  have lz : (ks.zip xs).length = ks.length := by rw [List.length_zip, r.len, ← l, Nat.min_self]
  refine ⟨⟨e', by show _ ≤ (itemsD ks vs).length; rw [itemsD_len l, lz]; exact Nat.le_refl _⟩, fun i x ex => ?_⟩
  obtain ⟨kk, v, ek, ev, exx⟩ := itemsD_get ex
  obtain ⟨y, ey, ry⟩ := r'.get ev
  have ez : (ks.zip xs)[i]? = some (kk, y) := by rw [List.getElem?_zip_eq_some]; exact ⟨ek, ey⟩
  refine ⟨⟨e', (List.getElem?_eq_some_iff.mp ez).1⟩, fun z H'' q => ?_⟩
  obtain ⟨T, k2, v2, e2, ezz, hT, eH⟩ := q
  rw [ez] at e2
  cases e2
  subst ezz eH exx
  exact pair_rep R key_rep ry hT
theorem _root_.L2.PS.or {X : Cx} {st : Stmt} {t t' : TS} (h : PS X st t) (h' : PS X st t') : PS X st (fun E σ H => t E σ H ∨ t' E σ H) := ⟨fun pins s σ H E I q => q.elim (fun z => h.run pins s σ H E I z) fun z => h'.run pins s σ H E I z⟩
theorem ds_items {i : Nat} {x : Expr} {elts : List Expr} {kk : Nat} {p tpos apos pos : Pos} {body : List Stmt} {tgs : List Nat} {γ : TgF} {g : SS} (hp : PassesOwn (model X.prog X.w) X.A X.env X.xe) (hc : X.calm = true) (hx : PE X x (tVar i)) (hg : DG X (.Tuple elts kk tpos) tgs γ) (hb : DSs X W body g)
    (hbase : attributeBase x "items" X.env (eval x X.env) = eval x X.env := by rfl) (hline : (apos.endLine == p.line) = true := by rfl)
    (hs : ∀ y, foldedSetIterable (.Call (.Attribute x "items" apos) [] [] p) X.env y = pure y := by intro _; rfl) :
    DS X W (.For (.Tuple elts kk tpos) (.Call (.Attribute x "items" apos) [] [] p) body [] pos) (sItems i γ g) :=
  ((ps_lock (ps_for hp hc (pi_items hx hbase hline) hg hb hs)).or (ps_for hp hc (pi_items hx hbase hline) hg hb hs)).imp fun E σ H h => by
  obtain ⟨F, bs, H0, δ, R, h⟩ := h
  unfold sItems at h
  cases es : δ[i]? with
  | none => rw [es] at h; exact h.elim
  | some s =>
    rw [es] at h
    have q := R.slot i s es
    cases s with
    | no => exact h.elim
    | own _ => exact h.elim
    | io _ _ => exact h.elim
    | exn _ _ _ _ _ => exact h.elim
    | val x =>
      cases x <;> try exact h.elim
      rename_i ks vs
      obtain ⟨v, ev, r⟩ := q
      simp only [Rep] at r
      obtain ⟨d, xs, exv, n, t, l, r⟩ := r
      subst exv
      have h : PostS X.K X.mg W F bs H0 δ σ H (onlyNx (forL γ g (itemsD ks vs) δ)) E := h
      cases ef : forL γ g (itemsD ks vs) δ with
      | nx δ' =>
        rw [ef] at h
        rcases t with t | ⟨od, t⟩
        · refine .inl ⟨d, _, t, trivial, fun od => ?_⟩
          have R2 := R.lock (od := od) t n
          refine ⟨.ref d, ev, d, od, ks.zip xs, rfl, upd_same, ?_⟩
          refine for_core (l := itemsD ks vs) R2 (jok_items R2.bsF upd_same n l (RepL.lock t _ _ r)) ?_
          rw [ef]
          intro σ' H' R' k'
          obtain ⟨nm, ed⟩ := k' d _ (R.mm n) upd_same
          have n' : ¬ AA F δ' σ' d := fun z => z.elim (fun y => n (.inl y)) fun y => nm (.inr y)
          refine ⟨ed, h σ' _ (R'.openD ed n' (fun o e0 => ?_)) fun a o na ea => ?_⟩
          · have := R.ext d o (fun z => n (.inl (R.bsF d z))) e0
            rw [t] at this
            exact (Option.some.inj this).symm
          · by_cases z : a = d
            · subst z
              rw [t] at ea
              cases ea
              exact ⟨nm, upd_same⟩
            · obtain ⟨n1, e1⟩ := k' a o na (by rw [upd_ne z]; exact ea)
              exact ⟨n1, by rw [upd_ne z]; exact e1⟩
        · refine .inr ⟨.ref d, ev, d, od, ks.zip xs, rfl, t, ?_⟩
          refine for_core (l := itemsD ks vs) R (jok_items R.bsF t n l r) ?_
          rw [ef]
          exact h
      | rt _ _ => rw [ef] at h; exact h.elim
      | rtN _ _ => rw [ef] at h; exact h.elim
      | bk _ => rw [ef] at h; exact h.elim
      | ct _ => rw [ef] at h; exact h.elim
      | exc _ _ _ _ => rw [ef] at h; exact h.elim
      | bad => rw [ef] at h; exact h.elim
/-! ### {k: v} -/
theorem Rel.chg {L : Addr} (R : Rel K mg (fun a => F a ∨ a = L) bs H0 δ σ H) (hb : ∀ b, b ∈ bs → b ≠ L) (h0 : H0 L = none) (o : HO) :
    Rel K mg (fun a => F a ∨ a = L) bs H0 δ σ (upd H L o) ∧ Mv (AA (fun a => F a ∨ a = L) δ σ) H (AA (fun a => F a ∨ a = L) δ σ) (upd H L o) := by
  have m : Mv (AA (fun a => F a ∨ a = L) δ σ) H (AA (fun a => F a ∨ a = L) δ σ) (upd H L o) := fun a u n e => ⟨n, by
    have ne : a ≠ L := fun z => n (.inl (.inr z))
    rw [upd_ne ne]; exact e⟩
  refine ⟨⟨R.len, fun i s es => ?_, R.apart, fun a u nb ea => ?_, fun a f => ?_, R.bsF, R.ioa, R.nd⟩, m⟩
  · have q := R.slot i s es
    cases s with
    | no => trivial
    | val x => obtain ⟨v, ev, r⟩ := q; exact ⟨v, ev, r.mv m⟩
    | exn _ _ _ _ _ => exact exn_mv m q
    | own c =>
      obtain ⟨p, u, e1, e2, r, nF, z⟩ := q
      have ne : p ≠ L := fun z => nF (.inr z)
      exact ⟨p, u, e1, by rw [upd_ne ne]; exact e2, r.mv m, nF, z⟩
    | io k c =>
      obtain ⟨p, u, e0, e1, e2, r⟩ := q
      have ne : p ≠ L := hb _ (List.mem_of_getElem? e0)
      exact ⟨p, u, e0, e1, by rw [upd_ne ne]; exact e2, r.mv m⟩
  · have ne : a ≠ L := fun z => by rw [z, h0] at ea; cases ea
    rw [upd_ne ne]; exact R.ext a u nb ea
  · by_cases z : a = L
    · rw [z, upd_same]; exact fun y => nomatch y
    · rw [upd_ne z]; exact R.live a f
def nDict1 (fk fv : SE) : SN := fun δ => match fk δ with
  | .ok (.v kd) δ1 => match fv δ1 with
    | .ok (.v d) δ2 => match keyD kd with
      | some k => .ok (.dk [k] [d]) δ2
      | none => .bad
    | _ => .bad
  | _ => .bad
theorem rd_dict1 {fk fv : SE} {Q : VK} (h : rdN K mg W (nDict1 fk fv) σ H Q) : tDisp [(rdE K mg W fk, rdE K mg W fv)] σ H Q := by
  obtain ⟨F, bs, H0, δ, R, h⟩ := h
  intro p hp
  have R0 := R.guard (o := .dK []) hp
  have k0 : Keep bs δ σ H δ σ (upd H p (.dK [])) := keep_new hp
  have np := R.freshM hp
  refine ⟨_, bs, H0, δ, R0, ?_⟩
  unfold nDict1 at h
  cases e1 : fk δ with
  | exc _ _ _ _ => rw [e1] at h; exact h.elim
  | bad => rw [e1] at h; exact h.elim
  | ok a δ1 =>
    rw [e1] at h
    cases a with
    | s _ => exact h.elim
    | v kd =>
      intro x H1 R1 k1 px
      refine ⟨_, bs, H0, δ1, R1, ?_⟩
      cases e2 : fv δ1 with
      | exc _ _ _ _ => simp only [e2] at h; exact h.elim
      | bad => simp only [e2] at h; exact h.elim
      | ok b δ2 =>
        cases b with
        | s _ => simp only [e2] at h; exact h.elim
        | v d =>
          simp only [e2] at h
          intro y H2 R2 k2 py
          cases ek : keyD kd with
          | none => simp only [ek] at h; exact h.elim
          | some k =>
            simp only [ek] at h
            have ex := RepW.key (Rep.w px) ek
            subst ex
            obtain ⟨n1, q1⟩ := k1 p _ np upd_same
            obtain ⟨n2, q2⟩ := k2 p _ n1 q1
            refine ⟨q2, [(k, y)], rfl, by simp, ?_⟩
            have hb : ∀ b, b ∈ bs → b ≠ p := fun b hb z => R.live b (R.bsF b hb) (z ▸ hp)
            obtain ⟨R3, m3⟩ := R2.chg hb (R.fresh0 hp) (.lst [y])
            have kk : Keep bs δ σ H δ2 σ (upd H2 p (.lst [y])) := fun a o n e => by
              have ne : a ≠ p := ne_of_none e hp
              obtain ⟨h1, g1⟩ := (k0.trans (k1.trans k2)) a o n e
              exact ⟨h1, by rw [upd_ne ne]; exact g1⟩
            obtain ⟨Rb, kb, rb, _⟩ := Rel.back (vs := []) (l := [d]) (xs := [y]) R rfl hp R3 kk (fun j s hj => nomatch hj) upd_same (RepL.cons (Rep.mv m3 _ _ py) RepL.nil)
            have fin := h (p, .dK [(k, y)]) _ Rb kb ⟨by simp, [y], rfl, rfl, rb⟩
            have eh : upd (fun b => if b = p then none else upd H2 p (.lst [y]) b) p (.dK [(k, y)]) = upd H2 p (.dK (mergeK [] [(k, y)])) := by
              funext b
              by_cases hbp : b = p
              · rw [hbp, upd_same, upd_same]; rfl
              · rw [upd_ne hbp]
                show (if b = p then none else upd H2 p (.lst [y]) b) = _
                rw [if_neg hbp, upd_ne hbp, upd_ne hbp]
            rw [← eh]
            exact fin
theorem dn_dict1 {a b : Expr} {fk fv : SE} {pos : Pos} (ha : DE X W a fk) (hb : DE X W b fv) : DN X W (.Dict [some a] [b] pos) (nDict1 fk fv) := (pe_disp (pps_cons ha hb pps_nil) rfl rfl (fun z => nomatch z) (by simp)).imp fun _ _ _ => rd_dict1
end
end DL
set_option Elab.async false
set_option linter.all false
set_option maxRecDepth 100000
set_option maxHeartbeats 4000000
/-! DL: max(xs, default=d); rules of names. -/
namespace DL
open PySem PySem.Spec L2
open PyProof.Rows hiding St

section
variable {X : Cx} {W : WX} {K : PySem.W.Frag} {mg : Str → Option Value} {F A : AP} {bs : List Addr} {H0 H H' : Hp} {δ δ' : List Sl} {σ σ' : St}
theorem hu64 {k : Nat} {A : Around} (hr : Room k A) : A.units + 64 < cLine := by have := hr.un; omega
theorem hu1 {k : Nat} {A : Around} (hr : Room k A) : A.units + 1 < cLine := by have := hr.un; omega
/-! ### max(xs, default=d) -/
def rMaxD (K : PySem.W.Frag) : List V → List V → Hp → VK → Prop := fun xs zs H Q => ∃ (a : Addr) (ns : List Int) (d : V), xs = [V.ref a] ∧ zs = [d] ∧ SqL K H a (ns.map V.int) ∧ (ns = [] → Q d H) ∧ ∀ y ys, ns = y :: ys → Q (.int (ys.foldl max y)) H
theorem depthAll_ints : ∀ ns : List Int, PyData.depthAll (ns.map PyData.int) ≤ 1
  | [] => by simp [PyData.depthAll]
  | n :: ns => by
    have := depthAll_ints ns
    simp only [List.map_cons, PyData.depthAll, PyData.depth]
    omega
theorem dp_ints : ∀ ns : List Int, DpAll K H (ns.map V.int) (ns.map PyData.int)
  | [] => .nil
  | n :: ns => .cons (.int n) (dp_ints ns)
theorem call_maxD (hc : X.calm = true) (hu : X.A.units + 64 < cLine) : CallRK X (.builtin "max") [Str.ofString "default"] (rMaxD X.K) := by
  intro pins s σ H xs zs us ws Q I r r2 h
  obtain ⟨a, ns, d, rfl, rfl, hs, h0, h1⟩ := h
  obtain ⟨its, rv, hl, _⟩ := I.list hs
  rw [Vals.ref1 r]
  obtain ⟨w, rfl, rw'⟩ := vals1 r2
  obtain ⟨as, rd⟩ := Dp.readsAll I _ _ _ (dp_ints ns) rv
  show wpAny _ _ (call (.builtin "max") [.ref a] [(Str.ofString "default", w)]) _ _ _
  have hal : PySem.W.AlikeAll (ns.map PyData.int) := ⟨fun x hx y hy => by
    obtain ⟨i, _, rfl⟩ := List.mem_map.mp hx
    obtain ⟨j, _, rfl⟩ := List.mem_map.mp hy
    rfl, fun x hx => by obtain ⟨i, _, rfl⟩ := List.mem_map.mp hx; exact fun z => nomatch z⟩
  have hd := depthAll_ints ns
  refine PySem.W.max_list_default (I.ok.hd hc) hl.isList (by simpa using rd) hal (by omega) (fun e h' tk hk => ⟨d, H, I.kept hk, rw', h0 (List.map_eq_nil_iff.mp e)⟩) fun y ys i v h' tk bs e hi r hk => ?_
  cases ns with
  | nil => cases e
  | cons n ns =>
    rw [List.map_cons] at e
    injection e with e1 e2
    subst e1 e2
    rw [PySem.W.maxD_ints] at r
    cases r
    exact ⟨.int _, H, I.kept hk, ⟨_, rfl⟩, h1 n ns rfl⟩
def eMaxD (f g : SE) : SE := fun δ => (f δ).bind fun a δ1 => (g δ1).bind fun b δ2 => match look δ2 a, b with
  | some d, .v e => match listI [d] with
    | some [] => .ok (.v e) δ2
    | some (n :: ns) => .ok (.v (.int (ns.foldl max n))) δ2
    | none => .bad
  | _, _ => .bad
theorem rd_maxD {f g : SE} {Q : VK} (h : rdE K mg W (eMaxD f g) σ H Q) : tCKw (rMaxD K) (tCons (rdE K mg W f) tNil) (tCons (rdE K mg W g) tNil) σ H Q := by
  obtain ⟨F, bs, H0, δ, R, h⟩ := h
  refine ⟨F, bs, H0, δ, R, Post.imp (Post.first h) fun x H1 ⟨δ1, a, R1, k1, pa, h1⟩ => ?_⟩
  refine ⟨F, bs, H0, δ1, R1, Post.imp (Post.first h1) fun y H2 ⟨δ2, b, R2, k2, pb, h2⟩ => ?_⟩
  cases ea : look δ2 a with
  | none => simp only [ea] at h2; exact h2.elim
  | some d =>
    cases b with
    | s _ => simp only [ea] at h2; exact h2.elim
    | v e =>
      simp only [ea] at h2
      have rx := R2.look (pa.mv R1 k2) ea
      cases el : listI [d] with
      | none => simp only [el] at h2; exact h2.elim
      | some ns =>
        obtain ⟨q, ex, t⟩ := RepWL.ints (ds := [d]) ⟨x, [], rfl, rx, rfl⟩ el
        cases ns with
        | nil =>
          simp only [el] at h2
          exact ⟨q, [], y, ex, rfl, t, fun _ => h2 y H2 R2 .refl pb, fun _ _ z => nomatch z⟩
        | cons n ns =>
          simp only [el] at h2
          refine ⟨q, n :: ns, y, ex, rfl, t, (fun z => nomatch z), fun y' ys' z => ?_⟩
          cases z
          exact h2 (.int (ns.foldl max n)) H2 R2 .refl (by simp only [AgR, Rep])
theorem de_maxD {a b : Expr} {f g : SE} {p pos kp : Pos} (hm : X.mg "max" = none) (hc : X.calm = true) (hu : X.A.units + 64 < cLine) (hg : Gl X "max") (ha : DE X W a f) (hb : DE X W b g)
    (hs : starEach [a] X.env = (false, eval a X.env) :: starEach [] X.env := by rfl)
    (he : backTo pos (starEach [a] X.env) = (false, eval a X.env) :: backTo pos (starEach [] X.env) := by rfl) (hpl : (backTo pos (starEach [a] X.env)).any (·.1) = false := by rfl)
    (hall : (backToKw pos (keywordEach [⟨some "default", b, kp⟩] X.env)).all (·.1.isSome) = true := by rfl) (hnone : (backToKw pos (keywordEach [⟨some "default", b, kp⟩] X.env)).any (·.1.isNone) = false := by rfl)
    (hks : (backToKw pos (keywordEach [⟨some "default", b, kp⟩] X.env)).filterMap (·.1) = [Str.ofString "default"] := by rfl) :
    DE X W (.Call (.Name "max" p) [a] [⟨some "default", b, kp⟩] pos) (eMaxD f g) :=
  (pe_callBK (call_maxD hc hu) hg hm b_max (pa_cons ha pa_nil hs) (pk_cons hb pk_nil) (by decide) (by decide) he hpl hall hnone hks).imp fun _ _ _ => rd_maxD
/-! ### constants of the top -/
theorem de_const {x : Str} {d : D} {pos : Pos} (h : ∃ v u, X.mg x = some u ∧ RelV v u ∧ ∀ A H, Rep X.K X.mg A H d v) (hg : Gl X x) (hd : (x == ("__debug__" : Str)) = false := by decide) : DE X W (.Name x pos) (eC d) := by
  obtain ⟨v, u, hm, r, hv⟩ := h
  exact de_glob hg hm r hv hd
/-! ### clauses -/
def tst : List (Str × Bool) → Str → Option Bool
  | [], _ => none
  | (c, b) :: r, k => if k = c then some b else tst r k
def HF (K : PySem.W.Frag) (mg : Str → Option Value) (x : Str) (c : Value) (l : List (Str × Bool)) : Prop := mg x = some c ∧ ∀ p, p ∈ l → ∀ C, mg p.1 = some (.ref C) → PySem.W.exmOne K (.ref C) c = some p.2
theorem tst_mem : ∀ {l : List (Str × Bool)} {k : Str} {b : Bool}, tst l k = some b → (k, b) ∈ l
  | [], _, _, h => by cases h
  | (c, b') :: r, k, b, h => by
    simp only [tst] at h
    by_cases z : k = c
    · rw [if_pos z] at h
      cases h
      rw [z]
      exact List.mem_cons_self
    · rw [if_neg z] at h
      exact List.mem_cons_of_mem _ (tst_mem h)
theorem hd_tst {c : Value} {l : List (Str × Bool)} (h : ∀ p, p ∈ l → ∀ C, mg p.1 = some (.ref C) → PySem.W.exmOne K (.ref C) c = some p.2) (k : Str) (C : Addr) (b : Bool) (g : mg k = some (.ref C)) (e : tst l k = some b) : PySem.W.exmOne K (.ref C) c = some b := h (k, b) (tst_mem e) C g
theorem small_arr {a : Array Value} (h : a.size ≤ 1000) : a.size ≤ sizeLine := lim_le (Nat.le_trans h (by decide))
theorem exm_own {C : Addr} {cls : Value} {b : Bool} (h1 : PySem.W.subIn K (.ref C) (.type "BaseException") = some true) (hd : PySem.W.hasDictIn K C = true) (ht : PySem.W.typeIn K (.ref C) = some (.type "type")) (h4 : PySem.W.subIn K cls (.ref C) = some b) : PySem.W.exmOne K cls (.ref C) = some b := by
  have e1 : (PySem.W.subIn K (.ref C) (.type "BaseException") == some true) = true := by rw [h1] <;> rfl
  have e2 : ((PySem.W.clsIn K C).isSome && PySem.W.typeIn K (.ref C) == some (.type "type")) = true := by
    have : (PySem.W.clsIn K C).isSome = true := by
      cases e : PySem.W.clsIn K C with
      | some _ => rfl
      | none => unfold PySem.W.hasDictIn at hd; rw [e] at hd; cases hd
    rw [this, ht] <;> rfl
  show (if (PySem.W.subIn K (.ref C) (.type "BaseException") == some true) = true then (if ((PySem.W.clsIn K C).isSome && PySem.W.typeIn K (.ref C) == some (.type "type")) = true then PySem.W.subIn K cls (.ref C) else none) else none) = some b
  rw [if_pos e1, if_pos e2]
  exact h4
end
end DL
set_option Elab.async false
set_option linter.all false
set_option maxRecDepth 100000
set_option maxHeartbeats 4000000
/-! DL: list(zip(a, b)) of two tuples. -/
namespace ZL
open PySem PySem.W
section
variable {prog : Program} {w : World} {A : Around} {E : Value → Shared → Prop} {s : Shared} {z TI TO T i1 i2 l1 l2 S : Addr} {xs ys : Array Value}
theorem item_held {f : Bool} {oT : Obj} {k1 k2 : Nat} {x y : Value} {Q : Value → Shared → Prop} (D : ZipApart z TI TO i1 i2 l1 l2)
    (hz : IsZipHeld s.heap z TI TO T f) (hT : s.heap.get? T = some oT) (hTI : IsPair s.heap TI (.ref i1) (.ref i2))
    (h1 : s.heap.IsTupleIter i1 l1 k1) (h2 : s.heap.IsTupleIter i2 l2 k2) (hl1 : s.heap.IsTuple l1 xs) (hl2 : s.heap.IsTuple l2 ys) (hx : xs[k1]? = some x) (hy : ys[k2]? = some y)
    (hQ : ∀ h', IsZipHeld h' z TI TO T true → h'.IsTupleIter i1 l1 (k1 + 1) → h'.IsTupleIter i2 l2 (k2 + 1) → IsPair h' s.heap.objs.size x y → h'.objs.size = s.heap.objs.size + 1 →
      (∀ c o, c ≠ z → c ≠ i1 → c ≠ i2 → s.heap.get? c = some o → h'.get? c = some o) → Q (.ref s.heap.objs.size) { s with heap := h' }) :
    wpAny (model prog w) A (Builtin.«zip.__next__» ⟨[.ref z], []⟩) (fun fin s' => ∃ v, fin = .done (.ret v) ∧ Q v s') E s := by
  show wpAny _ _ (field (.ref z) 2 >>= _) _ _ _
  refine wpAny_bind (wpAny_field hz rfl (x := .bool false) rfl ?_)
  show wpAny _ _ (field (.ref z) 3 >>= _) _ _ _
  refine wpAny_bind (wpAny_field hz rfl (x := .ref TI) rfl ?_)
  refine wpAny_bind (wpAny_seqItems hTI rfl ?_)
  show wpAny _ _ (Builtin.SmallTypes.ownedTupleIsFree (.ref z) >>= _) _ _ _
  refine wpAny_bind (wpAny_tupleHeld_zip hz hT fun g₁ hz₁ hs₁ => ?_)
  simp only [Bool.false_eq_true, if_false]
  refine wpAny_bind ?_
  rw [← Array.forIn_toList]
  simp only [List.forIn_cons, List.forIn_nil]
  refine wpAny_bind (wpAny_bind (wpAny_holding ?_))
  show wpAny _ _ (Builtin.SmallTypes.nextOf (.ref i1) >>= _) _ _ _
  refine wpAny_bind (RZ.nextOf_tuple_item (s := { s with heap := g₁ }) (h1.extBut hs₁.extBut D.i1z) (hl1.extBut hs₁.extBut D.l1z) hx fun g₂ h1₂ hs₂ => wpAny_pure ?_)
  refine wpAny_pure ?_
  refine wpAny_bind (wpAny_bind (wpAny_holding ?_))
  show wpAny _ _ (Builtin.SmallTypes.nextOf (.ref i2) >>= _) _ _ _
  refine wpAny_bind (RZ.nextOf_tuple_item (s := { s with heap := g₂ }) ((h2.extBut hs₁.extBut D.i2z).extBut hs₂.extBut D.i12.symm) ((hl2.extBut hs₁.extBut D.l2z).extBut hs₂.extBut D.l2i1) hy fun g₃ h2₃ hs₃ => wpAny_pure ?_)
  refine wpAny_pure (wpAny_pure ?_)
  show wpAny _ _ (newTuple [x, y] >>= _) _ _ _
  refine wpAny_bind (wpAny_newTuple ?_)
  have hsz : g₃.objs.size = s.heap.objs.size := by rw [hs₃.1, hs₂.1, hs₁.1]
  have kz : IsZipHeld g₃ z TI TO T true := hs₃.extBut _ _ D.i2z.symm (hs₂.extBut _ _ D.i1z.symm hz₁)
  have kk : ∀ c o, c ≠ z → c ≠ i1 → c ≠ i2 → s.heap.get? c = some o → g₃.get? c = some o := fun c o c1 c2 c3 e => hs₃.extBut _ _ c3 (hs₂.extBut _ _ c2 (hs₁.extBut _ _ c1 e))
  have k1 : g₃.IsTupleIter i1 l1 (k1 + 1) := h1₂.extBut hs₃.extBut D.i12
  refine wpAny_pure ⟨_, rfl, ?_⟩
  show Q (.ref g₃.objs.size) _
  have hp : IsPair (g₃.push { cls := .type "tuple", data := .seq #[x, y] }) g₃.objs.size x y := Heap.get?_push_size _ rfl
  have h4 : (g₃.push { cls := .type "tuple", data := .seq #[x, y] }).objs.size = g₃.objs.size + 1 := Heap.size_push ..
  rw [hsz] at hp h4 ⊢
  exact hQ _ (Heap.get?_push_of_some _ kz) (k1.at fun o e => Heap.get?_push_of_some _ e) (h2₃.at fun o e => Heap.get?_push_of_some _ e) hp h4 fun c o c1 c2 c3 e => Heap.get?_push_of_some _ (kk c o c1 c2 c3 e)
theorem end_held {f : Bool} {oT : Obj} {k1 k2 : Nat} {Q : Fin → Shared → Prop} (hh : A.handled = none) (D : ZipApart z TI TO i1 i2 l1 l2)
    (hz : IsZipHeld s.heap z TI TO T f) (hT : s.heap.get? T = some oT) (hTI : IsPair s.heap TI (.ref i1) (.ref i2))
    (h1 : s.heap.IsTupleIter i1 l1 k1) (h2 : s.heap.IsTupleIter i2 l2 k2) (hl1 : s.heap.IsTuple l1 xs) (hl2 : s.heap.IsTuple l2 ys) (hend : xs[k1]? = none ∨ ys[k2]? = none)
    (hE : ∀ h' e, (∀ c o, c ≠ z → c ≠ i1 → c ≠ i2 → s.heap.get? c = some o → h'.get? c = some o) → (∃ o, h'.get? e = some o ∧ o.cls = .type "StopIteration") → E (.ref e) { s with heap := h' }) :
    wpAny (model prog w) A (Builtin.«zip.__next__» ⟨[.ref z], []⟩) Q E s := by
  show wpAny _ _ (field (.ref z) 2 >>= _) _ _ _
  refine wpAny_bind (wpAny_field hz rfl (x := .bool false) rfl ?_)
  show wpAny _ _ (field (.ref z) 3 >>= _) _ _ _
  refine wpAny_bind (wpAny_field hz rfl (x := .ref TI) rfl ?_)
  refine wpAny_bind (wpAny_seqItems hTI rfl ?_)
  show wpAny _ _ (Builtin.SmallTypes.ownedTupleIsFree (.ref z) >>= _) _ _ _
  refine wpAny_bind (wpAny_tupleHeld_zip hz hT fun g₁ hz₁ hs₁ => ?_)
  simp only [Bool.false_eq_true, if_false]
  refine wpAny_bind ?_
  rw [← Array.forIn_toList]
  simp only [List.forIn_cons, List.forIn_nil]
  refine wpAny_bind (wpAny_bind (wpAny_holding ?_))
  show wpAny _ _ (Builtin.SmallTypes.nextOf (.ref i1) >>= _) _ _ _
  cases hx : xs[k1]? with
  | none =>
    refine wpAny_bind (RZ.nextOf_tuple_end (s := { s with heap := g₁ }) hh (h1.extBut hs₁.extBut D.i1z) (hl1.extBut hs₁.extBut D.l1z) hx fun g₂ e hs₂ he => ?_)
    exact hE g₂ e (fun c o c1 c2 _ x => hs₂ _ _ c2 (hs₁.extBut _ _ c1 x)) he
  | some x =>
    have hy : ys[k2]? = none := by rcases hend with h | h; rw [hx] at h; cases h; exact h
    refine wpAny_bind (RZ.nextOf_tuple_item (s := { s with heap := g₁ }) (h1.extBut hs₁.extBut D.i1z) (hl1.extBut hs₁.extBut D.l1z) hx fun g₂ h1₂ hs₂ => wpAny_pure ?_)
    refine wpAny_pure ?_
    refine wpAny_bind (wpAny_bind (wpAny_holding ?_))
    show wpAny _ _ (Builtin.SmallTypes.nextOf (.ref i2) >>= _) _ _ _
    refine wpAny_bind (RZ.nextOf_tuple_end (s := { s with heap := g₂ }) hh ((h2.extBut hs₁.extBut D.i2z).extBut hs₂.extBut D.i12.symm) ((hl2.extBut hs₁.extBut D.l2z).extBut hs₂.extBut D.l2i1) hy fun g₃ e hs₃ he => ?_)
    exact hE g₃ e (fun c o c1 c2 c3 x => hs₃ _ _ c3 (hs₂.extBut _ _ c2 (hs₁.extBut _ _ c1 x))) he
/-- the cells of the zip, i pairs on; S: where the list is -/
structure At (h : Heap) (z TI TO i1 i2 l1 l2 S : Addr) (xs ys : Array Value) (i : Nat) : Prop where
  pTI : IsPair h TI (.ref i1) (.ref i2)
  t1 : h.IsTupleIter i1 l1 i
  t2 : h.IsTupleIter i2 l2 i
  a1 : h.IsTuple l1 xs
  a2 : h.IsTuple l2 ys
  zz : (IsZip h z TI TO .none ∧ ∃ a b, IsPair h TO a b) ∨ ∃ (T : Addr) (f : Bool) (oT : Obj), IsZipHeld h z TI TO T f ∧ h.get? T = some oT ∧ T ≠ z ∧ T ≠ i1 ∧ T ≠ i2 ∧ T ≠ S
structure Low (z TI TO i1 i2 l1 l2 S : Addr) : Prop where
  z : z < S
  TI : TI < S
  TO : TO < S
  i1 : i1 < S
  i2 : i2 < S
  l1 : l1 < S
  l2 : l2 < S
theorem At.keep {h h' : Heap} {i : Nat} (L : Low z TI TO i1 i2 l1 l2 S) (x : At h z TI TO i1 i2 l1 l2 S xs ys i) (k : ∀ c o, c ≠ S → h.get? c = some o → h'.get? c = some o) : At h' z TI TO i1 i2 l1 l2 S xs ys i := by
  refine ⟨k _ _ (Nat.ne_of_lt L.TI) x.pTI, x.t1.at fun o e => k _ o (Nat.ne_of_lt L.i1) e, x.t2.at fun o e => k _ o (Nat.ne_of_lt L.i2) e, x.a1.at fun o e => k _ o (Nat.ne_of_lt L.l1) e, x.a2.at fun o e => k _ o (Nat.ne_of_lt L.l2) e, ?_⟩
  rcases x.zz with ⟨a, b, c, d⟩ | ⟨T, f, oT, a, b, c1, c2, c3, c4⟩
  · exact .inl ⟨k _ _ (Nat.ne_of_lt L.z) a, b, c, k _ _ (Nat.ne_of_lt L.TO) d⟩
  · exact .inr ⟨T, f, oT, k _ _ (Nat.ne_of_lt L.z) a, k _ _ c4 b, c1, c2, c3, c4⟩
theorem At.next {i : Nat} {x y : Value} {Q : Option Value → Shared → Prop} (D : ZipApart z TI TO i1 i2 l1 l2) (L : Low z TI TO i1 i2 l1 l2 S) (hS : S < s.heap.objs.size) (st : At s.heap z TI TO i1 i2 l1 l2 S xs ys i) (hx : xs[i]? = some x) (hy : ys[i]? = some y)
    (hQ : ∀ h', At h' z TI TO i1 i2 l1 l2 S xs ys (i + 1) → IsPair h' s.heap.objs.size x y → h'.objs.size = s.heap.objs.size + 1 → (∀ c o, c ≠ z → c ≠ TO → c ≠ i1 → c ≠ i2 → s.heap.get? c = some o → h'.get? c = some o) → Q (some (.ref s.heap.objs.size)) { s with heap := h' }) :
    wpAny (model prog w) A (pyNext (.ref z)) Q E s := by
  have ltz : ∀ {a : Addr}, a < S → s.heap.objs.size ≠ a := fun {a} h => Nat.ne_of_gt (Nat.lt_trans h hS)
  rcases st.zz with ⟨hz, a, b, hTO⟩ | ⟨T, f, oT, hz, hT, n1, n2, n3, n4⟩
  · refine RZ.pyNext_zipT_item D hz st.pTI hTO st.t1 st.t2 st.a1 st.a2 hx hy fun h' c1 c2 c3 c4 c5 c6 c7 => hQ h' ⟨c7 _ _ D.TIz D.TITO D.TIi1 D.TIi2 st.pTI, c3, c4, st.a1.at fun o e => c7 _ o D.l1z D.l1TO D.l1i1 D.l1i2 e, st.a2.at fun o e => c7 _ o D.l2z D.l2TO D.l2i1 D.l2i2 e, .inr ⟨s.heap.objs.size, false, _, c1, c5, ltz L.z, ltz L.i1, ltz L.i2, Nat.ne_of_gt hS⟩⟩ c5 c6 c7
  · have hTy : s.TypeIs (.ref z) "zip" := ⟨_, hz, rfl⟩
    unfold pyNext
    exact wpAny_bind (wpAny_attempt (wpAny_callSpecial?_slot (name := Str.ofString "__next__") hTy F.slot_zip_next
      (wpAny_call_entry F.slot_zip_next hTy F.entry_zip_next
        (item_held D hz hT st.pTI st.t1 st.t2 st.a1 st.a2 hx hy fun h' c1 c3 c4 c5 c6 c7 => wpAny_pure (hQ h' ⟨c7 _ _ D.TIz D.TIi1 D.TIi2 st.pTI, c3, c4, st.a1.at fun o e => c7 _ o D.l1z D.l1i1 D.l1i2 e, st.a2.at fun o e => c7 _ o D.l2z D.l2i1 D.l2i2 e, .inr ⟨T, true, oT, c1, c7 _ _ n1 n2 n3 hT, n1, n2, n3, n4⟩⟩ c5 c6 fun c o e1 _ e3 e4 e => c7 c o e1 e3 e4 e)) (F.args_zip_next_1 _))))
theorem At.over {i : Nat} {Q : Option Value → Shared → Prop} (hh : A.handled = none) (D : ZipApart z TI TO i1 i2 l1 l2) (st : At s.heap z TI TO i1 i2 l1 l2 S xs ys i) (hend : xs[i]? = none ∨ ys[i]? = none)
    (hQ : ∀ h', (∀ c o, c ≠ z → c ≠ TO → c ≠ i1 → c ≠ i2 → s.heap.get? c = some o → h'.get? c = some o) → Q none { s with heap := h' }) : wpAny (model prog w) A (pyNext (.ref z)) Q E s := by
  rcases st.zz with ⟨hz, a, b, hTO⟩ | ⟨T, f, oT, hz, hT, n1, n2, n3, n4⟩
  · exact RZ.pyNext_zipT_end hh D hz st.pTI hTO st.t1 st.t2 st.a1 st.a2 hend hQ
  · have hTy : s.TypeIs (.ref z) "zip" := ⟨_, hz, rfl⟩
    unfold pyNext
    refine wpAny_bind (wpAny_attempt (wpAny_callSpecial?_slot (name := Str.ofString "__next__") hTy F.slot_zip_next
      (wpAny_call_entry F.slot_zip_next hTy F.entry_zip_next (end_held hh D hz hT st.pTI st.t1 st.t2 st.a1 st.a2 hend fun h' e hk he => ?_) (F.args_zip_next_1 _))))
    obtain ⟨o, ho, hc⟩ := he
    refine wpAny_bind (wpAny_isInstance (T := "StopIteration") (b := true) ⟨o, ho, hc⟩ isSubtype_stop ?_)
    exact wpAny_pure (hQ _ fun c o e1 _ e3 e4 e => hk c o e1 e3 e4 e)
/-- the pairs made -/
structure Made (xs ys : Array Value) (S : Addr) (h : Heap) (as : List Addr) : Prop where
  rise : as.Pairwise (· < ·)
  above : ∀ a, a ∈ as → S < a
  pairs : ∀ (j : Nat) (a : Addr), as[j]? = some a → ∃ x y, xs[j]? = some x ∧ ys[j]? = some y ∧ IsPair h a x y
theorem Made.there {h : Heap} {as : List Addr} (g : Made xs ys S h as) {a : Addr} (ha : a ∈ as) : a < h.objs.size := by
  obtain ⟨j, hj⟩ := List.mem_iff_getElem?.mp ha
  obtain ⟨_, _, _, _, e⟩ := g.pairs j a hj
  exact Heap.lt_size e
theorem loop {R : Result → Shared → Prop} (hh : A.handled = none) (D : ZipApart z TI TO i1 i2 l1 l2) (L : Low z TI TO i1 i2 l1 l2 S) (hn : min xs.size ys.size ≤ sizeLine) (res : Value) {h₁ : Heap}
    (hR : ∀ h' tk acc c as, (∀ b o, b ≠ S → b ≠ z → b ≠ TO → b ≠ i1 → b ≠ i2 → h₁.get? b = some o → h'.get? b = some o) → h'.get? S = some { cls := .type "list", dict := none, data := .seq acc c, slots := #[] } → as.length = min xs.size ys.size → Made xs ys S h' as →
      acc.toList = as.map Value.ref → R (.ok (.ret res)) { s with heap := h', toks := tk }) :
    ∀ (k i : Nat) (h : Heap) (tk c : Nat) (acc : Array Value) (as : List Addr), min xs.size ys.size - i = k → i ≤ min xs.size ys.size → At h z TI TO i1 i2 l1 l2 S xs ys i → (∀ b o, b ≠ S → b ≠ z → b ≠ TO → b ≠ i1 → b ≠ i2 → h₁.get? b = some o → h.get? b = some o) →
      h.get? S = some { cls := .type "list", dict := none, data := .seq acc c, slots := #[] } → acc.toList = as.map Value.ref → as.length = i → Made xs ys S h as →
      codeAny (model prog w) A (.builtin "list.extend.loop" ⟨[.ref S, .ref z, res], []⟩) R { s with heap := h, toks := tk } := by
  have ne : ∀ {a : Addr}, a < S → S ≠ a := fun h => Nat.ne_of_gt h
  intro k
  induction k with
  | zero =>
    intro i h tk c acc as hk hi hst hkeep hS hacc hal hG
    have hin : i = min xs.size ys.size := by omega
    refine codeAny_builtin PySem.F.entry_extend_loop ?_
    rw [Around.under_plainId PySem.F.plain_extend_loop _]
    show wpAny _ A.in1 (pyNext (.ref z) >>= _) _ _ _
    have hend : xs[i]? = none ∨ ys[i]? = none := by
      rcases Nat.le_total xs.size ys.size with q | q
      · exact .inl (Array.getElem?_eq_none (by omega))
      · exact .inr (Array.getElem?_eq_none (by omega))
    refine wpAny_bind (At.over (s := { s with heap := h, toks := tk }) (A := A.in1) hh D hst hend fun h' he => ?_)
    refine wpAny_pure (hR h' tk acc c as (fun b o e1 e2 e3 e4 e5 e => he b o e2 e3 e4 e5 (hkeep b o e1 e2 e3 e4 e5 e)) (he S _ (ne L.z) (ne L.TO) (ne L.i1) (ne L.i2) hS) (by omega) ⟨hG.rise, hG.above, fun j a hj => ?_⟩ hacc)
    obtain ⟨x, y, e1, e2, e3⟩ := hG.pairs j a hj
    have ha := hG.above a (List.mem_of_getElem? hj)
    exact ⟨x, y, e1, e2, he a _ (Nat.ne_of_gt (Nat.lt_trans L.z ha)) (Nat.ne_of_gt (Nat.lt_trans L.TO ha)) (Nat.ne_of_gt (Nat.lt_trans L.i1 ha)) (Nat.ne_of_gt (Nat.lt_trans L.i2 ha)) e3⟩
  | succ k ih =>
    intro i h tk c acc as hk hi hst hkeep hS hacc hal hG
    have hlt : i < min xs.size ys.size := by omega
    have hx : xs[i]? = some (xs[i]'(by omega)) := by simp
    have hy : ys[i]? = some (ys[i]'(by omega)) := by simp
    have hsz : acc.size = i := by rw [← Array.length_toList, hacc, List.length_map, hal]
    have hSl : S < h.objs.size := Heap.lt_size hS
    refine codeAny_builtin PySem.F.entry_extend_loop ?_
    rw [Around.under_plainId PySem.F.plain_extend_loop _]
    show wpAny _ A.in1 (pyNext (.ref z) >>= _) _ _ _
    refine wpAny_bind (At.next (s := { s with heap := h, toks := tk }) D L hSl hst hx hy fun h' hst' ht hz hkp => ?_)
    dsimp only at ht hz hkp ⊢
    have hS' := hkp S _ (ne L.z) (ne L.TO) (ne L.i1) (ne L.i2) hS
    have up : ∀ b o, b ≠ S → h'.get? b = some o → (h'.update S (Obj.mapSeq (·.push (Value.ref h.objs.size)))).get? b = some o := fun b o hb e => (Heap.get?_update_other _ _ (Ne.symm hb)).trans e
    show wpAny _ A.in1 (updateSeq S (·.push (Value.ref h.objs.size)) >>= _) _ _ _
    refine wpAny_bind ?_
    refine wpAny_updateSeq hS' rfl (wpAny_pure ⟨plainId_quiet PySem.F.plain_extend_loop _, ih (i + 1) _ tk _ (acc.push (Value.ref h.objs.size)) (as ++ [h.objs.size]) (by omega) hlt (hst'.keep L up)
      (fun b o e1 e2 e3 e4 e5 e => up b o e1 (hkp b o e2 e3 e4 e5 (hkeep b o e1 e2 e3 e4 e5 e))) (Heap.get?_update_self _ hS' rfl) (by rw [Array.toList_push, hacc, List.map_append]; rfl) (by rw [List.length_append, hal]; rfl) ⟨?_, ?_, ?_⟩⟩) (by rw [hsz]; omega) (by show (acc.push (Value.ref h.objs.size)).size ≤ sizeLine + 1; rw [Array.size_push, hsz]; omega)
    · refine List.pairwise_append.mpr ⟨hG.rise, List.pairwise_singleton _ _, fun a ha b hb => ?_⟩
      rw [List.mem_singleton.mp hb]
      exact hG.there ha
    · intro a ha
      rcases List.mem_append.mp ha with ha | ha
      · exact hG.above a ha
      · rw [List.mem_singleton.mp ha]; exact hSl
    · intro j b hj
      rcases Nat.lt_trichotomy j as.length with h1 | h1 | h1
      · rw [List.getElem?_append_left h1] at hj
        obtain ⟨x, y, e1, e2, e3⟩ := hG.pairs j b hj
        have hb := hG.above b (List.mem_of_getElem? hj)
        exact ⟨x, y, e1, e2, up b _ (Nat.ne_of_gt hb) (hkp b _ (Nat.ne_of_gt (Nat.lt_trans L.z hb)) (Nat.ne_of_gt (Nat.lt_trans L.TO hb)) (Nat.ne_of_gt (Nat.lt_trans L.i1 hb)) (Nat.ne_of_gt (Nat.lt_trans L.i2 hb)) e3)⟩
      · subst h1
        have hb : h.objs.size = b := by simpa using hj
        subst hb
        rw [hal]
        exact ⟨_, _, hx, hy, up _ _ (Nat.ne_of_gt hSl) ht⟩
      · have hnone : (as ++ [h.objs.size])[j]? = none := List.getElem?_eq_none (by rw [List.length_append, List.length_singleton]; omega)
        rw [hnone] at hj; cases hj
theorem zip_no_len : typeLookup (.type "zip") "__len__" = pure none := by rw [typeLookup_type, builtinLookup_eq_fast]; kernel_rfl
theorem zip_no_hint : typeLookup (.type "zip") "__length_hint__" = pure none := by rw [typeLookup_type, builtinLookup_eq_fast]; kernel_rfl
theorem hint (hT : s.TypeIs (.ref z) "zip") {Q : Bool → Shared → Prop} (h : Q true s) : wpAny (model prog w) A (Builtin.List.listLengthHint (.ref z)) Q E s := by
  unfold Builtin.List.listLengthHint
  refine wpAny_bind (wpAny_specialOf hT zip_no_len ?_)
  show wpAny _ A (specialOf (Value.ref z) (Str.ofString "__length_hint__") >>= _) _ _ _
  refine wpAny_bind (wpAny_specialOf hT zip_no_hint ?_)
  exact wpAny_pure h
theorem extend {R : Result → Shared → Prop} (hh : A.handled = none) (D : ZipApart z TI TO i1 i2 l1 l2) (L : Low z TI TO i1 i2 l1 l2 S) (hn : min xs.size ys.size ≤ sizeLine) (res : Value) (c₀ : Nat) (hst : At s.heap z TI TO i1 i2 l1 l2 S xs ys 0) (hzz : IsZip s.heap z TI TO .none)
    (hS : s.heap.get? S = some { cls := .type "list", data := .seq #[] c₀ })
    (hR : ∀ h' tk acc c as, (∀ b o, b ≠ S → b ≠ z → b ≠ TO → b ≠ i1 → b ≠ i2 → s.heap.get? b = some o → h'.get? b = some o) → h'.get? S = some { cls := .type "list", dict := none, data := .seq acc c, slots := #[] } → as.length = min xs.size ys.size → Made xs ys S h' as →
      acc.toList = as.map Value.ref → R (.ok (.ret res)) { s with heap := h', toks := tk }) :
    wpAny (model prog w) A.in1 (Builtin.List.listExtendWith (.ref S) (.ref z) res)
      (fun fin s' => match fin with | .done f => R (.ok f) s' | .again c' => c'.quiet = true ∧ codeAny (model prog w) A c' R s') (fun e s' => R (.error e) s') s := by
  have key : ∀ (h : Heap) (c₁ tk : Nat), (∀ b o, b ≠ S → s.heap.get? b = some o → h.get? b = some o) → h.get? S = some { cls := .type "list", data := .seq #[] c₁ } → codeAny (model prog w) A (.builtin "list.extend.loop" ⟨[.ref S, .ref z, res], []⟩) R { s with heap := h, toks := tk } := by
    intro h c₁ tk hk hS₁
    exact loop (s := s) (h₁ := s.heap) hh D L hn res hR (min xs.size ys.size) 0 h tk c₁ #[] [] (Nat.sub_zero _) (Nat.zero_le _) (hst.keep L hk) (fun b o e1 _ _ _ _ e => hk b o e1 e) hS₁ rfl rfl ⟨List.Pairwise.nil, (fun _ ha => nomatch ha), (fun j a hj => by simp at hj)⟩
  have hT : s.TypeIs (.ref z) "zip" := ⟨_, hzz, rfl⟩
  unfold Builtin.List.listExtendWith
  refine wpAny_bind (wpAny_typeOf (T := "zip") hT ?_)
  have h1 : Builtin.List.listSameRef (.ref S) (.ref z) = false := by simp [Builtin.List.listSameRef, Nat.ne_of_gt L.z]
  have h2 : (Value.type "zip" == Value.type "list") = false := by decide
  have h3 : (Value.type "zip" == Value.type "tuple") = false := by decide
  simp only [h1, h2, h3, Bool.or_false, Bool.false_eq_true, if_false]
  refine wpAny_bind (wpAny_pyIter_zip hzz ?_)
  refine wpAny_bind (wpAny_holding (hint hT ?_))
  refine wpAny_ite_split (fun _ => ?_) (fun _ => wpAny_pure ⟨plainId_quiet PySem.F.plain_extend_loop _, key _ c₀ _ (fun b o _ e => e) hS⟩)
  refine wpAny_bind (wpAny_rule ?_)
  refine wpAny_bind ?_
  show wpAny _ _ (updateSeq S (·.push .none) >>= fun _ => updateSeq S (·.pop)) _ _ _
  refine wpAny_bind (wpAny_updateSeq hS rfl ?_)
  have hS₂ := Heap.get?_update_self (Obj.mapSeq (·.push Value.none)) hS rfl
  refine wpAny_updateSeq (hz := by seq_fits) hS₂ rfl ?_
  have hS₃ := Heap.get?_update_self (Obj.mapSeq (·.pop)) hS₂ rfl
  refine wpAny_pure ⟨plainId_quiet PySem.F.plain_extend_loop _, key _ _ _ (fun b o hb e => ?_) hS₃⟩
  exact (Heap.get?_update_other _ _ (Ne.symm hb)).trans ((Heap.get?_update_other _ _ (Ne.symm hb)).trans e)
theorem call {Q : Value → Shared → Prop} (hh : A.handled = none) (D : ZipApart z TI TO i1 i2 l1 l2) (L : Low z TI TO i1 i2 l1 l2 s.heap.objs.size) (hn : min xs.size ys.size ≤ sizeLine) (hst : ∀ S, At s.heap z TI TO i1 i2 l1 l2 S xs ys 0) (hzz : IsZip s.heap z TI TO .none)
    (hQ : ∀ h' tk acc c as, (∀ b o, b ≠ z → b ≠ TO → b ≠ i1 → b ≠ i2 → s.heap.get? b = some o → h'.get? b = some o) → h'.get? s.heap.objs.size = some { cls := .type "list", dict := none, data := .seq acc c, slots := #[] } → as.length = min xs.size ys.size → Made xs ys s.heap.objs.size h' as →
      acc.toList = as.map Value.ref → Q (.ref s.heap.objs.size) { s with heap := h', toks := tk }) :
    wpAny (model prog w) A (PySem.call (.type "list") [.ref z]) Q E s := by
  refine callType_codes (Q₁ := fun obj s₁ => obj = .ref s.heap.objs.size ∧ s₁ = { s with heap := s.heap.push { cls := .type "list", data := .seq #[] } }) PySem.F.called_list (PySem.F.typeCall_list_1 _) PySem.F.entry_list_init
    (code_list_new _ ⟨rfl, rfl⟩) fun obj s₁ h₁ => ?_
  obtain ⟨rfl, rfl⟩ := h₁
  have hS : (s.heap.push { cls := .type "list", data := .seq #[] }).get? s.heap.objs.size = some { cls := .type "list", data := .seq #[] } := Heap.get?_push_size _ rfl
  have ks : ∀ b o, s.heap.get? b = some o → (s.heap.push { cls := .type "list", data := .seq #[] }).get? b = some o := fun b o e => Heap.get?_push_of_some _ e
  refine ⟨⟨_, hS, rfl⟩, PySem.F.args_list_init_2 _ _, ?_⟩
  show wpAny _ _ (do let old ← Builtin.List.listItems (.ref s.heap.objs.size); Builtin.List.listUpdate (.ref s.heap.objs.size) (fun _ => #[]); letGo old.toList.reverse; Builtin.List.listExtendWith (.ref s.heap.objs.size) (.ref z) .none) _ _ _
  refine wpAny_bind ?_
  unfold Builtin.List.listItems
  refine wpAny_bind (wpAny_seqItems hS rfl (wpAny_pure ?_))
  show wpAny _ _ (updateSeq s.heap.objs.size (fun _ => #[]) >>= fun _ => letGo (#[] : Array Value).toList.reverse >>= fun _ => Builtin.List.listExtendWith (.ref s.heap.objs.size) (.ref z) .none) _ _ _
  refine wpAny_bind (wpAny_updateSeq hS rfl ?_)
  have hS₂ := Heap.get?_update_self (Obj.mapSeq (fun _ => (#[] : Array Value))) hS rfl
  have oth : ∀ b o, b ≠ s.heap.objs.size → s.heap.get? b = some o → ((s.heap.push { cls := .type "list", data := .seq #[] }).update s.heap.objs.size (Obj.mapSeq (fun _ => (#[] : Array Value)))).get? b = some o :=
    fun b o hb e => (Heap.get?_update_other _ _ (Ne.symm hb)).trans (ks b o e)
  refine wpAny_bind (wpAny_letGo ?_)
  refine extend (A := A.in1) hh D L hn .none _ ((hst s.heap.objs.size).keep L oth) (oth z _ (Nat.ne_of_lt L.z) hzz) hS₂ fun h' tk acc c as hk hS' hl hG hacc => ?_
  exact ⟨rfl, hQ h' tk acc c as (fun b o e2 e3 e4 e5 e => hk b o (Nat.ne_of_lt (Heap.lt_size e)) e2 e3 e4 e5 (oth b o (Nat.ne_of_lt (Heap.lt_size e)) e)) hS' hl hG hacc⟩
end
end ZL
set_option Elab.async false
set_option linter.all false
set_option maxRecDepth 100000
set_option maxHeartbeats 4000000
/-! DL: list(zip(a, b)) of two tuples, the rule. -/
namespace DL
open PySem PySem.Spec L2
open PyProof.Rows hiding St
/-- pairs laid one after the other -/
def putP : Hp → List Addr → List (V × V) → Hp
  | H, a :: as, p :: ps => putP (upd H a (.tup [p.1, p.2])) as ps
  | H, _, _ => H
theorem putP_off {b : Addr} : ∀ (as : List Addr) (ps : List (V × V)) (H : Hp), b ∉ as → putP H as ps b = H b
  | [], _, _, _ => rfl
  | _ :: _, [], _, _ => rfl
  | a :: as, p :: ps, H, h => by
    show putP (upd H a (.tup [p.1, p.2])) as ps b = H b
    rw [putP_off as ps _ (fun z => h (List.mem_cons_of_mem _ z)), upd_ne (fun z => h (by rw [z]; exact List.mem_cons_self))]
theorem putP_at : ∀ (as : List Addr) (ps : List (V × V)) (H : Hp), as.Nodup → ∀ (j : Nat) (a : Addr) (p : V × V), as[j]? = some a → ps[j]? = some p → putP H as ps a = some (.tup [p.1, p.2])
  | [], _, _, _, j, a, p, h, _ => by simp at h
  | _ :: _, [], _, _, j, a, p, _, h => by simp at h
  | a0 :: as, p0 :: ps, H, nd, 0, a, p, h1, h2 => by
    simp at h1 h2
    subst h1 h2
    show putP (upd H a0 (.tup [p0.1, p0.2])) as ps a0 = _
    rw [putP_off as ps _ (List.nodup_cons.mp nd).1, upd_same]
  | a0 :: as, p0 :: ps, H, nd, j + 1, a, p, h1, h2 => putP_at as ps (upd H a0 (.tup [p0.1, p0.2])) (List.nodup_cons.mp nd).2 j a p (by simpa using h1) (by simpa using h2)
theorem vals_back : ∀ {xs : List V} {us : List Value}, Vals xs us → ∀ {j : Nat} {u : Value}, us[j]? = some u → ∃ v, xs[j]? = some v ∧ RelV v u
  | _, _, .nil, j, u, h => by simp at h
  | _, _, .cons r rr, 0, u, h => by simp at h; subst h; exact ⟨_, rfl, r⟩
  | _, _, .cons r rr, j + 1, u, h => by
    obtain ⟨v, e, q⟩ := vals_back rr (j := j) (u := u) (by simpa using h)
    exact ⟨v, by simpa using e, q⟩
section
variable {X : Cx}
theorem laidP {pins : List (Addr × Obj)} {σ : L2.St} {H : Hp} {s : Shared} {h' : Heap} {tk : Nat} {xs ys : List V} {us vs : List Value} {acc : Array Value} {c : Nat} {as : List Addr} {S : Addr} (I : Inv X pins σ H s) (hz : min us.length vs.length ≤ sizeLine) (rx : Vals xs us) (ry : Vals ys vs)
    (hk : ∀ b o, s.heap.get? b = some o → h'.get? b = some o) (lS : s.heap.objs.size ≤ S) (hS : h'.get? S = some { cls := .type "list", dict := none, data := .seq acc c, slots := #[] }) (hl : as.length = min us.length vs.length) (hG : ZL.Made us.toArray vs.toArray S h' as) (hacc : acc.toList = as.map Value.ref) :
    H S = none ∧ (∀ t ∈ as, H t = none) ∧ S ∉ as ∧ as.Nodup ∧ Inv X pins σ (upd (putP H as (xs.zip ys)) S (.lst (as.map V.ref))) { s with heap := h', toks := tk } := by
  have hSn : S ∉ as := fun z => Nat.lt_irrefl _ (hG.above _ z)
  have nd : as.Nodup := List.Pairwise.imp (fun {a b} (h : a < b) => Nat.ne_of_lt h) hG.rise
  have new : ∀ t ∈ as, H t = none := fun t ht => I.hok.fresh (Nat.le_trans lS (Nat.le_of_lt (hG.above t ht)))
  have newS : H S = none := I.hok.fresh lS
  have off : ∀ b, b ∉ as → b ≠ S → upd (putP H as (xs.zip ys)) S (.lst (as.map V.ref)) b = H b := fun b h1 h2 => by rw [upd_ne h2, putP_off as _ _ h1]
  have low : ∀ b o, s.heap.get? b = some o → b ∉ as ∧ b ≠ S := fun b o e => ⟨fun z => absurd (Heap.lt_size e) (Nat.not_lt.mpr (Nat.le_trans lS (Nat.le_of_lt (hG.above b z)))), fun z => absurd (Heap.lt_size e) (by rw [z]; exact Nat.not_lt.mpr lS)⟩
  have kp : ∀ b u, H b = some u → upd (putP H as (xs.zip ys)) S (.lst (as.map V.ref)) b = some u := fun b u e => by
    rw [off b (fun z => by rw [new b z] at e; cases e) (fun z => by rw [z, newS] at e; cases e)]
    exact e
  refine ⟨newS, new, hSn, nd, ?_⟩
  refine I.call' (ch := []) rfl ⟨fun b o q _ _ _ => hk b o q, fun b o q _ _ _ => ⟨o.slots, hk b o q⟩, fun b o q n _ => ?_, fun b o q _ => ⟨o, hk b o q⟩, fun b xs q => kp b _ q, fun b o u q => kp b _ q, fun b ps q => ⟨#[], by rw [kp b _ q]; simp⟩⟩ (fun b u q => ?_) I.bare fun b z => by simp at z
  · obtain ⟨z1, z2⟩ := low b o q
    rw [off b z1 z2]
    exact n
  · by_cases hb2 : b = S
    · rw [hb2] at q ⊢
      rw [upd_same] at q
      cases q
      refine ⟨by rw [List.length_map, hl]; exact hz, acc.toList, c, by rw [hacc]; exact LiI.vals_refs as, ?_⟩
      rw [Array.toArray_toList]
      exact hS
    · by_cases hb : b ∈ as
      · obtain ⟨j, hj⟩ := List.mem_iff_getElem?.mp hb
        obtain ⟨x, y, e1, e2, e3⟩ := hG.pairs j b hj
        have e1' : us[j]? = some x := by simpa using e1
        have e2' : vs[j]? = some y := by simpa using e2
        obtain ⟨vx, f1, r1⟩ := vals_back rx e1'
        obtain ⟨vy, f2, r2⟩ := vals_back ry e2'
        have ez : (xs.zip ys)[j]? = some (vx, vy) := by rw [List.getElem?_zip_eq_some]; exact ⟨f1, f2⟩
        rw [upd_ne hb2, putP_at as _ _ nd j b _ hj ez] at q
        cases q
        exact ⟨by show 2 ≤ sizeLine; decide, [x, y], .cons r1 (.cons r2 .nil), ⟨_, e3, rfl, _, rfl⟩⟩
      · rw [off b hb hb2] at q
        exact (I.hok b u q).stay (fun d v _ y => hk d v y) (fun d y => kp d _ y) fun d xs y => kp d _ y
def tZipL (K : PySem.W.Frag) (ta : TA) : TE := fun σ H Q => ta σ H fun vs H1 => ∃ (a b : Addr) (xs ys : List V), vs = [.ref a, .ref b] ∧ SqT K H1 a xs ∧ SqT K H1 b ys ∧ min xs.length ys.length ≤ sizeLine ∧
  ∀ (p : Addr) (ts : List Addr), H1 p = none → (∀ t ∈ ts, H1 t = none) → p ∉ ts → ts.Nodup → ts.length = min xs.length ys.length → Q (.ref p) (upd (putP H1 ts (xs.zip ys)) p (.lst (ts.map V.ref)))
theorem pe_zipL {a b : Expr} {ta : TA} {p p2 pos pos2 : Pos} (hm : X.mg "list" = none) (hg : Gl X "list") (hm2 : X.mg "zip" = none) (hg2 : Gl X "zip") (hc : X.calm = true) (ha : PA X [a, b] ta)
    (hs : starEach [a, b] X.env = (false, eval a X.env) :: starEach [b] X.env := by rfl) (hpl : (backTo pos (starEach [b] X.env)).any (·.1) = false := by rfl)
    (hs2 : starEach [.Call (.Name "zip" p2) [a, b] [] pos] X.env = (false, eval (.Call (.Name "zip" p2) [a, b] [] pos) X.env) :: starEach [] X.env := by rfl) :
    PE X (.Call (.Name "list" p) [.Call (.Name "zip" p2) [a, b] [] pos] [] pos2) (tZipL X.K ta) := by
  refine ⟨fun pins s σ H Q I h => ?_⟩
  refine wpAny_Call_Name_kw (ld_blt I hg hm b_list ?_ (by decide) (by decide))
  refine PyProof.Rows.callWith_type1 ?_ hs2 rfl
  rw [hs2]
  show wpAny _ _ (spliced ((false, eval (.Call (.Name "zip" p2) [a, b] [] pos) X.env) :: backTo pos2 (starEach [] X.env))) _ _ s
  refine Calls.spliced_cons ?_
  refine Call_ (ld_blt I hg2 hm2 PyProof.Rows.boot_zip (PyProof.Rows.callWith_type1 (thn (ha.run pos pins s σ H _ I h) fun us s1 ⟨vs, H1, I1, r1, q1⟩ => ?_) hs hpl))
  obtain ⟨l1, l2, xs, ys, ex, hx, hy, hn, q⟩ := q1
  subst ex
  cases r1 with
  | cons r rr =>
    cases rr with
    | cons r' rr =>
      cases rr
      cases r
      cases r'
      obtain ⟨its, rv, p1, _⟩ := I1.tuple hx
      obtain ⟨its2, rv2, p2', _⟩ := I1.tuple hy
      obtain ⟨o1, ho1, _⟩ := id p1
      obtain ⟨o2, ho2, _⟩ := id p2'
      have t1 : s1.heap.IsTuple l1 its.toArray := p1
      have t2 : s1.heap.IsTuple l2 its2.toArray := p2'
      have lt1 := Heap.lt_size ho1
      have lt2 := Heap.lt_size ho2
      refine RZ.call_zipT t1 t2 fun h' hz hTI hTO h1 h2 hsz hk => ?_
      refine Calls.spliced_nil ?_
      have D := PySem.W.ktu_apart s1.heap.objs.size l1 l2 lt1 lt2
      have sz : h'.objs.size = s1.heap.objs.size + 5 := hsz
      refine ZL.call (s := { s1 with heap := h' }) (xs := its.toArray) (ys := its2.toArray) (I1.ok.hd hc) D ⟨?_, ?_, ?_, ?_, ?_, ?_, ?_⟩ (by simpa [← rv.length, ← rv2.length] using hn) (fun S => ⟨hTI, h1, h2, t1.at fun o e => hk _ o e, t2.at fun o e => hk _ o e, .inl ⟨hz, _, _, hTO⟩⟩) hz fun h2' tk acc c as k2 hS hl hG hacc => ?_
      any_goals (show _ < h'.objs.size; rw [sz]; simp only [Addr] at *; omega)
      have kk : ∀ b o, s1.heap.get? b = some o → h2'.get? b = some o := fun b o e => by
        have lb := Heap.lt_size e
        exact k2 b o (Nat.ne_of_lt (Nat.lt_of_lt_of_le lb (Nat.le_add_right _ _))) (Nat.ne_of_lt (Nat.lt_of_lt_of_le lb (Nat.le_add_right _ _))) (Nat.ne_of_lt lb) (Nat.ne_of_lt (Nat.lt_of_lt_of_le lb (Nat.le_add_right _ _))) (hk b o e)
      obtain ⟨c1, c2, c3, c4, J⟩ := laidP (tk := tk) (as := as) (S := h'.objs.size) I1 (by simpa [← rv.length, ← rv2.length] using hn) rv rv2 kk (by rw [sz]; exact Nat.le_add_right _ _) hS (by simpa using hl) hG hacc
      exact ⟨.ref h'.objs.size, _, J, rfl, q h'.objs.size as c1 c2 c3 c4 (by rw [hl, rv.length, rv2.length]; simp)⟩
end
end DL
set_option Elab.async false
set_option linter.all false
set_option maxRecDepth 100000
set_option maxHeartbeats 4000000
/-! DL: list(zip(a, b)) over data. -/
namespace DL
open PySem PySem.Spec L2
open PyProof.Rows hiding St
section
variable {X : Cx} {W : WX} {K : PySem.W.Frag} {mg : Str → Option Value} {F : AP} {bs : List Addr} {H0 H : Hp} {δ : List Sl} {σ : St}
theorem Rel.pairs : ∀ {l m : List D} {xs ys : List V} {ts : List Addr} {H : Hp}, Rel K mg F bs H0 δ σ H → RepL K mg (AA F δ σ) H l xs → RepL K mg (AA F δ σ) H m ys → ts.Nodup → (∀ t ∈ ts, H t = none) → ts.length = min xs.length ys.length →
    Rel K mg F bs H0 δ σ (putP H ts (xs.zip ys)) ∧ Keep bs δ σ H δ σ (putP H ts (xs.zip ys)) ∧ RepL K mg (AA F δ σ) (putP H ts (xs.zip ys)) (zipD l m) (ts.map V.ref)
  | [], m, xs, ys, ts, H, R, rx, ry, nd, fr, hl => by
    simp only [RepL] at rx
    subst rx
    have : ts = [] := List.eq_nil_of_length_eq_zero (by simpa using hl)
    subst this
    exact ⟨R, .refl, RepL.nil⟩
  | d :: l, [], xs, ys, ts, H, R, rx, ry, nd, fr, hl => by
    simp only [RepL] at ry
    subst ry
    have : ts = [] := List.eq_nil_of_length_eq_zero (by simpa using hl)
    subst this
    exact ⟨R, .refl, RepL.nil⟩
  | d :: l, e :: m, xs, ys, ts, H, R, rx, ry, nd, fr, hl => by
    simp only [RepL] at rx ry
    obtain ⟨x, xr, ex, x1, x2⟩ := rx
    obtain ⟨y, yr, ey, y1, y2⟩ := ry
    subst ex ey
    cases ts with
    | nil => simp at hl
    | cons t ts =>
      obtain ⟨nt, nd'⟩ := List.nodup_cons.mp nd
      have ht := fr t List.mem_cons_self
      obtain ⟨R1, k1, r1⟩ := R.tup (RepL.cons x1 (RepL.cons y1 RepL.nil)) ht
      have m1 := R.mv k1
      obtain ⟨R2, k2, r2⟩ := Rel.pairs (ts := ts) R1 (x2.mv m1) (y2.mv m1) nd' (fun u hu => by
        have ne : u ≠ t := fun z => nt (by rw [← z]; exact hu)
        rw [upd_ne ne]; exact fr u (List.mem_cons_of_mem _ hu)) (by simpa using hl)
      exact ⟨R2, k1.trans k2, RepL.cons (Rep.mv (R1.mv k2) _ _ r1) r2⟩
def nZipL (f : SA) : SN := fun δ => (f δ).bind fun as δ1 => match as with
  | [.v (.tup l), .v (.tup m)] => if l.length ≤ lim then .ok (.lst (zipD l m)) δ1 else .bad
  | _ => .bad
theorem rd_zipL {f : SA} {Q : VK} (h : rdN K mg W (nZipL f) σ H Q) : tZipL K (rdA K mg W f) σ H Q := by
  obtain ⟨F, bs, H0, δ, R, h⟩ := h
  refine ⟨F, bs, H0, δ, R, Post.imp (Post.first h) fun vs H1 ⟨δ1, as, R1, k1, p, h1⟩ => ?_⟩
  split at h1
  · rename_i l m
    obtain ⟨x, y, ex, pa, pb⟩ := p.two
    by_cases z : l.length ≤ lim
    · rw [if_pos z] at h1
      simp only [AgR, Rep] at pa pb
      obtain ⟨a, xs, ea, ta, ra⟩ := pa
      obtain ⟨b, ys, eb, tb, rb⟩ := pb
      subst ea eb
      refine ⟨a, b, xs, ys, ex, ta.sq, tb.sq, Nat.le_trans (Nat.min_le_left _ _) (by rw [ra.len]; exact lim_le z), fun q ts hq fr nq nd hl => ?_⟩
      obtain ⟨R2, k2, r2⟩ := R1.pairs ra rb nd fr hl
      exact h1 (q, .lst (ts.map V.ref)) _ R2 k2 ⟨by rw [putP_off _ _ _ nq]; exact hq, _, rfl, r2⟩
    · rw [if_neg z] at h1; exact h1.elim
  · exact h1.elim
theorem dn_zipL {a b : Expr} {f : SA} {p p2 pos pos2 : Pos} (hm : X.mg "list" = none) (hg : Gl X "list") (hm2 : X.mg "zip" = none) (hg2 : Gl X "zip") (hc : X.calm = true) (ha : DA X W [a, b] f)
    (hs : starEach [a, b] X.env = (false, eval a X.env) :: starEach [b] X.env := by rfl) (hpl : (backTo pos (starEach [b] X.env)).any (·.1) = false := by rfl)
    (hs2 : starEach [.Call (.Name "zip" p2) [a, b] [] pos] X.env = (false, eval (.Call (.Name "zip" p2) [a, b] [] pos) X.env) :: starEach [] X.env := by rfl) :
    DN X W (.Call (.Name "list" p) [.Call (.Name "zip" p2) [a, b] [] pos] [] pos2) (nZipL f) := (pe_zipL hm hg hm2 hg2 hc ha hs hpl hs2).imp fun _ _ _ => rd_zipL
end
end DL
set_option Elab.async false
set_option linter.all false
set_option maxRecDepth 100000
set_option maxHeartbeats 4000000
/-! DL: sorted(set(list(xs))), ints. -/
namespace DL
open PySem PySem.Spec L2 PyProof.Rows
section
variable {P : Program} {w : World} {A : Around} {E : Value → Shared → Prop} {s : Shared}
theorem set_listI {l : Addr} {items : Array Value} (ns : List Int) {Q : Value → Shared → Prop} (hh : A.handled = none) (hl : s.heap.IsList l items) (hit : IntsAre items.toList ns) (hb : ns.length + 1 < scanBound)
    (h : ∀ (h' : Heap) (tk c : Nat), SetR w h' s.heap.objs.size (fun j => decide (j ∈ ns)) c → c ≤ ns.length → (∀ b o, s.heap.get? b = some o → h'.get? b = some o) → Q (.ref s.heap.objs.size) { s with heap := h', toks := tk }) :
    wpAny (model P w) A (call (.type "set") [.ref l]) Q E s := by
  have hisz : items.size = ns.length := by
    have q := IntsAre.length hit
    rw [Array.length_toList] at q
    exact q
  obtain ⟨c, tl, hmro⟩ := F.called_set.mro
  have hmade := F.called_set.made
  have hsub := F.called_set.sub
  refine wpAny_call (codeAny_of_tree ?_)
  show wpAny _ _ (callAny (.type "set") _) _ _ _
  refine wpAny_pure ⟨Code.quiet_builtin _ (by decide +kernel), codeAny_builtin F.entry_type_call ?_⟩
  rw [Around.under_plain (weight_type_call_type "set" [.ref l] []) rfl]
  have h1 := F.called_set.notType
  have h2 := F.called_set.canCreate
  have hct := F.typeCall_set_1 (.ref l)
  repeat (any_goals (first | assumption | wp_step))

  refine codeAny_mono (code_set_led1 (.ref l) (E := E) (Q₁ := fun obj s₁ => obj = .ref s.heap.objs.size ∧ s₁ = { s with heap := s.heap.push { cls := .type "set", dict := none, data := .set #[] 0 (.fresh 0 0 (!w.params.followText "set-order")) } }) ⟨rfl, rfl⟩) fun r s₁ hr => ?_
  cases r with
  | error e => exact hr
  | ok fl =>
    cases fl with
    | ret obj =>
      obtain ⟨rfl, rfl⟩ := hr
      have hS : (s.heap.push { cls := .type "set", dict := none, data := .set #[] 0 (.fresh 0 0 (!w.params.followText "set-order")) }).get? s.heap.objs.size = some { cls := .type "set", dict := none, data := .set #[] 0 (.fresh 0 0 (!w.params.followText "set-order")) } := Heap.get?_push_size _ rfl
      have hT : Shared.TypeIs { s with heap := s.heap.push { cls := .type "set", dict := none, data := .set #[] 0 (.fresh 0 0 (!w.params.followText "set-order")) } } (.ref s.heap.objs.size) "set" := ⟨_, hS, rfl⟩
      have hli := F.called_set.init.lookup
      have hbi := F.called_set.init.bind (.ref s.heap.objs.size)
      repeat (any_goals (first | assumption | wp_step))

      refine codeAny_mono (codeAny_call_builtin (R := wants (fun r s₂ => r = .none ∧ ∃ h' tk c, s₂ = { s with heap := h', toks := tk } ∧ SetR w h' s.heap.objs.size (fun j => decide (j ∈ ns)) c ∧ c ≤ ns.length ∧
          (∀ b o, s.heap.get? b = some o → h'.get? b = some o)) E) F.called_set.init.plain F.entry_set_init (check_set_init_1 hT ?_)) fun r₂ s₂ hr₂ => ?_
      · obtain ⟨ol, hol, hcl, nl, hdl⟩ := hl
        obtain ⟨ocls, odict, odata, oslots⟩ := ol
        simp only at hcl hdl
        subst hcl; subst hdl
        have hol' : (s.heap.push { cls := .type "set", dict := none, data := .set #[] 0 (.fresh 0 0 (!w.params.followText "set-order")) }).get? l = some { cls := .type "list", dict := odict, data := .seq items nl, slots := oslots } := Heap.get?_push_of_some _ hol
        have hsls := F.sub_list_set
        have hslf := F.sub_list_frozenset
        have hne : (Value.type "list" == Value.type "dict") = false := by decide
        have hl1 : (s.heap.push { cls := .type "set", dict := none, data := .set #[] 0 (.fresh 0 0 (!w.params.followText "set-order")) }).IsList l items := ⟨_, hol', rfl, nl, rfl⟩
        unfold Builtin.«set.__init__» noKeywords Builtin.Frozenset.updateFrom
        generalize hPI : pyIter = PI
        wp_walk
        subst hPI

        refine wpAny_pyIter_list hl1 ?_
        refine wpAny_bind (wpAny_runValue ?_)
        have hlS : l < s.heap.objs.size := Heap.lt_size hol
        have hh3 : A.in1.in1.in1.handled = none := by simp [hh]
        have hz1 : (s.heap.push { cls := .type "set", dict := none, data := .set #[] 0 (.fresh 0 0 (!w.params.followText "set-order")) }).objs.size = s.heap.objs.size + 1 := Heap.size_push ..
        have hneI : l ≠ (s.heap.push { cls := .type "set", dict := none, data := .set #[] 0 (.fresh 0 0 (!w.params.followText "set-order")) }).objs.size := by
          rw [Heap.size_push]; exact Nat.ne_of_lt (Nat.lt_succ_of_lt hlS)
        have hSf : s.heap.objs.size ∉ [(s.heap.push { cls := .type "set", dict := none, data := .set #[] 0 (.fresh 0 0 (!w.params.followText "set-order")) }).objs.size, l] := by
          rw [Heap.size_push]; simp only [List.mem_cons, List.mem_singleton, List.not_mem_nil, or_false, not_or]
          exact ⟨Nat.ne_of_lt (Nat.lt_succ_self _), Nat.ne_of_gt hlS⟩
        have hval : ∀ (i : Nat) (v : Value), items[i]? = some v → ∃ k t, ns[i]? = some k ∧ v = .int k t := fun i v hv => by
          have hi : i < ns.length := by rw [← hisz]; exact (Array.getElem?_eq_some_iff.mp hv).1
          obtain ⟨t, e⟩ := PyProof.Rows.IntsAre.int_at hit i v (by rw [Array.getElem?_toList]; exact hv)
          refine ⟨ns[i], t, List.getElem?_eq_getElem hi, ?_⟩
          rw [e, List.getD_eq_getElem?_getD, List.getElem?_eq_getElem hi] <;> rfl
        refine set_update_ints ((Walks.list hh3 _ l hneI items).toS) s.heap.objs.size
          hSf ns hisz hb hval (items.size - 0) 0 _ (by omega) (Nat.zero_le _)
          ⟨⟨_, Heap.get?_push_size _ rfl, rfl, rfl⟩, (hl1.push _)⟩ ?hS0 ?hR
        case hS0 =>
          have hget : ((s.heap.push { cls := .type "set", dict := none, data := .set #[] 0 (.fresh 0 0 (!w.params.followText "set-order")) }).push { cls := .type "list_iterator", data := .fields #[.ref l, .int 0 0] }).get? s.heap.objs.size
              = some { cls := .type "set", dict := none, data := .set #[] 0 (.fresh 0 0 (!w.params.followText "set-order")) } := Heap.get?_push_of_some _ hS
          exact ⟨0, Nat.le_refl 0, setR_new_at hget⟩
        case hR =>
          intro s' c' hm hc' hS'
          obtain ⟨h', g2, d', tk', os'⟩ := s'
          have eg : g2 = s.gens := hm.gens
          have ed : d' = s.drawn := hm.drawn
          have eo : os' = s.os := hm.os
          subst eg; subst ed; subst eo
          show wpAny _ _ _ _ _ _
          refine wpAny_pure ?_
          show wpAny _ _ (ret Value.none) _ _ _
          rw [hisz] at hc'
          refine wpAny_pure ⟨rfl, h', tk', c', rfl, hS', hc', fun b o e => ?_⟩
          have hb0 : b < s.heap.objs.size := Heap.lt_size e
          have hb1 : b ≠ s.heap.objs.size := Nat.ne_of_lt hb0
          have hb2 : b ≠ (s.heap.push { cls := .type "set", dict := none, data := .set #[] 0 (.fresh 0 0 (!w.params.followText "set-order")) }).objs.size := by
            rw [Heap.size_push]; exact Nat.ne_of_lt (Nat.lt_succ_of_lt hb0)
          exact hm.heap b o (by simp only [List.mem_cons, List.mem_singleton, List.not_mem_nil, or_false, not_or]; exact ⟨hb1, hb2⟩) (Heap.get?_push_of_some _ (Heap.get?_push_of_some _ e))

      · cases r₂ with
        | error e => exact hr₂
        | ok fl₂ =>
          cases fl₂ with
          | ret r =>
            obtain ⟨rfl, h', tk, c', rfl, hS', hc', hk'⟩ := hr₂
            repeat (any_goals (first | assumption | wp_step))
            exact h _ _ _ hS' hc' hk'
          | _ => exact hr₂.elim
    | _ => exact hr.elim
theorem sorted_setI {a : Addr} {S : Int → Bool} {n : Nat} {Q : Value → Shared → Prop} (R : SetR w s.heap a S n) (hh : A.handled = none) (hz : n ≤ sizeLine)
    (hQ : ∀ s' p (out : Array Value) (c : Nat) (ns : List Int), (∀ b o, s.heap.get? b = some o → s'.heap.get? b = some o) → s'.gens = s.gens → s'.os = s.os → s.heap.objs.size ≤ p →
      s'.heap.get? p = some (seqObj "list" out c) → IntsAre out.toList ns → ns.Pairwise (· < ·) → (∀ k, k ∈ ns ↔ S k = true) → ns.length = n → Q (.ref p) s') :
    wpAny (model P w) A (call (.builtin "sorted") [.ref a]) Q E s := by
  obtain ⟨o, es, ep, t, ho, hex, hd, g, nd, hm, hb, hf, hn, hr, hl⟩ := R
  refine Calls.call_function_entry kind_sorted plain_sorted entry_sorted (args_sorted1 _) ?_
  unfold Builtin.«sorted»
  refine wpAny_bind (m := checkCount "sorted" 1 1 _) (wpAny_pure ?_)
  refine wpAny_bind (collect_set (A := A.in1) hh ⟨o, ho, hex.1, hd⟩ hf hb hr hl fun s1 vs k1 hz1 g1 o1 pm => ?_)
  have hvl : vs.length = n := by rw [pm.length_eq, List.length_map, Array.length_toList]; exact hn
  have hI : IntsAre vs (vs.map Builtin.Re.reRawOf) := ints_of vs fun v hv => by
    obtain ⟨e, he, q⟩ := List.mem_map.mp (pm.mem_iff.mp hv)
    obtain ⟨k, tk, h1, _⟩ := g e he
    exact ⟨k, tk, by rw [← q]; exact h1⟩
  have pk : (vs.map Builtin.Re.reRawOf).Perm (es.toList.map keyOf) := by
    have q := pm.map Builtin.Re.reRawOf
    rw [List.map_map] at q
    exact q
  refine wpAny_bind (wpAny_newList ?_ (by rw [hvl]; exact hz))
  have hoL : (s1.heap.push (seqObj "list" vs.toArray 0)).get? s1.heap.objs.size = some (seqObj "list" vs.toArray 0) := Heap.get?_push_size _ rfl
  refine wpAny_bind (wpAny_holding (wpAny_call_entry slot_list_sort ⟨_, hoL, rfl⟩ entry_list_sort (SrtO.list_sort_ord (s := { s1 with heap := s1.heap.push (seqObj "list" vs.toArray 0) }) SrtO.swo_int hoL (by rw [hvl]; exact hz) (fun h2 => SrtO.ints_sortable hI h2) fun out hs hb2 => ⟨_, rfl, ?_⟩) (args_list_sort _)))
  obtain ⟨c, hc⟩ := sortedHeap_at (vs := vs) (out := out.toArray) hoL
  obtain ⟨a1, a2, a3⟩ := SrtO.ints_out hI hs hb2
  have pn : (out.map SrtO.iv).Perm (es.toList.map keyOf) := a2.trans pk
  refine wpAny_pure ⟨_, rfl, hQ _ s1.heap.objs.size out.toArray c (out.map SrtO.iv) (fun b u e => ?_) g1 o1 hz1 hc (by simpa using a1) (lt_of_le_nodup _ a3 (pn.nodup_iff.mpr nd)) (fun k => by rw [pn.mem_iff, ← hm k]) ?_⟩
  · have q := k1 b u e
    have hlt := Heap.lt_size q
    show (sortedHeap (s1.heap.push (seqObj "list" vs.toArray 0)) s1.heap.objs.size vs out.toArray).get? b = some u
    rw [sortedHeap_old (Nat.ne_of_lt hlt) (by rw [size_push']; exact Nat.lt_succ_of_lt hlt)]
    exact Heap.get?_push_of_some _ q
  · rw [pn.length_eq, List.length_map, Array.length_toList]; exact hn
end
end DL
set_option Elab.async false
set_option linter.all false
set_option maxRecDepth 100000
set_option maxHeartbeats 4000000
/-! DL: sorted(set(list(xs))), the rule. -/
namespace DL
open PySem PySem.Spec L2
open PyProof.Rows hiding St
section
variable {X : Cx} {W : WX} {K : PySem.W.Frag} {mg : Str → Option Value} {F : AP} {bs : List Addr} {H0 H : Hp} {δ : List Sl} {σ : St}
def rSetI (K : PySem.W.Frag) (w : World) : List V → Hp → VK → Prop := fun vs H Q => ∃ (a : Addr) (ns : List Int), vs = [V.ref a] ∧ SqL K H a (ns.map V.int) ∧ ns.length ≤ 4000 ∧ ∀ (q : Addr) (c : Nat), H q = none → c ≤ ns.length → Q (.ref q) (upd H q (SetO w q (fun j => decide (j ∈ ns)) c))
theorem cr_setI (hc : X.calm = true) : CallR X (.type "set") (rSetI X.K X.w) := by
  intro pins s σ H vs us Q I r h
  obtain ⟨a, ns, rfl, hs, hl, q⟩ := h
  obtain ⟨its, rv, hL, hz⟩ := I.list hs
  rw [Vals.ref1 r]
  refine set_listI (P := X.prog) (w := X.w) ns (I.ok.hd hc) hL.isList (by simpa using rv.ints) (by unfold scanBound; omega) fun h' tk c hS hcn hk => ?_
  have hn := I.hok.fresh (Nat.le_refl s.heap.objs.size)
  exact ⟨.ref s.heap.objs.size, _, I.laid (t' := tk) hk (Nat.le_refl _) (o := SetO X.w s.heap.objs.size (fun j => decide (j ∈ ns)) c) (setO_new hS), rfl, q _ c hn hcn⟩
def rSortSetI (w : World) : List V → Hp → VK → Prop := fun vs H Q => ∃ (a : Addr) (S : Int → Bool) (n : Nat), vs = [V.ref a] ∧ H a = some (SetO w a S n) ∧ n ≤ sizeLine ∧ ∀ (ns : List Int) (p : Addr), ns.Pairwise (· < ·) → (∀ k, k ∈ ns ↔ S k = true) → H p = none → Q (.ref p) (upd H p (.lst (ns.map V.int)))
theorem cr_sortSetI (hc : X.calm = true) : CallR X (.builtin "sorted") (rSortSetI X.w) := by
  intro pins s σ H vs us Q I r h
  obtain ⟨a, S, n, rfl, ha, hn, q⟩ := h
  rw [Vals.ref1 r]
  refine sorted_setI (setO_get I ha) (I.ok.hd hc) hn fun s' p out c ns k g o hp hg hi hs hm hl => ?_
  have hf : H p = none := I.hok.fresh hp
  have J : Inv X pins σ (upd H p (.lst (ns.map V.int))) { s with heap := s'.heap, gens := s'.gens, drawn := s'.drawn, toks := s'.toks } :=
    I.call (ch := []) (Un.laid k hp hf) (I.hok.laid k hp ⟨by rw [List.length_map, hl]; exact hn, out.toList, c, vals_of_ints hi, hg⟩) (by rw [g]; exact I.bare) (fun _ z => nomatch z)
  have e : s' = { s with heap := s'.heap, gens := s'.gens, drawn := s'.drawn, toks := s'.toks } := by
    cases s'; cases s; cases o; rfl
  rw [e]
  exact ⟨.ref p, _, J, rfl, q ns p hs hm hf⟩
def dedup : List Int → List Int
  | [] => []
  | a :: r => if r.contains a then dedup r else a :: dedup r
theorem dedup_mem : ∀ (l : List Int) (k : Int), k ∈ dedup l ↔ k ∈ l
  | [], k => Iff.rfl
  | a :: r, k => by
    unfold dedup
    by_cases z : r.contains a = true
    · rw [if_pos z, dedup_mem r k, List.mem_cons]
      refine ⟨.inr, fun h => h.elim (fun e => ?_) id⟩
      rw [e]; exact List.contains_iff_mem.mp z
    · rw [if_neg z, List.mem_cons, List.mem_cons, dedup_mem r k]
theorem dedup_nodup : ∀ l : List Int, (dedup l).Nodup
  | [] => List.nodup_nil
  | a :: r => by
    unfold dedup
    by_cases z : r.contains a = true
    · rw [if_pos z]; exact dedup_nodup r
    · rw [if_neg z]
      refine List.nodup_cons.mpr ⟨fun h => z (List.contains_iff_mem.mpr ((dedup_mem r a).mp h)), dedup_nodup r⟩
theorem asc_eq {l m : List Int} (h : l.Pairwise (· < ·)) (g : ∀ k, k ∈ l ↔ k ∈ m) : l = srtI (dedup m) := by
  have nl : l.Nodup := h.imp fun {a b} q => Int.ne_of_lt q
  have pm : l.Perm (dedup m) := (List.perm_ext_iff_of_nodup nl (dedup_nodup m)).mpr fun k => (g k).trans (dedup_mem m k).symm
  exact List.Perm.eq_of_pairwise (fun _ _ _ _ h1 h2 => Int.le_antisymm h1 h2) (h.imp fun {a b} q => Int.le_of_lt q) (srtI_up _) (pm.trans (srtI_perm _).symm)
def nSortSet (f : SE) : SN := fun δ => (f δ).bind fun a δ1 => match look δ1 a with
  | some d => match listI [d] with
    | some ns => if ns.length ≤ 4000 then .ok (.lst ((srtI (dedup ns)).map D.int)) δ1 else .bad
    | none => .bad
  | none => .bad
theorem rd_sortSet {w : World} {f : SE} {Q : VK} (h : rdN K mg W (nSortSet f) σ H Q) :
    tCB (rSortSetI w) (tCons (tCB (rSetI K w) (tCons (tCB (fun xs H Q => ∃ p ys, xs = [.ref p] ∧ (SqL K H p ys ∨ SqT K H p ys) ∧ ∀ l, H l = none → Q (.ref l) (upd H l (.lst ys))) (tCons (rdE K mg W f) tNil)) tNil)) tNil) σ H Q := by
  obtain ⟨F, bs, H0, δ, R, h⟩ := h
  refine ⟨F, bs, H0, δ, R, Post.imp (Post.first h) fun x H1 ⟨δ1, a, R1, k1, p, h1⟩ => ?_⟩
  cases ea : look δ1 a with
  | none => simp only [ea] at h1; exact h1.elim
  | some d =>
    simp only [ea] at h1
    cases el : listI [d] with
    | none => simp only [el] at h1; exact h1.elim
    | some ns =>
      simp only [el] at h1
      by_cases z : ns.length ≤ 4000
      · rw [if_pos z] at h1
        obtain ⟨q, ex, t⟩ := RepWL.ints (ds := [d]) ⟨x, [], rfl, R1.look p ea, rfl⟩ el
        refine ⟨q, ns.map V.int, ex, .inl t, fun L hL => ?_⟩
        refine ⟨L, ns, rfl, .inl (.inl upd_same), z, fun q2 c hq2 hcn => ?_⟩
        refine ⟨q2, _, c, rfl, upd_same, Nat.le_trans hcn (lim_le (Nat.le_trans z (by decide))), fun ms p2 hup hm hp2 => ?_⟩
        have e := asc_eq hup (m := ns) fun k => (hm k).trans (by simp)
        subst e
        exact h1 (p2, .lst ((srtI (dedup ns)).map V.int)) _ ((R1.new hL).new hq2) ((keep_new hL).trans (keep_new hq2)) ⟨hp2, _, rfl, RepL.ints.mpr rfl⟩
      · rw [if_neg z] at h1; exact h1.elim
theorem b_set : bootBuiltins "set" = some (.type "set") := by decide +kernel
theorem dn_sortSet {a : Expr} {f : SE} {p p2 p3 pos pos2 pos3 : Pos} (hm : X.mg "sorted" = none) (hg : Gl X "sorted") (hm2 : X.mg "set" = none) (hg2 : Gl X "set") (hm3 : X.mg "list" = none) (hg3 : Gl X "list") (hc : X.calm = true) (ha : DE X W a f)
    (h1 : starEach [a] X.env = (false, eval a X.env) :: starEach [] X.env := by rfl) (h2 : starEach [.Call (.Name "list" p3) [a] [] pos] X.env = (false, eval (.Call (.Name "list" p3) [a] [] pos) X.env) :: starEach [] X.env := by rfl)
    (h3 : starEach [.Call (.Name "set" p2) [.Call (.Name "list" p3) [a] [] pos] [] pos2] X.env = (false, eval (.Call (.Name "set" p2) [.Call (.Name "list" p3) [a] [] pos] [] pos2) X.env) :: starEach [] X.env := by rfl) :
    DN X W (.Call (.Name "sorted" p) [.Call (.Name "set" p2) [.Call (.Name "list" p3) [a] [] pos] [] pos2] [] pos3) (nSortSet f) :=
  (pe_callB (cr_sortSetI hc) hg hm b_sorted (pa_cons (pe_callTy (cr_setI hc) hg2 hm2 b_set (pa_cons (pe_callTy call_list_of hg3 hm3 b_list (pa_cons ha pa_nil h1) (by decide) (by decide) h1 rfl) pa_nil h2) (by decide) (by decide) h2 rfl) pa_nil h3) (by decide) (by decide) h3 rfl).imp fun _ _ _ => rd_sortSet
end
end DL
set_option Elab.async false
set_option linter.all false
set_option maxRecDepth 100000
set_option maxHeartbeats 4000000
/-! DL: a value's truth as a test. -/
namespace DL
open PySem PySem.Spec L2
open PyProof.Rows hiding St
def truD : D → Option Bool
  | .non => some false
  | .bl b => some b
  | .int i => some (i != 0)
  | .str y => if y.length ≤ lim then some ((y.length : Int) != 0) else none
  | .tup l => some (!l.isEmpty)
  | .lst l => some (!l.isEmpty)
  | .frl l => some (!l.isEmpty)
  | _ => none
def bTr (f : SE) : SB := fun δ => (f δ).bind fun a δ1 => match look δ1 a with
  | some d => (match truD d with
    | some b => .ok b δ1
    | none => .bad)
  | none => .bad
section
variable {X : Cx} {W : WX} {K : PySem.W.Frag} {mg : Str → Option Value} {pos : Pos} {σ : St} {A : AP} {H : Hp}
theorem RepL.isEmpty {l : List D} {xs : List V} (r : RepL K mg A H l xs) : (!l.isEmpty) = !xs.isEmpty := by
  have := r.len
  cases l <;> cases xs <;> simp_all
theorem RepW.tru {d : D} {x : V} {b : Bool} (h : RepW K mg A H d x) (e : truD d = some b) : TruV K x H b := by
  cases d with
  | non => cases e; rw [h.non]; rfl
  | bl _ => cases e; rw [h.bl]; rfl
  | int _ => cases e; rw [h.int]; rfl
  | str y =>
    simp only [truD] at e
    by_cases z : y.length ≤ lim
    · rw [if_pos z] at e; cases e; rw [h.str]; exact ⟨lim_le z, rfl⟩
    · rw [if_neg z] at e; cases e
  | tup l => cases e; obtain ⟨a, xs, rfl, t, r⟩ := h.tup; exact .inr (.inl ⟨xs, t.sq, r.isEmpty⟩)
  | lst l => cases e; obtain ⟨a, xs, rfl, t, r⟩ := h.lst; exact .inl ⟨xs, .inl (.inl t), r.isEmpty⟩
  | frl l => cases e; obtain ⟨a, xs, rfl, t, r⟩ := h.frl; exact .inl ⟨xs, t, r.isEmpty⟩
  | ty _ => cases e
  | cl _ => cases e
  | dct _ _ => cases e
  | obj _ _ _ => cases e
  | exc _ _ _ => cases e
theorem rd_bTr {f : SE} {Q : Bool → Hp → Prop} (h : rdT K mg W (bTr f) σ H Q) : rdE K mg W f σ H fun x H1 => ∃ k, TruV K x H1 k ∧ Q k H1 := by
  obtain ⟨F, bs, H0, δ, R, h⟩ := h
  refine ⟨F, bs, H0, δ, R, Post.imp (Post.first h) fun x H1 ⟨δ1, a, R1, k1, p, h1⟩ => ?_⟩
  cases e : look δ1 a with
  | none => simp only [e] at h1; exact h1.elim
  | some d =>
    simp only [e] at h1
    cases e2 : truD d with
    | none => simp only [e2] at h1; exact h1.elim
    | some b =>
      simp only [e2] at h1
      exact ⟨b, (R1.look p e).tru e2, h1 b H1 R1 .refl rfl⟩
theorem dt_tru {e : Expr} {f : SE} (h : DE X W e f) (he : ∀ whole, isTrue e X.env whole = (do let v ← whole; standAt e.pos; holding [v] (truthy v)) := by intro _; rfl) : DT X W e (bTr f) := (pt_truth h he).imp fun _ _ _ => rd_bTr
end
section
variable {δ : List Sl}
@[simp] theorem x_bTr {f : SE} : bTr f δ = (f δ).bind fun a δ1 => match look δ1 a with
  | some d => (match truD d with
    | some b => .ok b δ1
    | none => .bad)
  | none => .bad := (rfl)
@[simp] theorem x_truI {i : Int} : truD (.int i) = some (i != 0) := (rfl)
@[simp] theorem x_truB {b : Bool} : truD (.bl b) = some b := (rfl)
@[simp] theorem x_truN : truD .non = some false := (rfl)
@[simp] theorem x_truT {l : List D} : truD (.tup l) = some (!l.isEmpty) := (rfl)
@[simp] theorem x_truL {l : List D} : truD (.lst l) = some (!l.isEmpty) := (rfl)
@[simp] theorem x_truF {l : List D} : truD (.frl l) = some (!l.isEmpty) := (rfl)
end
end DL
set_option Elab.async false
set_option linter.all false
set_option maxRecDepth 100000
set_option maxHeartbeats 4000000
/-! DL: evaluation, for simp. -/
namespace DL
open PySem PySem.Spec L2
open PyProof.Rows hiding St
section
variable {δ : List Sl}
@[simp] theorem x_bind_ok {α β : Type} {a : α} {f : α → List Sl → R β} : (R.ok a δ).bind f = f a δ := (rfl)
@[simp] theorem x_bind_exc {α β : Type} {c ns vs} {f : α → List Sl → R β} : (R.exc c ns vs δ : R α).bind f = .exc c ns vs δ := (rfl)
@[simp] theorem x_bindS_ok {α : Type} {a : α} {f : α → List Sl → RS} : (R.ok a δ).bindS f = f a δ := (rfl)
@[simp] theorem x_bindS_exc {α : Type} {c ns vs} {f : α → List Sl → RS} : (R.exc c ns vs δ : R α).bindS f = .exc c ns vs δ := (rfl)
@[simp] theorem x_then_nx {f : List Sl → RS} : (RS.nx δ).then f = f δ := (rfl)
@[simp] theorem x_then_rt {d} {f : List Sl → RS} : (RS.rt d δ).then f = .rt d δ := (rfl)
@[simp] theorem x_then_rtN {d} {f : List Sl → RS} : (RS.rtN d δ).then f = .rtN d δ := (rfl)
@[simp] theorem x_then_bk {f : List Sl → RS} : (RS.bk δ).then f = .bk δ := (rfl)
@[simp] theorem x_then_ct {f : List Sl → RS} : (RS.ct δ).then f = .ct δ := (rfl)
@[simp] theorem x_then_exc {c ns vs} {f : List Sl → RS} : (RS.exc c ns vs δ).then f = .exc c ns vs δ := (rfl)
@[simp] theorem x_eC {d} : eC d δ = .ok (.v d) δ := (rfl)
@[simp] theorem x_look_v {d} : look δ (.v d) = some d := (rfl)
@[simp] theorem x_opt {d} : opt (some d) δ = .ok (.v d) δ := (rfl)
@[simp] theorem x_aNil : aNil δ = .ok [] δ := (rfl)
@[simp] theorem x_datas_nil : datas [] = some [] := (rfl)
@[simp] theorem x_datas_v {d r} : datas (.v d :: r) = (match datas r with | some ds => some (d :: ds) | none => none) := (rfl)
@[simp] theorem x_looks_nil : looks δ [] = some [] := (rfl)
@[simp] theorem x_looks {a r} : looks δ (a :: r) = (match look δ a, looks δ r with | some d, some ds => some (d :: ds) | _, _ => none) := (rfl)
@[simp] theorem x_sNext : sNext δ = .nx δ := (rfl)
@[simp] theorem x_sBreak : sBreak δ = .bk δ := (rfl)
@[simp] theorem x_sCont : sCont δ = .ct δ := (rfl)
@[simp] theorem x_sSeq {f g : SS} : sSeq f g δ = (f δ).then g := (rfl)
@[simp] theorem x_sIf {t : SB} {f g : SS} : sIf t f g δ = (t δ).bindS fun a δ1 => if a then f δ1 else g δ1 := (rfl)
@[simp] theorem x_bTrue : bTrue δ = .ok true δ := (rfl)
@[simp] theorem x_arOf_nil : arOf δ [] = some [] := (rfl)
@[simp] theorem x_arOf_v {d r} : arOf δ (.v d :: r) = (match arOf δ r with | some l => some (.v d :: l) | none => none) := (rfl)
@[simp] theorem x_arOf_s {i r} : arOf δ (.s i :: r) = (match obAt δ i, arOf δ r with | some c, some l => some (.io c :: l) | _, _ => none) := (rfl)
@[simp] theorem x_ixs_nil : ixs [] = [] := (rfl)
@[simp] theorem x_ixs_v {d r} : ixs (.v d :: r) = ixs r := (rfl)
@[simp] theorem x_ixs_s {i r} : ixs (.s i :: r) = i :: ixs r := (rfl)
@[simp] theorem x_putIos_nil {cs} : putIos δ [] cs = δ := (rfl)
@[simp] theorem x_putIos_cons {i is c cs} : putIos δ (i :: is) (c :: cs) = putIos (setOb δ i c) is cs := (rfl)
variable {f g h : SE} {fa : SA} {t t' : SB} {d e : D} {i j : Nat}
@[simp] theorem x_eVar : eVar i δ = (match δ[i]? with | some (.val d) => .ok (.v d) δ | some (.own _) => .ok (.s i) δ | some (.io _ _) => .ok (.s i) δ | _ => .bad) := (rfl)
@[simp] theorem x_eUn {u} : eUn u f δ = (f δ).bind fun a δ1 => match look δ1 a with | some x => opt (u x) δ1 | none => .bad := (rfl)
@[simp] theorem x_eBin {u} : eBin u f g δ = (f δ).bind fun a δ1 => (g δ1).bind fun b δ2 => match look δ2 a, look δ2 b with | some x, some y => opt (u x y) δ2 | _, _ => .bad := (rfl)
@[simp] theorem x_eChain {u u'} : eChain u u' f g h δ = (f δ).bind fun a δ1 => (g δ1).bind fun b δ2 => match look δ2 a, look δ2 b with
  | some x, some y => (match u x y with
    | some (.bl k) => if k then (h δ2).bind fun c δ3 => match look δ3 b, look δ3 c with
      | some y', some z => opt (u' y' z) δ3
      | _, _ => .bad else .ok (.v (.bl false)) δ2
    | _ => .bad)
  | _, _ => .bad := (rfl)
@[simp] theorem x_eAnd : eAnd f g δ = (f δ).bind fun a δ1 => match a with | .v (.bl b) => if b then g δ1 else .ok (.v (.bl false)) δ1 | _ => .bad := (rfl)
@[simp] theorem x_eOr : eOr f g δ = (f δ).bind fun a δ1 => match a with | .v (.bl b) => if b then .ok (.v (.bl true)) δ1 else g δ1 | _ => .bad := (rfl)
@[simp] theorem x_eNot : eNot f δ = (f δ).bind fun a δ1 => match a with | .v (.bl b) => .ok (.v (.bl (!b))) δ1 | _ => .bad := (rfl)
@[simp] theorem x_eIf : eIf t f g δ = (t δ).bind fun a δ1 => if a then f δ1 else g δ1 := (rfl)
@[simp] theorem x_bV : bV f δ = (f δ).bind fun a δ1 => match a with | .v (.bl b) => .ok b δ1 | _ => .bad := (rfl)
@[simp] theorem x_bAnd : bAnd t t' δ = (t δ).bind fun a δ1 => if a then t' δ1 else .ok false δ1 := (rfl)
@[simp] theorem x_bOr : bOr t t' δ = (t δ).bind fun a δ1 => if a then .ok true δ1 else t' δ1 := (rfl)
@[simp] theorem x_bNot : bNot t δ = (t δ).bind fun a δ1 => .ok (!a) δ1 := (rfl)
@[simp] theorem x_aCons {g : SA} : aCons f g δ = (f δ).bind fun a δ1 => (g δ1).bind fun as δ2 => .ok (a :: as) δ2 := (rfl)
@[simp] theorem x_eTup : eTup fa δ = (fa δ).bind fun as δ1 => match datas as with | some ds => if ds.length ≤ 1000 then .ok (.v (.tup ds)) δ1 else .bad | none => .bad := (rfl)
@[simp] theorem x_nLst : nLst fa δ = (fa δ).bind fun as δ1 => match datas as with | some ds => if ds.length ≤ 1000 then .ok (.lst ds) δ1 else .bad | none => .bad := (rfl)
@[simp] theorem x_eN {n : SN} : eN n δ = (n δ).bind fun c δ1 => match obD c with | some d => .ok (.v d) δ1 | none => .bad := (rfl)
@[simp] theorem x_obD {l} : obD (.lst l) = some (.lst l) := (rfl)
@[simp] theorem x_obDk {ks vs} : obD (.dk ks vs) = some (.dct ks vs) := (rfl)
@[simp] theorem x_eCB {u} : eCB u fa δ = (fa δ).bind fun as δ1 => match looks δ1 as with | some ds => opt (u ds) δ1 | none => .bad := (rfl)
@[simp] theorem x_nCB {u} : nCB u fa δ = (fa δ).bind fun as δ1 => match looks δ1 as with | some ds => (match u ds with | some c => .ok c δ1 | none => .bad) | none => .bad := (rfl)
@[simp] theorem x_eCall {u : FD} : eCall u fa δ = (fa δ).bind fun as δ1 => match arOf δ1 as with
  | none => .bad
  | some ars => if nodupB (ixs as) then (match u ars with
    | .ret d ios => .ok (.v d) (putIos δ1 (ixs as) ios)
    | .new c ios => match obD c with
      | some d => .ok (.v d) (putIos δ1 (ixs as) ios)
      | none => .bad
    | .exc c ns vs ios => .exc c ns vs (putIos δ1 (ixs as) ios)
    | .bad => .bad) else .bad := (rfl)
@[simp] theorem x_nCall {u : FD} : nCall u fa δ = (fa δ).bind fun as δ1 => match arOf δ1 as with
  | none => .bad
  | some ars => if nodupB (ixs as) then (match u ars with
    | .new c ios => .ok c (putIos δ1 (ixs as) ios)
    | .exc c ns vs ios => .exc c ns vs (putIos δ1 (ixs as) ios)
    | _ => .bad) else .bad := (rfl)
@[simp] theorem x_nodupB0 : nodupB [] = true := (rfl)
@[simp] theorem x_nodupB1 : nodupB [i] = true := (rfl)
@[simp] theorem x_look_s : look δ (.s i) = (match δ[i]? with | some (.own c) => obD c | some (.io _ c) => obD c | _ => none) := (rfl)
@[simp] theorem x_obAt : obAt δ i = (match δ[i]? with | some (.own c) => some c | some (.io _ c) => some c | _ => none) := (rfl)
@[simp] theorem x_setOb {c} : setOb δ i c = (match δ[i]? with | some (.own _) => δ.set i (.own c) | some (.io k _) => δ.set i (.io k c) | _ => δ) := (rfl)
@[simp] theorem x_lstAt : lstAt δ i = (match obAt δ i with | some (.lst l) => some l | _ => none) := (rfl)
@[simp] theorem x_dkAt : dkAt δ i = (match obAt δ i with | some (.dk ks vs) => some (ks, vs) | _ => none) := (rfl)
@[simp] theorem x_sAsg : sAsg i f δ = (f δ).bindS fun a δ1 => match a with | .v d => .nx (δ1.set i (.val d)) | .s _ => .bad := (rfl)
@[simp] theorem x_sNew {n : SN} : sNew i n δ = (n δ).bindS fun c δ1 => .nx (δ1.set i (.own c)) := (rfl)
@[simp] theorem x_sTgt {u} : sTgt u f δ = (f δ).bindS fun a δ1 => match a with | .v d => (match u d δ1 with | some δ2 => .nx δ2 | none => .bad) | .s _ => .bad := (rfl)
@[simp] theorem x_sDrop : sDrop f δ = (f δ).bindS fun _ δ1 => .nx δ1 := (rfl)
@[simp] theorem x_sRet : sRet f δ = (f δ).bindS fun a δ1 => if isIo δ1 a then .bad else match look δ1 a with | some d => .rt d δ1 | none => .bad := (rfl)
@[simp] theorem x_sRetNew {n : SN} : sRetNew n δ = (n δ).bindS fun c δ1 => .rtN c δ1 := (rfl)
@[simp] theorem x_sRetN : sRetN δ = .rt .non δ := (rfl)
@[simp] theorem x_isIo_v : isIo δ (.v d) = false := (rfl)
@[simp] theorem x_isIo_s : isIo δ (.s i) = (match δ[i]? with | some (.io _ _) => true | _ => false) := (rfl)
@[simp] theorem x_tgN : tgN i d δ = some (δ.set i (.val d)) := (rfl)
@[simp] theorem x_tgNil : tgNil [] δ = some δ := (rfl)
@[simp] theorem x_tgCons {u us r} : tgCons u us (d :: r) δ = (match u d δ with | some δ1 => us r δ1 | none => none) := (rfl)
@[simp] theorem x_tgTup {n us l} : tgTup n us (.tup l) δ = (if l.length = n then us l δ else none) := (rfl)
@[simp] theorem x_sApp : sApp i f δ = (match lstAt δ i with
  | none => .bad
  | some _ => (f δ).bindS fun a δ1 => match a, lstAt δ1 i with
    | .v d, some l => if l.length ≤ lim then .nx (setOb δ1 i (.lst (l ++ [d]))) else .bad
    | _, _ => .bad) := (rfl)
@[simp] theorem x_sExt : sExt i f δ = (match lstAt δ i with
  | none => .bad
  | some _ => (f δ).bindS fun a δ1 => match a, lstAt δ1 i with
    | .v (.lst m), some l => if l.length + m.length ≤ lim then .nx (setOb δ1 i (.lst (l ++ m))) else .bad
    | _, _ => .bad) := (rfl)
@[simp] theorem x_ePop : ePop i δ = (match lstAt δ i with
  | some l => match l.getLast? with
    | some d => .ok (.v d) (setOb δ i (.lst l.dropLast))
    | none => .bad
  | _ => .bad) := (rfl)
@[simp] theorem x_sSetI : sSetI i f g δ = (g δ).bindS fun a δ1 => match lstAt δ1 i with
  | none => .bad
  | some _ => (f δ1).bindS fun b δ2 => match a, b, lstAt δ2 i with
    | .v d, .v (.int k), some l => match ixN l.length k with
      | some j => .nx (setOb δ2 i (.lst (l.set j d)))
      | none => .bad
    | _, _, _ => .bad := (rfl)
@[simp] theorem x_sPut : sPut i f g δ = (g δ).bindS fun a δ1 => match dkAt δ1 i with
  | none => .bad
  | some _ => (f δ1).bindS fun b δ2 => match a, b, dkAt δ2 i with
    | .v d, .v kd, some (ks, vs) => match keyD kd with
      | some k => if ks.length ≤ lim then .nx (setOb δ2 i (.dk (putKs ks k) (putVs ks vs k d))) else .bad
      | none => .bad
    | _, _, _ => .bad := (rfl)
@[simp] theorem x_sFor {it γ b} : sFor it γ b δ = (it δ).bindS fun t δ1 => match t.guard with | [] => forL γ b t.items δ1 | _ => .bad := (rfl)
@[simp] theorem x_iSeq : iSeq f δ = (f δ).bind fun a δ1 => match a with
  | .v (.lst l) => .ok ⟨l, []⟩ δ1
  | .v (.tup l) => .ok ⟨l, []⟩ δ1
  | .v (.frl l) => .ok ⟨l, []⟩ δ1
  | .s i => match obAt δ1 i with
    | some (.lst l) => .ok ⟨l, [(i, l)]⟩ δ1
    | _ => .bad
  | _ => .bad := (rfl)
@[simp] theorem x_iRng1 : iRng1 fa δ = (fa δ).bind fun as δ1 => match as with | [.v (.int j)] => if small62 j then .ok ⟨rngD 0 1 j.toNat, []⟩ δ1 else .bad | _ => .bad := (rfl)
@[simp] theorem x_iRng2 : iRng2 fa δ = (fa δ).bind fun as δ1 => match as with | [.v (.int i), .v (.int j)] => if small62 i && small62 j then .ok ⟨rngD i 1 (j - i).toNat, []⟩ δ1 else .bad | _ => .bad := (rfl)
@[simp] theorem x_iRng3 : iRng3 fa δ = (fa δ).bind fun as δ1 => match as with | [.v (.int i), .v (.int j), .v (.int c)] => if okRng3 i j c then .ok ⟨rngD i c (Builtin.Range.rangeSize i j c).toNat, []⟩ δ1 else .bad | _ => .bad := (rfl)
@[simp] theorem x_iEnum : iEnum fa δ = (fa δ).bind fun as δ1 => match as with | [a] => (match srcD δ1 a with | some (_, l, g) => .ok ⟨enumD l, g⟩ δ1 | none => .bad) | _ => .bad := (rfl)
@[simp] theorem x_iZip : iZip fa δ = (fa δ).bind fun as δ1 => match as with | [a, b] => (match srcD δ1 a, srcD δ1 b with | some (t, l, g), some (t', m, g') => if t = t' then .ok ⟨zipD l m, g ++ g'⟩ δ1 else .bad | _, _ => .bad) | _ => .bad := (rfl)
@[simp] theorem x_srcL {l} : srcD δ (.v (.lst l)) = some (false, l, []) := (rfl)
@[simp] theorem x_srcF {l} : srcD δ (.v (.frl l)) = some (false, l, []) := (rfl)
@[simp] theorem x_srcT {l} : srcD δ (.v (.tup l)) = some (true, l, []) := (rfl)
@[simp] theorem x_srcS : srcD δ (.s i) = (match lstAt δ i with | some l => some (false, l, [(i, l)]) | none => none) := (rfl)
@[simp] theorem x_iRevR1 : iRevR1 f δ = (f δ).bind fun a δ1 => match a with | .v (.int n) => if small62 n then .ok ⟨rngD (n.toNat - 1) (-1) n.toNat, []⟩ δ1 else .bad | _ => .bad := (rfl)
@[simp] theorem x_sFrz {is} {s : SS} : sFrz is s δ = (s δ).then fun δ' => .nx (frz is δ') := (rfl)
@[simp] theorem x_frz_nil : frz [] δ = δ := (rfl)
@[simp] theorem x_frz_cons {is} : frz (i :: is) δ = frz is (frz1 δ i) := (rfl)
@[simp] theorem x_frz1 : frz1 δ i = (match δ[i]? with | some (.own c) => (match obD c with | some d => δ.set i (.val d) | none => δ) | _ => δ) := (rfl)
@[simp] theorem x_eIsiT {ns} : eIsiT f ns δ = (f δ).bind fun x δ1 => match look δ1 x with | some d => (match isiAny d ns with | some b => .ok (.v (.bl b)) δ1 | none => .bad) | none => .bad := (rfl)
@[simp] theorem x_eMaxD : eMaxD f g δ = (f δ).bind fun a δ1 => (g δ1).bind fun b δ2 => match look δ2 a, b with
  | some d, .v e => match listI [d] with
    | some [] => .ok (.v e) δ2
    | some (n :: ns) => .ok (.v (.int (ns.foldl max n))) δ2
    | none => .bad
  | _, _ => .bad := (rfl)
@[simp] theorem x_nDict : nDict δ = .ok (.dk [] []) δ := (rfl)
@[simp] theorem x_nZipL : nZipL fa δ = (fa δ).bind fun as δ1 => match as with | [.v (.tup l), .v (.tup m)] => if l.length ≤ lim then .ok (.lst (zipD l m)) δ1 else .bad | _ => .bad := (rfl)
@[simp] theorem x_nSortSet : nSortSet f δ = (f δ).bind fun a δ1 => match look δ1 a with
  | some d => match listI [d] with
    | some ns => if ns.length ≤ 4000 then .ok (.lst ((srtI (dedup ns)).map D.int)) δ1 else .bad
    | none => .bad
  | none => .bad := (rfl)
@[simp] theorem x_eSl {lo hi : SO} : eSl f lo hi δ = (f δ).bind fun a δ1 => (lo δ1).bind fun l δ2 => (hi δ2).bind fun u δ3 => match look δ3 a with | some d => opt (gSl d l u) δ3 | none => .bad := (rfl)
@[simp] theorem x_oNone : oNone δ = .ok none δ := (rfl)
@[simp] theorem x_oSome : oSome f δ = (f δ).bind fun a δ1 => match a with | .v (.int i) => .ok (some i) δ1 | _ => .bad := (rfl)
@[simp] theorem x_sRaise {c ns} : sRaise c ns fa δ = (fa δ).bindS fun as δ1 => match datas as with | some ds => if ds.length = ns.length then .exc c ns ds.reverse δ1 else .bad | none => .bad := (rfl)
@[simp] theorem x_fD {m n} {s : SS} {as} : fD m n s as = if as.length = m then DL.finish as (s (slots n as)) else .bad := (rfl)
@[simp] theorem x_slots {n as} : slots n as = argSl 0 as ++ List.replicate (n - as.length) .no := (rfl)
@[simp] theorem x_argSl_nil {k} : argSl k [] = [] := (rfl)
@[simp] theorem x_argSl_v {k r} : argSl k (.v d :: r) = .val d :: argSl k r := (rfl)
@[simp] theorem x_argSl_io {k c r} : argSl k (.io c :: r) = .io k c :: argSl (k + 1) r := (rfl)
@[simp] theorem x_fin_nx {as} : DL.finish as (.nx δ) = (match iosOf 0 as δ with | some l => .ret .non l | none => .bad) := (rfl)
@[simp] theorem x_fin_rt {as} : DL.finish as (.rt d δ) = (match iosOf 0 as δ with | some l => .ret d l | none => .bad) := (rfl)
@[simp] theorem x_fin_rtN {as c} : DL.finish as (.rtN c δ) = (match iosOf 0 as δ with | some l => .new c l | none => .bad) := (rfl)
@[simp] theorem x_fin_exc {as c ns vs} : DL.finish as (.exc c ns vs δ) = (match iosOf 0 as δ with | some l => .exc c ns vs l | none => .bad) := (rfl)
@[simp] theorem x_ios_nil {k} : iosOf k [] δ = some [] := (rfl)
@[simp] theorem x_ios_v {k r s} : iosOf k (.v d :: r) (s :: δ) = iosOf k r δ := (rfl)
@[simp] theorem x_ios_io {k c c' r} : iosOf k (.io c :: r) (.io j c' :: δ) = if j = k then (match iosOf (k + 1) r δ with | some l => some (c' :: l) | none => none) else none := (rfl)
/-! operations -/
@[simp] theorem x_gAdd {a b : Int} : gAdd (.int a) (.int b) = some (.int (a + b)) := (rfl)
@[simp] theorem x_gSub {a b : Int} : DL.gSub (.int a) (.int b) = some (.int (a - b)) := (rfl)
@[simp] theorem x_gLt {a b : Int} : gLt (.int a) (.int b) = some (.bl (decide (a < b))) := (rfl)
@[simp] theorem x_gLe {a b : Int} : gLe (.int a) (.int b) = some (.bl (decide (a ≤ b))) := (rfl)
@[simp] theorem x_gGt {a b : Int} : gGt (.int a) (.int b) = some (.bl (decide (b < a))) := (rfl)
@[simp] theorem x_gGe {a b : Int} : gGe (.int a) (.int b) = some (.bl (decide (b ≤ a))) := (rfl)
@[simp] theorem x_gAnd {a b : Int} : gAnd (.int a) (.int b) = some (.int (Builtin.bitAnd a b)) := (rfl)
@[simp] theorem x_gXor {a b : Int} : gXor (.int a) (.int b) = some (.int (Builtin.bitXor a b)) := (rfl)
@[simp] theorem x_gMod {a b : Int} : gMod (.int a) (.int b) = (if okMod a b then some (.int (a.fmod b)) else none) := (rfl)
@[simp] theorem x_gDiv {a b : Int} : gDiv (.int a) (.int b) = (if okDiv a b then some (.int (a.fdiv b)) else none) := (rfl)
@[simp] theorem x_gShr {a b : Int} : gShr (.int a) (.int b) = (if okShr a b then some (.int (a / 2 ^ b.toNat)) else none) := (rfl)
@[simp] theorem x_gShl {a b : Int} : gShl (.int a) (.int b) = (if okPow a b then some (.int (a * 2 ^ b.toNat)) else none) := (rfl)
@[simp] theorem x_gMul {a b : Int} : gMul1 (.int a) (.int b) = (if okMul a b then some (.int (a * b)) else none) := (rfl)
theorem x_gEq {a b : D} : gEq a b = (match toPy a, toPy b with | some d, some e => if eqOk d e then some (.bl (PyData.eqv d e)) else none | _, _ => none) := (rfl)
theorem x_gNe {a b : D} : gNe a b = (match toPy a, toPy b with | some d, some e => if eqOk d e then some (.bl (!PyData.eqv d e)) else none | _, _ => none) := (rfl)
end
end DL
set_option Elab.async false
set_option linter.all false
set_option maxRecDepth 100000
set_option maxHeartbeats 1000000
/-! DL: evaluation, more. -/
namespace DL
open PySem PySem.Spec L2
open PyProof.Rows hiding St
@[simp high] theorem x_eqI {a b : Int} : gEq (.int a) (.int b) = some (.bl (decide (a = b))) := by
  simp [gEq, toPy, eqOk, PyData.plain, PyData.depth, PyData.eqv]
  by_cases h : a = b <;> simp [h]
@[simp high] theorem x_neI {a b : Int} : gNe (.int a) (.int b) = some (.bl (!decide (a = b))) := by
  simp [gNe, toPy, eqOk, PyData.plain, PyData.depth, PyData.eqv]
  by_cases h : a = b <;> simp [h]
/-! subscripts -/
@[simp] theorem x_ixT {l : List D} {i : Int} : gIx (.tup l) (.int i) = atI l i := rfl
@[simp] theorem x_ixL {l : List D} {i : Int} : gIx (.lst l) (.int i) = atI l i := rfl
@[simp] theorem x_ixF {l : List D} {i : Int} : gIx (.frl l) (.int i) = atI l i := rfl
@[simp] theorem x_at0 {a : D} {l : List D} : atI (a :: l) 0 = some a := by simp [atI, ixN]; try omega
@[simp] theorem x_at1 {a b : D} {l : List D} : atI (a :: b :: l) 1 = some b := by
  have h : (1 : Int) < (l.length : Int) + 1 + 1 := by omega
  simp [atI, ixN, h]
theorem x_atN {l : List D} {i : Nat} (h : i < l.length) : atI l (i : Int) = some l[i] := by simp [atI, ixN, h]
theorem x_atI {l : List D} {i : Int} (h0 : 0 ≤ i) (h : i < l.length) : atI l i = some (l[i.toNat]'(by omega)) := by
  simp only [atI, ixN, if_pos h0, if_pos h, Option.bind_some]
  exact List.getElem?_eq_getElem _
theorem x_last {l : List D} {d : D} : atI (l ++ [d]) (-1) = some d := by
  have h : ((-1 : Int) + ((l.length : Int) + 1)).toNat = l.length := by omega
  have h' : -((l.length : Int) + 1) ≤ -1 := by omega
  simp [atI, ixN, h, h']
/-! kinds -/
@[simp] theorem x_isiII {i : Int} : gIsi [.int i, .ty "int"] = some (.bl true) := rfl
@[simp] theorem x_isiIB {i : Int} : gIsi [.int i, .ty "bool"] = some (.bl false) := rfl
@[simp] theorem x_isiIT {i : Int} : gIsi [.int i, .ty "tuple"] = some (.bl false) := rfl
@[simp] theorem x_isiIS {i : Int} : gIsi [.int i, .ty "str"] = some (.bl false) := rfl
@[simp] theorem x_isiTI {l : List D} : gIsi [.tup l, .ty "int"] = some (.bl false) := rfl
@[simp] theorem x_isiTB {l : List D} : gIsi [.tup l, .ty "bool"] = some (.bl false) := rfl
@[simp] theorem x_isiTT {l : List D} : gIsi [.tup l, .ty "tuple"] = some (.bl true) := rfl
@[simp] theorem x_isiTS {l : List D} : gIsi [.tup l, .ty "str"] = some (.bl false) := rfl
@[simp] theorem x_isiBI {i : Bool} : gIsi [.bl i, .ty "int"] = some (.bl true) := rfl
@[simp] theorem x_isiBB {i : Bool} : gIsi [.bl i, .ty "bool"] = some (.bl true) := rfl
@[simp] theorem x_isiBT {i : Bool} : gIsi [.bl i, .ty "tuple"] = some (.bl false) := rfl
@[simp] theorem x_isiBS {i : Bool} : gIsi [.bl i, .ty "str"] = some (.bl false) := rfl
@[simp] theorem x_isiSI {i : Str} : gIsi [.str i, .ty "int"] = some (.bl false) := rfl
@[simp] theorem x_isiSB {i : Str} : gIsi [.str i, .ty "bool"] = some (.bl false) := rfl
@[simp] theorem x_isiST {i : Str} : gIsi [.str i, .ty "tuple"] = some (.bl false) := rfl
@[simp] theorem x_isiSS {i : Str} : gIsi [.str i, .ty "str"] = some (.bl true) := rfl
@[simp] theorem x_intI {i : Int} : gInt [.int i] = some (.int i) := rfl
@[simp] theorem x_lenT {l : List D} : gLen1 [.tup l] = some (.int l.length) := rfl
@[simp] theorem x_lenL {l : List D} : gLen1 [.lst l] = some (.int l.length) := rfl
@[simp] theorem x_lenF {l : List D} : gLen1 [.frl l] = some (.int l.length) := rfl
@[simp] theorem x_tupT {l : List D} : gTup1 [.tup l] = some (.tup l) := rfl
@[simp] theorem x_tupL {l : List D} : gTup1 [.lst l] = some (.tup l) := rfl
@[simp] theorem x_tupF {l : List D} : gTup1 [.frl l] = some (.tup l) := rfl
@[simp] theorem x_lstT {l : List D} : nListOf [.tup l] = some (.lst l) := rfl
@[simp] theorem x_lstL {l : List D} : nListOf [.lst l] = some (.lst l) := rfl
@[simp] theorem x_lstF {l : List D} : nListOf [.frl l] = some (.lst l) := rfl
@[simp] theorem x_uI {h : Int → D} {i : Int} : uI h (.int i) = some (h i) := rfl
@[simp] theorem x_intsOf {l : List Int} : intsOf (l.map D.int) = some l := by
  induction l with
  | nil => rfl
  | cons a r ih => simp [intsOf, ih]
@[simp] theorem x_blsOf {l : List Bool} : blsOf (l.map D.bl) = some l := by
  induction l with
  | nil => rfl
  | cons a r ih => simp [blsOf, ih]
@[simp] theorem x_allL {l : List Bool} : gAll [.lst (l.map D.bl)] = some (.bl (l.all id)) := by simp [gAll, listB]
/-! loops -/
@[simp] theorem x_forL_nil {γ : TgF} {b : SS} {δ : List Sl} : forL γ b [] δ = .nx δ := rfl
theorem x_forL_nx {γ : TgF} {b : SS} {d : D} {ds : List D} {δ δ1 δ2 : List Sl} (h1 : γ d δ = some δ1) (h2 : b δ1 = .nx δ2) : forL γ b (d :: ds) δ = forL γ b ds δ2 := by simp [forL, h1, h2]
theorem x_forL_rt {γ : TgF} {b : SS} {d e : D} {ds : List D} {δ δ1 δ2 : List Sl} (h1 : γ d δ = some δ1) (h2 : b δ1 = .rt e δ2) : forL γ b (d :: ds) δ = .rt e δ2 := by simp [forL, h1, h2]
/-- a loop that keeps a shape -/
theorem x_forL_inv {α : Type} {γ : TgF} {b : SS} {g : α → D} (I : Nat → List Sl → Prop) : ∀ (l : List α) (k : Nat) (δ : List Sl), I k δ → (∀ j (h : j < l.length) δ, I (k + j) δ → ∃ δ1 δ2, γ (g l[j]) δ = some δ1 ∧ (b δ1 = .nx δ2 ∨ b δ1 = .ct δ2) ∧ I (k + j + 1) δ2) → ∃ δ2, forL γ b (l.map g) δ = .nx δ2 ∧ I (k + l.length) δ2
  | [], k, δ, h, _ => ⟨δ, rfl, h⟩
  | d :: l, k, δ, h, st => by
    obtain ⟨δ1, δ2, e1, e2, h2⟩ := st 0 (by simp) δ h
    obtain ⟨δ3, e3, h3⟩ := x_forL_inv I l (k + 1) δ2 h2 (fun j hj δ' h' => by
      have := st (j + 1) (by simp; omega) δ' (by rw [show k + (j + 1) = k + 1 + j by omega]; exact h')
      simpa [show k + (j + 1) + 1 = k + 1 + j + 1 by omega] using this)
    refine ⟨δ3, ?_, by rw [List.length_cons, show k + (l.length + 1) = k + 1 + l.length by omega]; exact h3⟩
    rw [List.getElem_cons_zero] at e1
    rcases e2 with e2 | e2 <;> simp only [List.map_cons, forL, e1, e2] <;> exact e3
/-- a list comprehension without a condition, the slots as they were -/
theorem x_compL {α : Type} {γ : TgF} {elt : SE} {g : α → D} {f : α → D} {δ : List Sl} {vs : List Nat} : ∀ (l : List α) (acc : List D), (∀ d ∈ l, ∃ δ1 δ2, γ (g d) δ = some δ1 ∧ elt δ1 = .ok (.v (f d)) δ2 ∧ wipeS δ2 vs = δ) → compL [] vs γ bTrue elt (l.map g) acc δ = .ok (acc ++ l.map f) δ
  | [], acc, _ => by simp [compL, gOk_nil]
  | d :: l, acc, h => by
    obtain ⟨δ1, δ2, e1, e2, e3⟩ := h d (by simp)
    have := x_compL l (acc ++ [f d]) (fun d hd => h d (by simp [hd]))
    simp [compL, gOk_nil, e1, e2, e3, this]
theorem x_compLf {α : Type} {γ : TgF} {cond : SB} {elt : SE} {g : α → D} {p : α → Bool} {f : α → D} {δ : List Sl} {vs : List Nat} : ∀ (l : List α) (acc : List D), (∀ d ∈ l, ∃ δ1 δ2 δ3, γ (g d) δ = some δ1 ∧ cond δ1 = .ok (p d) δ2 ∧ wipeS δ2 vs = δ ∧ (p d = true → elt δ2 = .ok (.v (f d)) δ3 ∧ wipeS δ3 vs = δ)) → compL [] vs γ cond elt (l.map g) acc δ = .ok (acc ++ (l.filter p).map f) δ
  | [], acc, _ => by simp [compL, gOk_nil]
  | d :: l, acc, h => by
    obtain ⟨δ1, δ2, δ3, e1, e2, e3, e4⟩ := h d (by simp)
    have := fun acc => x_compLf l acc (fun d hd => h d (by simp [hd]))
    by_cases z : p d = true
    · obtain ⟨e5, e6⟩ := e4 z
      simp [compL, gOk_nil, e1, e2, e3, e5, e6, this, z]
    · have z' : p d = false := by simpa using z
      simp [compL, gOk_nil, e1, e2, e3, this, z']
@[simp] theorem x_wipe_nil {δ : List Sl} : wipeS δ [] = δ := rfl
@[simp] theorem x_wipe_cons {δ : List Sl} {v vs} : wipeS δ (v :: vs) = (wipeS δ vs).set v .no := rfl
@[simp] theorem x_back_nil {δ δ' : List Sl} : backS δ δ' [] = δ' := rfl
@[simp] theorem x_back_cons {δ δ' : List Sl} {v vs} : backS δ δ' (v :: vs) = (backS δ δ' vs).set v (δ.getD v .no) := rfl
@[simp] theorem x_noOwn_nil {δ : List Sl} : noOwn δ [] = true := rfl
@[simp] theorem x_noOwn_cons {δ : List Sl} {v vs} : noOwn δ (v :: vs) = ((match δ[v]? with | some (.own _) => false | some (.io _ _) => false | _ => true) && noOwn δ vs) := rfl
@[simp] theorem x_nLc {it : SI} {vs γ cond elt} {δ : List Sl} : nLc it vs γ cond elt δ = (it δ).bind fun t δ1 =>
  if noOwn δ1 vs && decide (t.items.length ≤ lim) && t.guard.all (fun p => decide (p.1 ∉ vs)) then (match compL t.guard vs γ cond elt t.items [] (wipeS δ1 vs) with
    | .ok acc δ2 => .ok (.lst acc) (backS δ1 δ2 vs)
    | _ => .bad) else .bad := rfl
end DL
set_option Elab.async false
set_option linter.all false
set_option maxRecDepth 100000
set_option maxHeartbeats 4000000
/-! DL: calls within an except suite, calls by keywords, dicts of several pairs, isinstance of a caught exception, tuples in order. -/
namespace DL
open PySem PySem.Spec L2
open PyProof.Rows hiding St
section
variable {P : Program} {w : World} {K : PySem.W.Frag} {mg : Str → Option Value} {base : Heap}
/-- a def where an exception is handled -/
theorem fn_okH {x qual : Str} {st : Stmt} {f : Addr} {fd : FuncData} {N ps : List Str} {k : Nat} {g : SS} (F : Fun K x qual st f fd) (S : FnScope N ps (defScope st))
    (hb : ∀ (cdv : Value) (A : Around) (outer : List Env) (s : Shared) (H : Hp) (E : XK) (p : Addr × Obj), L2H.Hot1 A p → L2H.RoomH k (A.deeper (envOfC qual (defScope st) s.heap.objs.size f cdv)) →
      DSs (L2H.cxH (L2N.CX P w) P w K mg base N qual (defScope st) f cdv A outer s H E p) (fun cls d _ H => E cls d H) (defBody st) g) :
    L2H.FnH P w K mg base (L2N.CX P w) (k + 1) f fd ps (spD K mg (fD ps.length N.length g)) := by
  obtain ⟨oc, od, kV, doc, pm, an, cdv, ct, osl, rfl, lk, hcd⟩ := F.ex
  refine L2H.fn_ofH lk hcd S (fun vs H Q E ⟨F, bs, as, h, _, _, _, p⟩ => ?_) fun A outer s H vs Q E p hot hr hsp => ?_
  · rw [h.len]
    unfold fD at p
    by_cases z : as.length = ps.length
    · exact z
    · rw [if_neg z] at p; exact p.elim
  · obtain ⟨F, bs, as, h, nd, hb', hl, q⟩ := hsp
    exact ⟨_, hb cdv A outer s H E p hot hr, post_fn h nd hb' hl q⟩
structure FnKH (P : Program) (w : World) (K : PySem.W.Frag) (mg : Str → Option Value) (base : Heap) (x : Str) (ps : List Str) (k : Nat) (g : FD) : Prop where
  ex : ∃ f fd, mg x = some (.ref f) ∧ PySem.W.keepIn K (.ref f) = true ∧ Binds K fd ps [] ∧ L2H.FnH P w K mg base (L2N.CX P w) k f fd ps (spD K mg g)
/-- what binds where all is handed over by name, in order -/
def KwB (K : PySem.W.Frag) (fd : FuncData) (ps : List Str) : Prop := ∀ (s : Shared) (ws : List Value), K.In s.heap → ws.length = ps.length → BindsTo s fd ⟨[], ps.zip ws⟩ (ps.zip ws)
structure FnKw (P : Program) (w : World) (K : PySem.W.Frag) (mg : Str → Option Value) (base : Heap) (x : Str) (ps : List Str) (k : Nat) (g : FD) : Prop where
  ex : ∃ f fd, mg x = some (.ref f) ∧ PySem.W.keepIn K (.ref f) = true ∧ KwB K fd ps ∧ FnOk P w K mg base (L2N.CX P w) k f fd ps (spD K mg g)
theorem hu64H {k : Nat} {A : Around} (hr : L2H.RoomH k A) : A.units + 64 < cLine := by have := hr.un; omega
theorem hu1H {k : Nat} {A : Around} (hr : L2H.RoomH k A) : A.units + 1 < cLine := by have := hr.un; omega
end
section
variable {X : Cx} {W : WX} {x : Str} {ps : List Str} {k : Nat} {gf : FD} {e : Expr} {es : List Expr} {fa : SA} {p pos : Pos}
theorem de_cH (F : FnKH X.prog X.w X.K X.mg X.base x ps k gf) (hc : L2H.HotC X) (tk : L2N.Takes X W) (hr : L2H.RoomH k X.A) (hg : Gl X x) (ha : DA X W (e :: es) fa) (hdb : (x == ("__debug__" : Str)) = false := by decide)
    (he : starEach (e :: es) X.env = (false, eval e X.env) :: starEach es X.env := by rfl) (hpl : (backTo pos (starEach es X.env)).any (·.1) = false := by rfl) : DE X W (.Call (.Name x p) (e :: es) [] pos) (eCall gf fa) := by
  obtain ⟨f, fd, hm, hk, hb, F⟩ := F.ex
  exact (L2H.pe_callH F hr hc hg hm hk hb (L2N.passAt tk) ha hdb he hpl).imp fun _ _ _ => rd_call
theorem dn_cH (F : FnKH X.prog X.w X.K X.mg X.base x ps k gf) (hc : L2H.HotC X) (tk : L2N.Takes X W) (hr : L2H.RoomH k X.A) (hg : Gl X x) (ha : DA X W (e :: es) fa) (hdb : (x == ("__debug__" : Str)) = false := by decide)
    (he : starEach (e :: es) X.env = (false, eval e X.env) :: starEach es X.env := by rfl) (hpl : (backTo pos (starEach es X.env)).any (·.1) = false := by rfl) : DN X W (.Call (.Name x p) (e :: es) [] pos) (nCall gf fa) := by
  obtain ⟨f, fd, hm, hk, hb, F⟩ := F.ex
  exact (L2H.pe_callH F hr hc hg hm hk hb (L2N.passAt tk) ha hdb he hpl).imp fun _ _ _ => rd_ncall
/-! ### calls by keywords -/
abbrev DK (X : Cx) (W : WX) (kws : List Keyword) (f : SA) : Prop := PK X kws (rdA X.K X.mg W f)
theorem _root_.L2.PK.imp {kws : List Keyword} {t t' : TA} (h : PK X kws t) (i : ∀ σ H Q, t' σ H Q → t σ H Q) : PK X kws t' := ⟨fun pos pins s σ H Q I q => h.run pos pins s σ H Q I (i σ H Q q)⟩
theorem dk_nil : DK X W [] aNil := pk_nil.imp fun σ H Q ⟨F, bs, H0, δ, R, h⟩ => h [] H R .refl rfl
theorem dk_cons {nm : Option Str} {kpos : Pos} {kws : List Keyword} {f : SE} {g : SA} (ha : DE X W e f) (hr : DK X W kws g) : DK X W (⟨nm, e, kpos⟩ :: kws) (aCons f g) := (pk_cons ha hr).imp fun σ H Q h => by
  obtain ⟨F, bs, H0, δ, R, h⟩ := h
  refine ⟨F, bs, H0, δ, R, Post.imp (Post.first h) fun x H1 ⟨δ1, a, R1, k1, p, h1⟩ => ?_⟩
  refine ⟨F, bs, H0, δ1, R1, Post.imp (Post.first h1) fun xs H2 ⟨δ2, as, R2, k2, q, h2⟩ => ?_⟩
  exact h2 (x :: xs) H2 R2 .refl ⟨x, xs, rfl, p.mv R1 k2, q⟩
theorem pe_kw {f : Addr} {fd : FuncData} {sp : Sp} {CXx : CXT} {E : St → XK} {kws : List Keyword} {t : TA} (F : FnOk X.prog X.w X.K X.mg X.base CXx k f fd ps sp) (hr : Room k X.A) (hg : Gl X x) (hm : X.mg x = some (.ref f)) (hk : PySem.W.keepIn X.K (.ref f) = true)
    (hb : KwB X.K fd ps) (hx : ∀ σ, PassesAt CXx X σ (E σ)) (hkw : PK X kws t) (hall : (backToKw pos (keywordEach kws X.env)).all (·.1.isSome) = true) (hks : (backToKw pos (keywordEach kws X.env)).filterMap (·.1) = ps) (hdb : (x == ("__debug__" : Str)) = false)
    (hpl : ((backTo pos (starEach [] X.env)).any (·.1) || (backToKw pos (keywordEach kws X.env)).any (·.1.isNone)) = false) : PE X (.Call (.Name x p) [] kws pos) (tCallS sp E t) := by
  refine ⟨fun pp s0 σ0 H0 QQ I0 h0 => wpAny_Call_Name_kw (ld_glob I0 hg hm ?_ hdb)⟩
  refine PySem.W.callWith_KW0 (h₀ := X.base) I0.ok.mod.kin hk hall (thn (hkw.run pos pp s0 σ0 H0 _ I0 h0) fun ws sA ⟨zs, HA, IA, rA, qA⟩ => ⟨IA.kIn, ?_⟩) hpl
  rw [hks]
  have lA : ws.length = ps.length := by rw [← rA.length, F.len _ _ _ _ qA]
  refine wpAny_call (codeAny_mono (F.run X.A X.stack sA HA ⟨[], ps.zip ws⟩ ws zs QQ (E σ0) hr IA.env0 (hb sA ws IA.kIn lA) rA qA) fun r sZ hZ => ?_)
  cases r with
  | error er => exact hx σ0 pp HA sA er sZ IA hZ
  | ok fl =>
    cases fl with
    | next => exact hZ.elim
    | brk => exact hZ.elim
    | cont => exact hZ.elim
    | ret u => exact IA.after hZ
theorem de_ck {kws : List Keyword} (F : FnKw X.prog X.w X.K X.mg X.base x ps k gf) (tk : L2N.Takes X W) (hr : Room k X.A) (hg : Gl X x) (ha : DK X W kws fa) (hks : (backToKw pos (keywordEach kws X.env)).filterMap (·.1) = ps := by rfl)
    (hall : (backToKw pos (keywordEach kws X.env)).all (·.1.isSome) = true := by rfl) (hdb : (x == ("__debug__" : Str)) = false := by decide)
    (hpl : ((backTo pos (starEach [] X.env)).any (·.1) || (backToKw pos (keywordEach kws X.env)).any (·.1.isNone)) = false := by rfl) : DE X W (.Call (.Name x p) [] kws pos) (eCall gf fa) := by
  obtain ⟨f, fd, hm, hk, hb, F⟩ := F.ex
  exact (pe_kw F hr hg hm hk hb (L2N.passAt tk) ha hall hks hdb hpl).imp fun _ _ _ => rd_call
end
/-! ### tuples of ints in order -/
def gLtA : D → D → Option D
  | .int a, .int b => some (.bl (decide (a < b)))
  | .tup a, .tup b => match intsOf a, intsOf b with
    | some ns, some ms => some (.bl (HT.lexLt ns ms))
    | _, _ => none
  | _, _ => none
section
variable {X : Cx} {K : PySem.W.Frag} {mg : Str → Option Value}
def rLtA (K : PySem.W.Frag) : R2 := fun x y H Q => rI0 (fun i j => .bl (decide (i < j))) x y H Q ∨ rLtT K x y H Q
theorem op_ltA (hu : X.A.units + 64 < cLine) : OpR X (compareOp .Lt) (rLtA X.K) := by
  intro pp s σ H x y v u Q I rx ry h
  rcases h with h | h
  · exact op_lt pp s σ H x y v u Q I rx ry h
  · exact op_ltT (by omega) pp s σ H x y v u Q I rx ry h
theorem RepL.intsOf {A : AP} {H : Hp} : ∀ {l : List D} {xs : List V} {ns : List Int}, RepL K mg A H l xs → DL.intsOf l = some ns → xs = ns.map V.int
  | [], xs, ns, r, e => by simp only [DL.intsOf] at e; cases e; simpa only [RepL, List.map_nil] using r
  | d :: l, xs, ns, r, e => by
    obtain ⟨x, r', ex, r1, r2⟩ := (by simpa only [RepL] using r : ∃ x r', xs = x :: r' ∧ Rep K mg A H d x ∧ RepL K mg A H l r')
    cases d with
    | int i =>
      simp only [DL.intsOf] at e
      cases e2 : DL.intsOf l with
      | none => rw [e2] at e; simp at e
      | some ms =>
        rw [e2] at e
        simp at e
        subst e
        rw [ex, RepL.intsOf r2 e2]
        simp only [Rep] at r1
        rw [r1]; rfl
    | _ => simp [DL.intsOf] at e
theorem sem_ltA : OpS K mg (rLtA K) gLtA := by
  intro F bs H0 δ σ H a b d x y Q R ra rb e q
  match a, b, e with
  | .int i, .int j, e =>
    cases e
    exact .inl ⟨i, j, ra.int, rb.int, q _ H R .refl Rep.bl⟩
  | .tup l, .tup m, e =>
    simp only [gLtA] at e
    cases e1 : DL.intsOf l with
    | none => rw [e1] at e; simp at e
    | some ns =>
      cases e2 : DL.intsOf m with
      | none => rw [e1, e2] at e; simp at e
      | some ms =>
        rw [e1, e2] at e
        simp at e
        subst e
        obtain ⟨p1, xs, rfl, t1, r1⟩ := ra.tup
        obtain ⟨p2, ys, rfl, t2, r2⟩ := rb.tup
        have h1 := RepL.intsOf r1 e1
        have h2 := RepL.intsOf r2 e2
        subst h1 h2
        exact .inr ⟨p1, p2, ns, ms, rfl, rfl, t1.sq, t2.sq, q _ H R .refl Rep.bl⟩
end
/-! ### isinstance of a caught exception -/
def eIsE (a dx : Addr) (k : Str) (i : Nat) (l : List (Str × Bool)) : SE := fun δ => match δ[i]? with
  | some (.exn a' dx' c _ _) => if a' = a ∧ dx' = dx ∧ c = k then (match tst l k with
    | some b => .ok (.v (.bl b)) δ
    | none => .bad) else .bad
  | _ => .bad
/-- what the table l says of the class cv -/
def IsT (K : PySem.W.Frag) (mg : Str → Option Value) (cv : Value) (l : List (Str × Bool)) : Prop := ∀ p, p ∈ l → ∀ C, mg p.1 = some (.ref C) → PySem.W.kitOne K (.ref C) cv = some p.2
section
variable {X : Cx} {W' : WX} {a dx : Addr} {oe : Obj} {pn : List (Addr × Obj)} {C : Addr}
def rIsED (K : PySem.W.Frag) (D a dx : Addr) : List V → Hp → VK → Prop := fun xs H Q => ∃ (c : V) (cv : Value) (b : Bool) (ps : List (Str × V)), xs = [.ref a, c] ∧ H dx = some (.xd ps) ∧ (∀ u, RelV c u → u = cv) ∧ PySem.W.kitOne K (.ref D) cv = some b ∧ Q (.bl b) H
theorem call_isED (Cc : ExcC X.K C) (hz : L2N.Zn (.ref C) (some dx) oe) (hf : ∃ vs, oe.data = .fields vs) : CallR (X.suite a ((a, oe) :: pn)) (.builtin "isinstance") (rIsED X.K C a dx) := by
  intro pp s0 σ0 H0 xs us Q I0 r h
  obtain ⟨c, cv, b, ps, rfl, hd, hcv, e, q⟩ := h
  obtain ⟨u1, u2, rfl, r1, r2⟩ := vals2 r
  cases (show u1 = Value.ref a from r1)
  have ec := hcv _ r2
  subst ec
  have g0 := (I0.pin (a, oe) (List.mem_append.mpr (.inl List.mem_cons_self))).1
  obtain ⟨od, go⟩ : ∃ od, s0.heap.get? dx = some od := by
    obtain ⟨mA, ⟨od, _, _, hh, _⟩, _⟩ := I0.hok dx _ hd
    exact ⟨_, hh⟩
  obtain ⟨vs, hv⟩ := hf
  have J : PySem.W.InstAt s0.heap a oe C (some od) := by
    obtain ⟨oc, od', oda, osl⟩ := oe
    obtain ⟨h1, h2, h3⟩ := hz
    dsimp only at h1 h2 hv
    subst h1 h2 hv
    exact ⟨g0, rfl, rfl, go⟩
  obtain ⟨cd, hc, _⟩ := PySem.W.any_some Cc.hd
  exact PySem.W.kia_one (PySem.W.kitx_exc (od := some od) (by rw [hc]; rfl) Cc.hg Cc.hk Cc.hs Cc.ha Cc.hn Cc.ht Cc.hm) I0.kIn J e (fun z => nomatch z) fun tk => ⟨.bl b, H0, I0.kept (t' := tk) fun _ _ z => z, rfl, q⟩
theorem b_isinst : bootBuiltins "isinstance" = some (.builtin "isinstance") := by decide +kernel
theorem de_isE {i : Nat} {n : Str} {k : Str} {l : List (Str × Bool)} {cv : Value} {cV : V} {ce : Expr} {np ip pos : Pos} (hz : L2N.Zn (.ref C) (some dx) oe) (hf : ∃ vs, oe.data = .fields vs) (hk : X.mg k = some (.ref C)) (T : IsT X.K X.mg cv l) (Cc : ExcC X.K C)
    (hN : X.N[i]? = some n) (hv : Vis X.env.scope n) (hd : (n == ("__debug__" : Str)) = false) (hcd : (n == ("__classdict__" : Str)) = false) (hm : X.mg "isinstance" = none) (hg : Gl X "isinstance")
    (hce : PE (X.suite a ((a, oe) :: pn)) ce (fun σ H Q => Q cV H)) (hcv : ∀ u, RelV cV u → u = cv)
    (h1 : starEach [.Name n np, ce] X.env = (false, eval (.Name n np) X.env) :: starEach [ce] X.env := by rfl) (h2 : starEach [ce] X.env = (false, eval ce X.env) :: starEach [] X.env := by rfl) (h3 : (backTo pos (starEach [ce] X.env)).any (·.1) = false := by rfl) :
    DE (X.suite a ((a, oe) :: pn)) W' (.Call (.Name "isinstance" ip) [.Name n np, ce] [] pos) (eIsE a dx k i l) := by
  refine (pe_callB (call_isED Cc hz hf) hg hm b_isinst (pa_cons (pe_var (X := X.suite a ((a, oe) :: pn)) hN hv hd hcd) (pa_cons hce pa_nil h2) h1) (by decide) (by decide) h1 h3).imp fun σ H Q h => ?_
  obtain ⟨F, bs, H0, δ, R, h⟩ := h
  unfold eIsE at h
  cases es : δ[i]? with
  | none => rw [es] at h; exact h.elim
  | some s =>
    rw [es] at h
    have q := R.slot i s es
    cases s with
    | no => exact h.elim
    | val _ => exact h.elim
    | own _ => exact h.elim
    | io _ _ => exact h.elim
    | exn a' dx' c ns vs =>
      by_cases z : a' = a ∧ dx' = dx ∧ c = k
      · obtain ⟨rfl, rfl, rfl⟩ := z
        simp only [and_self, if_true] at h
        obtain ⟨eσ, C', xs, gc, _, t, _, r⟩ := q
        cases et : tst l c with
        | none => rw [et] at h; exact h.elim
        | some b =>
          rw [et] at h
          exact ⟨_, eσ, cV, cv, b, _, rfl, t, hcv, T _ (tst_mem et) C hk, h (.bl b) H R .refl (by simp only [AgR, Rep])⟩
      · simp only [if_neg z] at h; exact h.elim
end
/-! ### a dict of several pairs with texts as keys -/
def evs : List SE → List Sl → Option (List D × List Sl)
  | [], δ => some ([], δ)
  | f :: fs, δ => match f δ with
    | .ok (.v d) δ1 => (match evs fs δ1 with
      | some (ds, δ2) => some (d :: ds, δ2)
      | none => none)
    | _ => none
def nDictN (ks : List Str) (fs : List SE) : SN := fun δ => match evs fs δ with
  | some (ds, δ1) => .ok (.dk (ks.map .inr) ds) δ1
  | none => .bad
section
variable {X : Cx} {W : WX} {K : PySem.W.Frag} {mg : Str → Option Value} {F : AP} {bs : List Addr} {H0 H : Hp} {δ : List Sl} {σ : St}
def trsOf (K : PySem.W.Frag) (mg : Str → Option Value) (W : WX) (ks : List Str) (fs : List SE) : List (TE × TE) := (ks.zip fs).map fun p => (rdE K mg W (eC (.str p.1)), rdE K mg W p.2)
theorem evs_pairs {F : AP} {bs : List Addr} {H0 : Hp} {σ : St} : ∀ {ks : List Str} {fs : List SE} {δ δ' : List Sl} {H : Hp} {ds : List D} {Q : List (V × V) → Hp → Prop}, ks.length = fs.length → Rel K mg F bs H0 δ σ H → evs fs δ = some (ds, δ') →
    (∀ xs H', Rel K mg F bs H0 δ' σ H' → Keep bs δ σ H δ' σ H' → ds.length = ks.length → RepL K mg (AA F δ' σ) H' ds xs → Q ((ks.map V.str).zip xs) H') → tPairs (trsOf K mg W ks fs) σ H Q
  | [], [], δ, δ', H, ds, Q, _, R, e, q => by
    simp only [evs, Option.some.injEq, Prod.mk.injEq] at e
    obtain ⟨rfl, rfl⟩ := e
    exact q [] H R .refl rfl RepL.nil
  | [], _ :: _, _, _, _, _, _, hl, _, _, _ => by simp at hl
  | _ :: _, [], _, _, _, _, _, hl, _, _, _ => by simp at hl
  | k :: ks, f :: fs, δ, δ', H, ds, Q, hl, R, e, q => by
    simp only [evs] at e
    cases ef : f δ with
    | exc _ _ _ _ => rw [ef] at e; simp at e
    | bad => rw [ef] at e; simp at e
    | ok a δ1 =>
      cases a with
      | s _ => rw [ef] at e; simp at e
      | v d =>
        rw [ef] at e
        simp only at e
        cases e2 : evs fs δ1 with
        | none => rw [e2] at e; simp at e
        | some p =>
          obtain ⟨ds', δ2⟩ := p
          rw [e2] at e
          simp only [Option.some.injEq, Prod.mk.injEq] at e
          obtain ⟨rfl, rfl⟩ := e
          refine ⟨F, bs, H0, δ, R, ?_⟩
          intro x H1 R1 k1 px
          have ex : x = .str k := by simpa only [AgR, Rep] using px
          subst ex
          refine ⟨F, bs, H0, δ, R1, ?_⟩
          show Post K mg W F bs H0 _ δ σ H1 (f δ) _
          rw [ef]
          intro y H2 R2 k2 py
          refine evs_pairs (by simpa using hl) R2 e2 fun xs H3 R3 k3 l3 r3 => ?_
          have := q (y :: xs) H3 R3 (k1.trans (k2.trans k3)) (by simp [l3]) (RepL.cons (Rep.mv (R2.mv k3) _ _ py) r3)
          exact this
theorem merge_str : ∀ (ks : List Str) (xs : List V) (acc : List (Key × V)), ks.Nodup → (∀ k ∈ ks, ∀ p ∈ acc, p.1 ≠ Sum.inr k) → ks.length = xs.length → mergeK acc ((ks.map Sum.inr).zip xs) = acc ++ (ks.map Sum.inr).zip xs
  | [], xs, acc, _, _, _ => by simp [mergeK]
  | k :: ks, [], acc, _, _, h => by simp at h
  | k :: ks, x :: xs, acc, hn, hd, hl => by
    have hput : putK acc (Sum.inr k) x = acc ++ [(Sum.inr k, x)] := by
      have : (acc.any fun kv => decide (kv.1 = Sum.inr k)) = false := by
        rw [List.any_eq_false]
        intro p hp
        simpa using hd k (by simp) p hp
      unfold putK
      simp [this]
    have hn' := List.nodup_cons.mp hn
    have ih := merge_str ks xs (acc ++ [(Sum.inr k, x)]) hn'.2 (by
      intro j hj p hp
      rcases List.mem_append.mp hp with hp | hp
      · exact hd j (by simp [hj]) p hp
      · simp at hp
        subst hp
        intro z
        have : k = j := Sum.inr.inj z
        subst this
        exact hn'.1 hj) (by simpa using hl)
    simp only [List.map_cons, List.zip_cons_cons, mergeK, List.foldl_cons, hput] at *
    rw [ih]
    simp
theorem rd_dictN {ks : List Str} {fs : List SE} {Q : VK} (hl : ks.length = fs.length) (h15 : ks.length ≤ 15) (hn : ks.Nodup) (h : rdN K mg W (nDictN ks fs) σ H Q) : tDisp (trsOf K mg W ks fs) σ H Q := by
  obtain ⟨F, bs, H0, δ, R, h⟩ := h
  intro p hp
  have R0 := R.guard (o := .dK []) hp
  have k0 : Keep bs δ σ H δ σ (upd H p (.dK [])) := keep_new hp
  have np := R.freshM hp
  unfold nDictN at h
  cases ev : evs fs δ with
  | none => rw [ev] at h; exact h.elim
  | some q =>
    obtain ⟨ds, δ2⟩ := q
    rw [ev] at h
    simp only at h
    refine evs_pairs hl R0 ev fun ys H2 R2 k2 ld r2 => ?_
    obtain ⟨n2, q2⟩ := k2 p _ np upd_same
    have ly : ys.length = ks.length := by rw [r2.len, ld]
    refine ⟨q2, (ks.map Sum.inr).zip ys, ?_, by simp [ly]; omega, ?_⟩
    · apply List.ext_getElem
      · simp
      · intro i h1 h2
        simp [kV]
    · have hb : ∀ b, b ∈ bs → b ≠ p := fun b hb z => R.live b (R.bsF b hb) (z ▸ hp)
      obtain ⟨R3, m3⟩ := R2.chg hb (R.fresh0 hp) (.lst ys)
      have kk : Keep bs δ σ H δ2 σ (upd H2 p (.lst ys)) := fun a o n e => by
        have ne : a ≠ p := ne_of_none e hp
        obtain ⟨h1, g1⟩ := (k0.trans k2) a o n e
        exact ⟨h1, by rw [upd_ne ne]; exact g1⟩
      obtain ⟨Rb, kb, rb, _⟩ := Rel.back (vs := []) (l := ds) (xs := ys) R rfl hp R3 kk (fun j s hj => nomatch hj) upd_same (RepL.mv m3 _ _ r2)
      have fin := h (p, .dK ((ks.map Sum.inr).zip ys)) _ Rb kb ⟨by simp, ys, rfl, by simp [ld], rb⟩
      have eh : upd (fun b => if b = p then none else upd H2 p (.lst ys) b) p (.dK ((ks.map Sum.inr).zip ys)) = upd H2 p (.dK (mergeK [] ((ks.map Sum.inr).zip ys))) := by
        rw [merge_str ks ys [] hn (by simp) ly.symm, List.nil_append]
        funext b
        by_cases hbp : b = p
        · rw [hbp, upd_same, upd_same]
        · rw [upd_ne hbp]
          show (if b = p then none else upd H2 p (.lst ys) b) = _
          rw [if_neg hbp, upd_ne hbp, upd_ne hbp]
      rw [← eh]
      exact fin
/-- the pairs of such a dict as they are written -/
inductive DPs (X : Cx) (W : WX) (pos : Pos) : List (Option Expr) → List Expr → List Str → List SE → Prop
  | nil : DPs X W pos [] [] [] []
  | cons {k v : Expr} {ks : List (Option Expr)} {vs : List Expr} {s : Str} {f : SE} {ss : List Str} {fs : List SE} (hk : DE X W k (eC (.str s))) (hv : DE X W v f) (r : DPs X W pos ks vs ss fs) : DPs X W pos (some k :: ks) (v :: vs) (s :: ss) (f :: fs)
theorem DPs.pps {pos : Pos} : ∀ {ks : List (Option Expr)} {vs : List Expr} {ss : List Str} {fs : List SE}, DPs X W pos ks vs ss fs → PPs X pos ks vs (trsOf X.K X.mg W ss fs)
  | _, _, _, _, .nil => pps_nil
  | _, _, _, _, .cons hk hv r => pps_cons hk hv r.pps
theorem dn_dictN {pos : Pos} {ks : List (Option Expr)} {vs : List Expr} {ss : List Str} {fs : List SE} (h : DPs X W pos ks vs ss fs) (hall : ks.all (·.isSome) = true) (hl : ks.length = vs.length) (h0 : ks ≠ []) (h15 : ks.length ≤ 15) (hl2 : ss.length = fs.length) (h152 : ss.length ≤ 15) (hn : ss.Nodup) : DN X W (.Dict ks vs pos) (nDictN ss fs) :=
  (pe_disp h.pps hall hl h0 h15).imp fun _ _ _ => rd_dictN hl2 h152 hn
end
section
variable {δ : List Sl}
@[simp] theorem x_evs_nil : evs [] δ = some ([], δ) := (rfl)
@[simp] theorem x_evs_cons {f : SE} {fs : List SE} : evs (f :: fs) δ = (match f δ with
    | .ok (.v d) δ1 => (match evs fs δ1 with
      | some (ds, δ2) => some (d :: ds, δ2)
      | none => none)
    | _ => none) := (rfl)
@[simp] theorem x_nDictN {ks : List Str} {fs : List SE} : nDictN ks fs δ = (match evs fs δ with
  | some (ds, δ1) => .ok (.dk (ks.map .inr) ds) δ1
  | none => .bad) := (rfl)
end
/-! ### things of one's own become data ahead of a statement -/
def sZrf (is : List Nat) (f : SS) : SS := fun δ => f (frz is δ)
section
variable {X : Cx} {W : WX} {K : PySem.W.Frag} {mg : Str → Option Value} {H : Hp} {σ : St} {δ : List Sl}
theorem rd_zrf {is : List Nat} {f : SS} {E : Ends} (h : rdS K mg W (sZrf is f) E σ H) : rdS K mg W f E σ H := by
  obtain ⟨F, bs, H0, δ, R, h⟩ := h
  obtain ⟨R2, k2⟩ := Rel.frz is R
  exact ⟨F, bs, H0, _, R2, PostS.base k2 h⟩
theorem ds_zrf {st : Stmt} {is : List Nat} {f : SS} (h : DS X W st f) : DS X W st (sZrf is f) := h.imp fun _ _ _ => rd_zrf
@[simp] theorem x_sZrf {is : List Nat} {f : SS} : sZrf is f δ = f (frz is δ) := (rfl)
@[simp] theorem x_gLtA {a b : Int} : gLtA (.int a) (.int b) = some (.bl (decide (a < b))) := (rfl)
end
/-! ### for the end -/
section
variable {K : PySem.W.Frag} {mg : Str → Option Value}
theorem kwb_of {x qual : Str} {st : Stmt} {f : Addr} {fd : FuncData} {ps : List Str} (F : Fun K x qual st f fd)
    (h : ∀ (kV doc pm : Value) (an : Option Addr) (cdv ct : Value) (ws : List Value), ws.length = ps.length → bindArgs (PySem.W.fnOf x qual (defArgs st) (defBody st) (defScope st) .none kV doc pm an cdv ct) ⟨[], ps.zip ws⟩ = pure (ps.zip ws)) : KwB K fd ps := by
  obtain ⟨oc, od, kV, doc, pm, an, cdv, ct, osl, rfl, lk, hcd⟩ := F.ex
  exact fun s ws _ hl => .of_eq (h kV doc pm an cdv ct ws hl)
theorem kit_own {Ck Ch : Addr} {b : Bool} (hs : PySem.W.subIn K (.ref Ck) (.ref Ck) = some true) (hd : PySem.W.hasDictIn K Ch = true) (ht : PySem.W.typeIn K (.ref Ch) = some (.type "type")) (h4 : PySem.W.subIn K (.ref Ck) (.ref Ch) = some b) : PySem.W.kitOne K (.ref Ck) (.ref Ch) = some b := by
  unfold PySem.W.kitOne
  by_cases z : (Value.ref Ck == Value.ref Ch) = true
  · rw [if_pos z]
    have e : Ck = Ch := Value.ref.inj (beq_iff_eq.mp z)
    subst e
    rw [hs] at h4
    exact h4
  · rw [if_neg z]
    obtain ⟨cd, hc, _⟩ := PySem.W.any_some hd
    unfold PySem.W.kitCls
    simp only
    rw [hc, ht]
    exact (if_pos (by first | rfl | decide +kernel | simp)).trans h4
theorem kit_bi {Ck : Addr} {T : String} {b : Bool} (hm : PySem.W.kitMeta T = true) (h4 : PySem.W.subIn K (.ref Ck) (.type T) = some b) : PySem.W.kitOne K (.ref Ck) (.type T) = some b := by
  unfold PySem.W.kitOne
  rw [if_neg (by intro z; exact nomatch beq_iff_eq.mp z)]
  unfold PySem.W.kitCls
  simp only
  rw [if_pos hm]
  exact h4
end
end DL
set_option Elab.async false
set_option linter.all false
set_option maxRecDepth 100000
set_option maxHeartbeats 4000000
namespace Pg
open PySem PySem.Spec L2 DL
open PyProof.Rows hiding St
def top (i : Nat) : Stmt := PySem.Challenge.pw_coinreaders_k80_whole_paths_forged.main.body.getD i (.Pass ⟨0, 0, 0, 0⟩)
def K_GREATEST_MODULUS : D := .int (97)
def K_LEAF_NUMBERS : D := .tup [.int (1), .int (2), .int (4), .int (8), .int (16)]
def tl_InvalidPaper : List (Str × Bool) := [("InvalidKey", false), ("InvalidList", false), ("InvalidNumber", false), ("InvalidPaper", true), ("Undefined", false)]
def tl_ReadError : List (Str × Bool) := [("InvalidKey", true), ("InvalidList", true), ("InvalidNumber", true), ("InvalidPaper", true), ("Undefined", true)]
def tl_Undefined : List (Str × Bool) := [("InvalidKey", false), ("InvalidList", false), ("InvalidNumber", false), ("InvalidPaper", false), ("Undefined", true)]
def ts_InvalidPaper : List (Str × Bool) := [("InvalidKey", false), ("InvalidList", false), ("InvalidNumber", false), ("InvalidPaper", true), ("Undefined", false)]
def ts_Undefined : List (Str × Bool) := [("InvalidKey", false), ("InvalidList", false), ("InvalidNumber", false), ("InvalidPaper", false), ("Undefined", true)]
def ts_ValueError : List (Str × Bool) := [("InvalidKey", true), ("InvalidList", true), ("InvalidNumber", true), ("InvalidPaper", true), ("Undefined", true)]
theorem b_ValueError : bootBuiltins "ValueError" = some (.type "ValueError") := by decide +kernel
structure Tx (P : Program) (w : World) (K : PySem.W.Frag) (mg : Str → Option Value) (base : Heap) : Prop where
  m_ValueError : mg "ValueError" = none
  m_abs : mg "abs" = none
  m_all : mg "all" = none
  m_bool : mg "bool" = none
  m_enumerate : mg "enumerate" = none
  m_int : mg "int" = none
  m_isinstance : mg "isinstance" = none
  m_len : mg "len" = none
  m_list : mg "list" = none
  m_max : mg "max" = none
  m_min : mg "min" = none
  m_range : mg "range" = none
  m_reversed : mg "reversed" = none
  m_str : mg "str" = none
  m_tuple : mg "tuple" = none
  m_zip : mg "zip" = none
  c_GREATEST_MODULUS : ∃ v u, mg "GREATEST_MODULUS" = some u ∧ RelV v u ∧ ∀ A H, Rep K mg A H K_GREATEST_MODULUS v
  c_LEAF_NUMBERS : ∃ v u, mg "LEAF_NUMBERS" = some u ∧ RelV v u ∧ ∀ A H, Rep K mg A H K_LEAF_NUMBERS v
  x_InvalidKey : ExK1 P w K mg base "InvalidKey" "value" "self" "value"
  x_InvalidList : ExK1 P w K mg base "InvalidList" "value" "self" "value"
  x_InvalidNumber : ExK1 P w K mg base "InvalidNumber" "value" "self" "value"
  x_InvalidPaper : ExK2 P w K mg base "InvalidPaper" "part" "place" "self" "part" "place"
  x_Undefined : ExK1 P w K mg base "Undefined" "what" "self" "what"
  h_InvalidPaper : ∃ c : Value, HF K mg "InvalidPaper" c tl_InvalidPaper
  h_ReadError : ∃ c : Value, HF K mg "ReadError" c tl_ReadError
  h_Undefined : ∃ c : Value, HF K mg "Undefined" c tl_Undefined
  i_InvalidPaper : ∃ C : Addr, mg "InvalidPaper" = some (.ref C) ∧ IsT K mg (.ref C) ts_InvalidPaper
  i_Undefined : ∃ C : Addr, mg "Undefined" = some (.ref C) ∧ IsT K mg (.ref C) ts_Undefined
  i_ValueError : IsT K mg (.type "ValueError") ts_ValueError
  e_InvalidPaper : ∀ k C, mg k = some (.ref C) → tst tl_InvalidPaper k = some true → ExcC K C
  e_Undefined : ∀ k C, mg k = some (.ref C) → tst tl_Undefined k = some true → ExcC K C
  t_hd__law_wrong_0 : ∀ k C, mg k = some (.ref C) → tst tl_InvalidPaper k = some true → ∀ f ∈ (["part", "place"] : List Str), XfC K C ∧ PySem.W.findIn K (.ref C) f = some none
  t_hd__law_forged_0 : ∀ k C, mg k = some (.ref C) → tst tl_Undefined k = some true → ∀ f ∈ (["what"] : List Str), XfC K C ∧ PySem.W.findIn K (.ref C) f = some none
/-! ### _law_mark -/
abbrev nm__law_mark : List Str := ["key", "x", "y"]
theorem sc__law_mark : FnScope nm__law_mark ["key", "x", "y"] (defScope (top 42)) := ⟨rfl, rfl, rfl, by decide +kernel, rfl, by decide +kernel, by decide +kernel⟩
noncomputable def fb__law_mark : SS := sRet (eBin gMod (eCB gInt (aCons (eBin gAdd (eBin gAdd (eBin gAdd (eBin gMul1 (eBin gIx (eVar 0) (eC (.int 1))) (eVar 1)) (eBin gMul1 (eBin gIx (eVar 0) (eC (.int 2))) (eVar 2))) (eBin gMul1 (eBin gMul1 (eBin gIx (eVar 0) (eC (.int 3))) (eVar 1)) (eVar 2))) (eC (.int 1))) (aNil))) (eBin gIx (eVar 0) (eC (.int 0))))
noncomputable def fd__law_mark : FD := fD 3 3 fb__law_mark
theorem ok__law_mark {P : Program} {w : World} {K : PySem.W.Frag} {mg : Str → Option Value} {base : Heap} {f : Addr} {fd : FuncData} {x qual : Str} (T : Tx P w K mg base)    (F : Fun K x qual (top 42) f fd) : FnOk P w K mg base (L2N.CX P w) 1 f fd ["key", "x", "y"] (spD K mg fd__law_mark) :=
  fn_ok (N := nm__law_mark) (ps := ["key", "x", "y"]) (g := fb__law_mark) F sc__law_mark fun cdv A outer s H E hr => by
    have S := sc__law_mark
    exact (ds_one (ds_ret (de_op op_modN sem_mod (de_toInt T.m_int rfl (da_cons (de_op op_addA sem_add (de_op op_addA sem_add (de_op op_addA sem_add (de_op op_mulA sem_mul (de_ix (hu64 hr) (dv 0) de_int) (dv 1)) (de_op op_mulA sem_mul (de_ix (hu64 hr) (dv 0) de_int) (dv 2))) (de_op op_mulA sem_mul (de_op op_mulA sem_mul (de_ix (hu64 hr) (dv 0) de_int) (dv 1)) (dv 2))) de_int) da_nil)) (de_ix (hu64 hr) (dv 0) de_int))))
/-! ### _law_collision -/
abbrev nm__law_collision : List Str := ["key", "first", "k", "best", "x", "y", "at"]
theorem sc__law_collision : FnScope nm__law_collision ["key"] (defScope (top 47)) := ⟨rfl, rfl, rfl, by decide +kernel, rfl, by decide +kernel, by decide +kernel⟩
noncomputable def L__law_collision_1 : SE := eTup (aNil)
noncomputable def B__law_collision_1 : SS := sSeq (sAsg 6 (eCall fd__law_mark (aCons (eVar 0) (aCons (eVar 4) (aCons (eVar 5) (aNil)))))) (sIf (bV (eBin gEq (eBin gIx (eVar 1) (eVar 6)) (eTup (aNil)))) (sSetI 1 (eVar 6) (eTup (aCons (eVar 4) (aCons (eVar 5) (aNil))))) (sIf (bOr (bV (eBin gEq (eVar 3) (eTup (aNil)))) (bV (eBin gLtA (eBin gIx (eVar 1) (eVar 6)) (eBin gIx (eVar 3) (eC (.int 0)))))) (sAsg 3 (eTup (aCons (eBin gIx (eVar 1) (eVar 6)) (aCons (eTup (aCons (eVar 4) (aCons (eVar 5) (aNil)))) (aNil))))) (sNext)))
noncomputable def B__law_collision_2 : SS := sSeq (sFor (iRng1 (aCons (eBin gIx (eVar 0) (eC (.int 0))) (aNil))) (tgN 5) (B__law_collision_1)) (sIf (bAnd (bV (eBin gNe (eVar 3) (eTup (aNil)))) (bV (eBin gEq (eBin gIx (eVar 3) (eC (.int 0))) (eTup (aCons (eC (.int 0)) (aCons (eC (.int 0)) (aNil))))))) (sRet (eVar 3)) (sNext))
noncomputable def fb__law_collision : SS := sSeq (sNew 1 (nLc (iRng1 (aCons (eBin gIx (eVar 0) (eC (.int 0))) (aNil))) [2] (tgN 2) (bTrue) (L__law_collision_1))) (sSeq (sAsg 3 (eTup (aNil))) (sSeq (sFrz [1] (sFor (iRng1 (aCons (eBin gIx (eVar 0) (eC (.int 0))) (aNil))) (tgN 4) (B__law_collision_2))) (sRet (eVar 3))))
noncomputable def fd__law_collision : FD := fD 1 7 fb__law_collision
theorem ok__law_collision {P : Program} {w : World} {K : PySem.W.Frag} {mg : Str → Option Value} {base : Heap} {f : Addr} {fd : FuncData} {x qual : Str} (T : Tx P w K mg base) (h__law_mark : FnK P w K mg base "_law_mark" ["key", "x", "y"] 1 fd__law_mark)   (F : Fun K x qual (top 47) f fd) : FnOk P w K mg base (L2N.CX P w) 2 f fd ["key"] (spD K mg fd__law_collision) :=
  fn_ok (N := nm__law_collision) (ps := ["key"]) (g := fb__law_collision) F sc__law_collision fun cdv A outer s H E hr => by
    have S := sc__law_collision
    exact (ds_cons (ds_newLc (own := [("k", 2)]) (tgs := [2]) rfl S.nd (i := 1) rfl rfl (sw_true rfl rfl rfl (by decide +kernel)) (di_rng1 rfl T.m_range (da_cons (de_ix (hu64 hr) (dv 0) de_int) da_nil)) (blkOk_by (own := [("k", 2)]) (N := nm__law_collision) (sc := defScope (top 47)) (by decide +kernel)) (by decide) (fun _ _ _ _ _ => by exact (dg_name (i := 2) S.nd rfl (by first | exact Or.inl rfl | exact Or.inr rfl))) (fun _ _ _ _ _ => by exact dts_nil) (fun _ _ _ _ _ => by exact (de_tup da_nil))) (ds_cons (ds_asg (i := 3) S.nd rfl (by first | exact Or.inl rfl | exact Or.inr rfl) (de_tup da_nil)) (ds_cons (ds_frz (is := [1]) (ds_for (passes_of rfl) rfl (di_rng1 rfl T.m_range (da_cons (de_ix (hu64 hr) (dv 0) de_int) da_nil)) (dg_name (i := 4) S.nd rfl (by first | exact Or.inl rfl | exact Or.inr rfl)) (ds_cons (ds_for (passes_of rfl) rfl (di_rng1 rfl T.m_range (da_cons (de_ix (hu64 hr) (dv 0) de_int) da_nil)) (dg_name (i := 5) S.nd rfl (by first | exact Or.inl rfl | exact Or.inr rfl)) (ds_cons (ds_asg (i := 6) S.nd rfl (by first | exact Or.inl rfl | exact Or.inr rfl) (de_c h__law_mark (L2N.takes_of rfl rfl rfl rfl) (hr.mono (by decide)) rfl (da_cons (dv 0) (da_cons (dv 4) (da_cons (dv 5) da_nil))))) (ds_one (ds_if (dt_cmp (op_eqP (hu64 hr)) sem_eq (de_ix (hu64 hr) (dv 1) (dv 6)) (de_tup da_nil) (nomark _)) (ds_one (ds_setI (pv 1) (dv 6) (de_tup (da_cons (dv 4) (da_cons (dv 5) da_nil))))) (ds_one (ds_if (dt_w (dw_or (dt_cmp (op_eqP (hu64 hr)) sem_eq (dv 3) (de_tup da_nil) (nomark _)) (dw_or1 (dt_cmp (op_ltA (hu64 hr)) sem_ltA (de_ix (hu64 hr) (dv 1) (dv 6)) (de_ix (hu64 hr) (dv 3) de_int) (nomark _))))) (ds_one (ds_asg (i := 3) S.nd rfl (by first | exact Or.inl rfl | exact Or.inr rfl) (de_tup (da_cons (de_ix (hu64 hr) (dv 1) (dv 6)) (da_cons (de_tup (da_cons (dv 4) (da_cons (dv 5) da_nil))) da_nil))))) ds_nil)))))) (ds_one (ds_if (dt_w (dw_and (dt_cmp (op_neP (hu64 hr)) sem_ne (dv 3) (de_tup da_nil) (nomark _)) (dw_and1 (dt_cmp (op_eqP (hu64 hr)) sem_eq (de_ix (hu64 hr) (dv 3) de_int) (de_tup (da_cons de_int (da_cons de_int da_nil))) (nomark _))))) (ds_one (ds_ret (dv 3))) ds_nil))))) (ds_one (ds_ret (dv 3))))))
/-! ### _law_number -/
abbrev nm__law_number : List Str := ["told", "due"]
theorem sc__law_number : FnScope nm__law_number ["told", "due"] (defScope (top 37)) := ⟨rfl, rfl, rfl, by decide +kernel, rfl, by decide +kernel, by decide +kernel⟩
noncomputable def fb__law_number : SS := sRet (eAnd (eCB gIsi (aCons (eVar 0) (aCons (eC (.ty "int")) (aNil)))) (eAnd (eNot (eCB gIsi (aCons (eVar 0) (aCons (eC (.ty "bool")) (aNil))))) (eBin gEq (eVar 0) (eVar 1))))
noncomputable def fd__law_number : FD := fD 2 2 fb__law_number
theorem ok__law_number {P : Program} {w : World} {K : PySem.W.Frag} {mg : Str → Option Value} {base : Heap} {f : Addr} {fd : FuncData} {x qual : Str} (T : Tx P w K mg base)    (F : Fun K x qual (top 37) f fd) : FnOk P w K mg base (L2N.CX P w) 1 f fd ["told", "due"] (spD K mg fd__law_number) :=
  fn_ok (N := nm__law_number) (ps := ["told", "due"]) (g := fb__law_number) F sc__law_number fun cdv A outer s H E hr => by
    have S := sc__law_number
    exact (ds_one (ds_ret (de_and (de_isi T.m_isinstance rfl (da_cons (dv 0) (da_cons (de_bint T.m_int rfl) da_nil))) (de_and (de_not (de_isi T.m_isinstance rfl (da_cons (dv 0) (da_cons (de_bbool T.m_bool rfl) da_nil)))) (de_one (de_cmp (op_eqP (hu64 hr)) sem_eq (dv 0) (dv 1) (nomark _)))))))
theorem okH__law_number {P : Program} {w : World} {K : PySem.W.Frag} {mg : Str → Option Value} {base : Heap} {f : Addr} {fd : FuncData} {x qual : Str} (T : Tx P w K mg base)  (F : Fun K x qual (top 37) f fd) : L2H.FnH P w K mg base (L2N.CX P w) 1 f fd ["told", "due"] (spD K mg fd__law_number) :=
  fn_okH (N := nm__law_number) (ps := ["told", "due"]) (g := fb__law_number) F sc__law_number fun cdv A outer s H E p hp hr => by
    have S := sc__law_number
    exact (ds_one (ds_ret (de_and (de_isi T.m_isinstance rfl (da_cons (dv 0) (da_cons (de_bint T.m_int rfl) da_nil))) (de_and (de_not (de_isi T.m_isinstance rfl (da_cons (dv 0) (da_cons (de_bbool T.m_bool rfl) da_nil)))) (de_one (de_cmp (op_eqP (hu64H hr)) sem_eq (dv 0) (dv 1) (nomark _)))))))
/-! ### _law_two -/
abbrev nm__law_two : List Str := ["told", "key", "pair", "one", "two"]
theorem sc__law_two : FnScope nm__law_two ["told", "key"] (defScope (top 48)) := ⟨rfl, rfl, rfl, by decide +kernel, rfl, by decide +kernel, by decide +kernel⟩
noncomputable def C__law_two_1 : SB := bOr (bNot (bV (eCB gIsi (aCons (eVar 3) (aCons (eC (.ty "int")) (aNil)))))) (bV (eCB gIsi (aCons (eVar 3) (aCons (eC (.ty "bool")) (aNil)))))
noncomputable def L__law_two_1 : SE := eVar 3
noncomputable def C__law_two_2 : SB := bOr (bV (eBin gLtA (eVar 3) (eC (.int 0)))) (bV (eBin gGe (eVar 3) (eBin gIx (eVar 1) (eC (.int 0)))))
noncomputable def L__law_two_2 : SE := eVar 3
noncomputable def B__law_two_1 : SS := sSeq (sIf (bOr (bNot (bV (eCB gIsi (aCons (eVar 2) (aCons (eC (.ty "tuple")) (aNil)))))) (bV (eBin gNe (eCB gLen1 (aCons (eVar 2) (aNil))) (eC (.int 2))))) (sRet (eC (.bl false))) (sNext)) (sSeq (sIf (bV (eBin gGt (eCB gLen1 (aCons (eN (nLc (iSeq (eVar 2)) [3] (tgN 3) (C__law_two_1) (L__law_two_1))) (aNil))) (eC (.int 0)))) (sRet (eC (.bl false))) (sNext)) (sIf (bV (eBin gGt (eCB gLen1 (aCons (eN (nLc (iSeq (eVar 2)) [3] (tgN 3) (C__law_two_2) (L__law_two_2))) (aNil))) (eC (.int 0)))) (sRet (eC (.bl false))) (sNext)))
noncomputable def fb__law_two : SS := sSeq (sIf (bOr (bNot (bV (eCB gIsi (aCons (eVar 0) (aCons (eC (.ty "tuple")) (aNil)))))) (bV (eBin gNe (eCB gLen1 (aCons (eVar 0) (aNil))) (eC (.int 2))))) (sRet (eC (.bl false))) (sNext)) (sSeq (sFor (iSeq (eVar 0)) (tgN 2) (B__law_two_1)) (sSeq (sTgt (tgTup 2 (tgCons (tgN 3) (tgCons (tgN 4) (tgNil)))) (eVar 0)) (sSeq (sIf (bAnd (bV (eBin gEq (eBin gIx (eVar 3) (eC (.int 0))) (eBin gIx (eVar 4) (eC (.int 0))))) (bV (eBin gEq (eBin gIx (eVar 3) (eC (.int 1))) (eBin gIx (eVar 4) (eC (.int 1)))))) (sRet (eC (.bl false))) (sNext)) (sRet (eBin gEq (eCall fd__law_mark (aCons (eVar 1) (aCons (eBin gIx (eVar 3) (eC (.int 0))) (aCons (eBin gIx (eVar 3) (eC (.int 1))) (aNil))))) (eCall fd__law_mark (aCons (eVar 1) (aCons (eBin gIx (eVar 4) (eC (.int 0))) (aCons (eBin gIx (eVar 4) (eC (.int 1))) (aNil))))))))))
noncomputable def fd__law_two : FD := fD 2 5 fb__law_two
theorem ok__law_two {P : Program} {w : World} {K : PySem.W.Frag} {mg : Str → Option Value} {base : Heap} {f : Addr} {fd : FuncData} {x qual : Str} (T : Tx P w K mg base) (h__law_mark : FnK P w K mg base "_law_mark" ["key", "x", "y"] 1 fd__law_mark)   (F : Fun K x qual (top 48) f fd) : FnOk P w K mg base (L2N.CX P w) 2 f fd ["told", "key"] (spD K mg fd__law_two) :=
  fn_ok (N := nm__law_two) (ps := ["told", "key"]) (g := fb__law_two) F sc__law_two fun cdv A outer s H E hr => by
    have S := sc__law_two
    exact (ds_cons (ds_if (dt_w (dw_or (dt_not (dt_val (de_isi T.m_isinstance rfl (da_cons (dv 0) (da_cons (de_btuple T.m_tuple rfl) da_nil))))) (dw_or1 (dt_cmp (op_neP (hu64 hr)) sem_ne (de_len T.m_len rfl (da_cons (dv 0) da_nil)) de_int (nomark _))))) (ds_one (ds_ret de_bl)) ds_nil) (ds_cons (ds_for (passes_of rfl) rfl (di_seq (dv 0)) (dg_name (i := 2) S.nd rfl (by first | exact Or.inl rfl | exact Or.inr rfl)) (ds_cons (ds_if (dt_w (dw_or (dt_not (dt_val (de_isi T.m_isinstance rfl (da_cons (dv 2) (da_cons (de_btuple T.m_tuple rfl) da_nil))))) (dw_or1 (dt_cmp (op_neP (hu64 hr)) sem_ne (de_len T.m_len rfl (da_cons (dv 2) da_nil)) de_int (nomark _))))) (ds_one (ds_ret de_bl)) ds_nil) (ds_cons (ds_if (dt_cmp op_gt sem_gt (de_len T.m_len rfl (da_cons (de_n (dn_lc (own := [("one", 3)]) (tgs := [3]) rfl S.nd (di_seq (dv 2)) (blkOk_by (own := [("one", 3)]) (N := nm__law_two) (sc := defScope (top 48)) (by decide +kernel)) (by decide) (fun _ _ _ _ _ => by exact (dg_name (i := 3) S.nd rfl (by first | exact Or.inl rfl | exact Or.inr rfl))) (fun _ _ _ _ _ => by exact (dts_one (dt_w (dw_or (dt_not (dt_val (de_isi T.m_isinstance rfl (da_cons (dv 3) (da_cons (de_bint T.m_int rfl) da_nil))))) (dw_or1 (dt_val (de_isi T.m_isinstance rfl (da_cons (dv 3) (da_cons (de_bbool T.m_bool rfl) da_nil))))))))) (fun _ _ _ _ _ => by exact (dv 3)))) da_nil)) de_int (nomark _)) (ds_one (ds_ret de_bl)) ds_nil) (ds_one (ds_if (dt_cmp op_gt sem_gt (de_len T.m_len rfl (da_cons (de_n (dn_lc (own := [("one", 3)]) (tgs := [3]) rfl S.nd (di_seq (dv 2)) (blkOk_by (own := [("one", 3)]) (N := nm__law_two) (sc := defScope (top 48)) (by decide +kernel)) (by decide) (fun _ _ _ _ _ => by exact (dg_name (i := 3) S.nd rfl (by first | exact Or.inl rfl | exact Or.inr rfl))) (fun _ _ _ _ _ => by exact (dts_one (dt_w (dw_or (dt_cmp (op_ltA (hu64 hr)) sem_ltA (dv 3) de_int (nomark _)) (dw_or1 (dt_cmp op_ge sem_ge (dv 3) (de_ix (hu64 hr) (dv 1) de_int) (nomark _))))))) (fun _ _ _ _ _ => by exact (dv 3)))) da_nil)) de_int (nomark _)) (ds_one (ds_ret de_bl)) ds_nil))))) (ds_cons (ds_tgt (dv 0) (dg_tup rfl (dgs_cons (dg_name (i := 3) S.nd rfl (by first | exact Or.inl rfl | exact Or.inr rfl)) (dgs_cons (dg_name (i := 4) S.nd rfl (by first | exact Or.inl rfl | exact Or.inr rfl)) dgs_nil)))) (ds_cons (ds_if (dt_w (dw_and (dt_cmp (op_eqP (hu64 hr)) sem_eq (de_ix (hu64 hr) (dv 3) de_int) (de_ix (hu64 hr) (dv 4) de_int) (nomark _)) (dw_and1 (dt_cmp (op_eqP (hu64 hr)) sem_eq (de_ix (hu64 hr) (dv 3) de_int) (de_ix (hu64 hr) (dv 4) de_int) (nomark _))))) (ds_one (ds_ret de_bl)) ds_nil) (ds_one (ds_ret (de_cmp (op_eqP (hu64 hr)) sem_eq (de_c h__law_mark (L2N.takes_of rfl rfl rfl rfl) (hr.mono (by decide)) rfl (da_cons (dv 1) (da_cons (de_ix (hu64 hr) (dv 3) de_int) (da_cons (de_ix (hu64 hr) (dv 3) de_int) da_nil)))) (de_c h__law_mark (L2N.takes_of rfl rfl rfl rfl) (hr.mono (by decide)) rfl (da_cons (dv 1) (da_cons (de_ix (hu64 hr) (dv 4) de_int) (da_cons (de_ix (hu64 hr) (dv 4) de_int) da_nil)))) (nomark _))))))))
/-! ### _law_view -/
abbrev nm__law_view : List Str := ["told", "due", "k"]
theorem sc__law_view : FnScope nm__law_view ["told", "due"] (defScope (top 39)) := ⟨rfl, rfl, rfl, by decide +kernel, rfl, by decide +kernel, by decide +kernel⟩
noncomputable def C__law_view_1 : SB := bNot (bV (eCall fd__law_number (aCons (eBin gIx (eVar 0) (eVar 2)) (aCons (eBin gIx (eVar 1) (eVar 2)) (aNil)))))
noncomputable def L__law_view_1 : SE := eVar 2
noncomputable def fb__law_view : SS := sSeq (sIf (bOr (bNot (bV (eCB gIsi (aCons (eVar 0) (aCons (eC (.ty "tuple")) (aNil)))))) (bV (eBin gNe (eCB gLen1 (aCons (eVar 0) (aNil))) (eCB gLen1 (aCons (eVar 1) (aNil)))))) (sRet (eC (.bl false))) (sNext)) (sRet (eBin gEq (eCB gLen1 (aCons (eN (nLc (iRng1 (aCons (eCB gLen1 (aCons (eVar 1) (aNil))) (aNil))) [2] (tgN 2) (C__law_view_1) (L__law_view_1))) (aNil))) (eC (.int 0))))
noncomputable def fd__law_view : FD := fD 2 3 fb__law_view
theorem ok__law_view {P : Program} {w : World} {K : PySem.W.Frag} {mg : Str → Option Value} {base : Heap} {f : Addr} {fd : FuncData} {x qual : Str} (T : Tx P w K mg base) (h__law_number : FnK P w K mg base "_law_number" ["told", "due"] 1 fd__law_number)   (F : Fun K x qual (top 39) f fd) : FnOk P w K mg base (L2N.CX P w) 2 f fd ["told", "due"] (spD K mg fd__law_view) :=
  fn_ok (N := nm__law_view) (ps := ["told", "due"]) (g := fb__law_view) F sc__law_view fun cdv A outer s H E hr => by
    have S := sc__law_view
    exact (ds_cons (ds_if (dt_w (dw_or (dt_not (dt_val (de_isi T.m_isinstance rfl (da_cons (dv 0) (da_cons (de_btuple T.m_tuple rfl) da_nil))))) (dw_or1 (dt_cmp (op_neP (hu64 hr)) sem_ne (de_len T.m_len rfl (da_cons (dv 0) da_nil)) (de_len T.m_len rfl (da_cons (dv 1) da_nil)) (nomark _))))) (ds_one (ds_ret de_bl)) ds_nil) (ds_one (ds_ret (de_cmp (op_eqP (hu64 hr)) sem_eq (de_len T.m_len rfl (da_cons (de_n (dn_lc (own := [("k", 2)]) (tgs := [2]) rfl S.nd (di_rng1 rfl T.m_range (da_cons (de_len T.m_len rfl (da_cons (dv 1) da_nil)) da_nil)) (blkOk_by (own := [("k", 2)]) (N := nm__law_view) (sc := defScope (top 39)) (by decide +kernel)) (by decide) (fun _ _ _ _ _ => by exact (dg_name (i := 2) S.nd rfl (by first | exact Or.inl rfl | exact Or.inr rfl))) (fun _ _ _ _ _ => by exact (dts_one (dt_not (dt_val (de_c h__law_number DL.takes0 (hr.mono (by decide)) rfl (da_cons (de_ix (hu64 hr) (dv 0) (dv 2)) (da_cons (de_ix (hu64 hr) (dv 1) (dv 2)) da_nil))))))) (fun _ _ _ _ _ => by exact (dv 2)))) da_nil)) de_int (nomark _)))))
/-! ### is_below -/
abbrev nm_is_below : List Str := ["value", "bound"]
theorem sc_is_below : FnScope nm_is_below ["value", "bound"] (defScope (top 8)) := ⟨rfl, rfl, rfl, by decide +kernel, rfl, by decide +kernel, by decide +kernel⟩
noncomputable def fb_is_below : SS := sRet (eAnd (eCB gIsi (aCons (eVar 0) (aCons (eC (.ty "int")) (aNil)))) (eAnd (eNot (eCB gIsi (aCons (eVar 0) (aCons (eC (.ty "bool")) (aNil))))) (eChain gLe gLtA (eC (.int 0)) (eVar 0) (eVar 1))))
noncomputable def fd_is_below : FD := fD 2 2 fb_is_below
theorem ok_is_below {P : Program} {w : World} {K : PySem.W.Frag} {mg : Str → Option Value} {base : Heap} {f : Addr} {fd : FuncData} {x qual : Str} (T : Tx P w K mg base)    (F : Fun K x qual (top 8) f fd) : FnOk P w K mg base (L2N.CX P w) 1 f fd ["value", "bound"] (spD K mg fd_is_below) :=
  fn_ok (N := nm_is_below) (ps := ["value", "bound"]) (g := fb_is_below) F sc_is_below fun cdv A outer s H E hr => by
    have S := sc_is_below
    exact (ds_one (ds_ret (de_and (de_isi T.m_isinstance rfl (da_cons (dv 0) (da_cons (de_bint T.m_int rfl) da_nil))) (de_and (de_not (de_isi T.m_isinstance rfl (da_cons (dv 0) (da_cons (de_bbool T.m_bool rfl) da_nil)))) (de_one (de_chain op_le sem_le (op_ltA (hu64 hr)) sem_ltA de_int (dv 0) (dv 1)  ))))))
/-! ### is_integer -/
abbrev nm_is_integer : List Str := ["value"]
theorem sc_is_integer : FnScope nm_is_integer ["value"] (defScope (top 10)) := ⟨rfl, rfl, rfl, by decide +kernel, rfl, by decide +kernel, by decide +kernel⟩
noncomputable def fb_is_integer : SS := sRet (eAnd (eCB gIsi (aCons (eVar 0) (aCons (eC (.ty "int")) (aNil)))) (eNot (eCB gIsi (aCons (eVar 0) (aCons (eC (.ty "bool")) (aNil))))))
noncomputable def fd_is_integer : FD := fD 1 1 fb_is_integer
theorem ok_is_integer {P : Program} {w : World} {K : PySem.W.Frag} {mg : Str → Option Value} {base : Heap} {f : Addr} {fd : FuncData} {x qual : Str} (T : Tx P w K mg base)    (F : Fun K x qual (top 10) f fd) : FnOk P w K mg base (L2N.CX P w) 1 f fd ["value"] (spD K mg fd_is_integer) :=
  fn_ok (N := nm_is_integer) (ps := ["value"]) (g := fb_is_integer) F sc_is_integer fun cdv A outer s H E hr => by
    have S := sc_is_integer
    exact (ds_one (ds_ret (de_and (de_isi T.m_isinstance rfl (da_cons (dv 0) (da_cons (de_bint T.m_int rfl) da_nil))) (de_one (de_not (de_isi T.m_isinstance rfl (da_cons (dv 0) (da_cons (de_bbool T.m_bool rfl) da_nil))))))))
/-! ### is_between -/
abbrev nm_is_between : List Str := ["value", "low", "high"]
theorem sc_is_between : FnScope nm_is_between ["value", "low", "high"] (defScope (top 11)) := ⟨rfl, rfl, rfl, by decide +kernel, rfl, by decide +kernel, by decide +kernel⟩
noncomputable def fb_is_between : SS := sRet (eAnd (eCall fd_is_integer (aCons (eVar 0) (aNil))) (eChain gLe gLe (eVar 1) (eVar 0) (eVar 2)))
noncomputable def fd_is_between : FD := fD 3 3 fb_is_between
theorem ok_is_between {P : Program} {w : World} {K : PySem.W.Frag} {mg : Str → Option Value} {base : Heap} {f : Addr} {fd : FuncData} {x qual : Str} (T : Tx P w K mg base) (h_is_integer : FnK P w K mg base "is_integer" ["value"] 1 fd_is_integer)   (F : Fun K x qual (top 11) f fd) : FnOk P w K mg base (L2N.CX P w) 2 f fd ["value", "low", "high"] (spD K mg fd_is_between) :=
  fn_ok (N := nm_is_between) (ps := ["value", "low", "high"]) (g := fb_is_between) F sc_is_between fun cdv A outer s H E hr => by
    have S := sc_is_between
    exact (ds_one (ds_ret (de_and (de_c h_is_integer (L2N.takes_of rfl rfl rfl rfl) (hr.mono (by decide)) rfl (da_cons (dv 0) da_nil)) (de_one (de_chain op_le sem_le op_le sem_le (dv 1) (dv 0) (dv 2)  )))))
/-! ### is_key -/
abbrev nm_is_key : List Str := ["value", "number"]
theorem sc_is_key : FnScope nm_is_key ["value"] (defScope (top 15)) := ⟨rfl, rfl, rfl, by decide +kernel, rfl, by decide +kernel, by decide +kernel⟩
noncomputable def L_is_key_1 : SE := eCall fd_is_below (aCons (eVar 1) (aCons (eBin gIx (eVar 0) (eC (.int 0))) (aNil)))
noncomputable def fb_is_key : SS := sSeq (sIf (bOr (bNot (bV (eCB gIsi (aCons (eVar 0) (aCons (eC (.ty "tuple")) (aNil)))))) (bOr (bV (eBin gNe (eCB gLen1 (aCons (eVar 0) (aNil))) (eC (.int 4)))) (bNot (bV (eCall fd_is_between (aCons (eBin gIx (eVar 0) (eC (.int 0))) (aCons (eC (.int 2)) (aCons (eC K_GREATEST_MODULUS) (aNil))))))))) (sRet (eC (.bl false))) (sNext)) (sRet (eCB gAll (aCons (eN (nLc (iSeq (eSl (eVar 0) (oSome (eC (.int 1))) (oNone))) [1] (tgN 1) (bTrue) (L_is_key_1))) (aNil))))
noncomputable def fd_is_key : FD := fD 1 2 fb_is_key
theorem ok_is_key {P : Program} {w : World} {K : PySem.W.Frag} {mg : Str → Option Value} {base : Heap} {f : Addr} {fd : FuncData} {x qual : Str} (T : Tx P w K mg base) (h_is_below : FnK P w K mg base "is_below" ["value", "bound"] 1 fd_is_below) (h_is_between : FnK P w K mg base "is_between" ["value", "low", "high"] 2 fd_is_between)   (F : Fun K x qual (top 15) f fd) : FnOk P w K mg base (L2N.CX P w) 3 f fd ["value"] (spD K mg fd_is_key) :=
  fn_ok (N := nm_is_key) (ps := ["value"]) (g := fb_is_key) F sc_is_key fun cdv A outer s H E hr => by
    have S := sc_is_key
    exact (ds_cons (ds_if (dt_w (dw_or (dt_not (dt_val (de_isi T.m_isinstance rfl (da_cons (dv 0) (da_cons (de_btuple T.m_tuple rfl) da_nil))))) (dw_or (dt_cmp (op_neP (hu64 hr)) sem_ne (de_len T.m_len rfl (da_cons (dv 0) da_nil)) de_int (nomark _)) (dw_or1 (dt_not (dt_val (de_c h_is_between (L2N.takes_of rfl rfl rfl rfl) (hr.mono (by decide)) rfl (da_cons (de_ix (hu64 hr) (dv 0) de_int) (da_cons de_int (da_cons (de_const T.c_GREATEST_MODULUS rfl) da_nil)))))))))) (ds_one (ds_ret de_bl)) ds_nil) (ds_one (ds_ret (de_all T.m_all rfl rfl (da_cons (de_n (dn_lc (own := [("number", 1)]) (tgs := [1]) rfl S.nd (di_seq (de_sl (dv 0) (do_some de_int) do_none)) (blkOk_by (own := [("number", 1)]) (N := nm_is_key) (sc := defScope (top 15)) (by decide +kernel)) (by decide) (fun _ _ _ _ _ => by exact (dg_name (i := 1) S.nd rfl (by first | exact Or.inl rfl | exact Or.inr rfl))) (fun _ _ _ _ _ => by exact dts_nil) (fun _ _ _ _ _ => by exact (de_c h_is_below DL.takes0 (hr.mono (by decide)) rfl (da_cons (dv 1) (da_cons (de_ix (hu64 hr) (dv 0) de_int) da_nil)))))) da_nil)))))
/-! ### check_numbers -/
abbrev nm_check_numbers : List Str := ["key", "numbers", "number"]
theorem sc_check_numbers : FnScope nm_check_numbers ["key", "numbers"] (defScope (top 16)) := ⟨rfl, rfl, rfl, by decide +kernel, rfl, by decide +kernel, by decide +kernel⟩
noncomputable def B_check_numbers_1 : SS := sIf (bNot (bV (eCall fd_is_below (aCons (eVar 2) (aCons (eBin gIx (eVar 0) (eC (.int 0))) (aNil)))))) (sRaise "InvalidNumber" ["value"] (aCons (eVar 2) (aNil))) (sNext)
noncomputable def fb_check_numbers : SS := sSeq (sIf (bNot (bV (eCall fd_is_key (aCons (eVar 0) (aNil))))) (sRaise "InvalidKey" ["value"] (aCons (eVar 0) (aNil))) (sNext)) (sFor (iSeq (eVar 1)) (tgN 2) (B_check_numbers_1))
noncomputable def fd_check_numbers : FD := fD 2 3 fb_check_numbers
theorem ok_check_numbers {P : Program} {w : World} {K : PySem.W.Frag} {mg : Str → Option Value} {base : Heap} {f : Addr} {fd : FuncData} {x qual : Str} (T : Tx P w K mg base) (h_is_below : FnK P w K mg base "is_below" ["value", "bound"] 1 fd_is_below) (h_is_key : FnK P w K mg base "is_key" ["value"] 3 fd_is_key)   (F : Fun K x qual (top 16) f fd) : FnOk P w K mg base (L2N.CX P w) 4 f fd ["key", "numbers"] (spD K mg fd_check_numbers) :=
  fn_ok (N := nm_check_numbers) (ps := ["key", "numbers"]) (g := fb_check_numbers) F sc_check_numbers fun cdv A outer s H E hr => by
    have S := sc_check_numbers
    exact (ds_cons (ds_if (dt_not (dt_val (de_c h_is_key (L2N.takes_of rfl rfl rfl rfl) (hr.mono (by decide)) rfl (da_cons (dv 0) da_nil)))) (ds_one (ds_r1 T.x_InvalidKey rfl (L2N.takes_of rfl rfl rfl rfl) (hr.mono (by decide)) rfl (da_cons (dv 0) da_nil))) ds_nil) (ds_one (ds_for (passes_of rfl) rfl (di_seq (dv 1)) (dg_name (i := 2) S.nd rfl (by first | exact Or.inl rfl | exact Or.inr rfl)) (ds_one (ds_if (dt_not (dt_val (de_c h_is_below (L2N.takes_of rfl rfl rfl rfl) (hr.mono (by decide)) rfl (da_cons (dv 2) (da_cons (de_ix (hu64 hr) (dv 0) de_int) da_nil))))) (ds_one (ds_r1 T.x_InvalidNumber rfl (L2N.takes_of rfl rfl rfl rfl) (hr.mono (by decide)) rfl (da_cons (dv 2) da_nil))) ds_nil)))))
/-! ### made_mark -/
abbrev nm_made_mark : List Str := ["key", "x", "y", "m", "a", "b", "c"]
theorem sc_made_mark : FnScope nm_made_mark ["key", "x", "y"] (defScope (top 19)) := ⟨rfl, rfl, rfl, by decide +kernel, rfl, by decide +kernel, by decide +kernel⟩
noncomputable def fb_made_mark : SS := sSeq (sTgt (tgTup 4 (tgCons (tgN 3) (tgCons (tgN 4) (tgCons (tgN 5) (tgCons (tgN 6) (tgNil)))))) (eVar 0)) (sRet (eBin gMod (eBin gAdd (eBin gAdd (eBin gAdd (eBin gMul1 (eVar 4) (eVar 1)) (eBin gMul1 (eVar 5) (eVar 2))) (eBin gMul1 (eBin gMul1 (eVar 6) (eVar 1)) (eVar 2))) (eC (.int 1))) (eVar 3)))
noncomputable def fd_made_mark : FD := fD 3 7 fb_made_mark
theorem ok_made_mark {P : Program} {w : World} {K : PySem.W.Frag} {mg : Str → Option Value} {base : Heap} {f : Addr} {fd : FuncData} {x qual : Str} (T : Tx P w K mg base)    (F : Fun K x qual (top 19) f fd) : FnOk P w K mg base (L2N.CX P w) 1 f fd ["key", "x", "y"] (spD K mg fd_made_mark) :=
  fn_ok (N := nm_made_mark) (ps := ["key", "x", "y"]) (g := fb_made_mark) F sc_made_mark fun cdv A outer s H E hr => by
    have S := sc_made_mark
    exact (ds_cons (ds_tgt (dv 0) (dg_tup rfl (dgs_cons (dg_name (i := 3) S.nd rfl (by first | exact Or.inl rfl | exact Or.inr rfl)) (dgs_cons (dg_name (i := 4) S.nd rfl (by first | exact Or.inl rfl | exact Or.inr rfl)) (dgs_cons (dg_name (i := 5) S.nd rfl (by first | exact Or.inl rfl | exact Or.inr rfl)) (dgs_cons (dg_name (i := 6) S.nd rfl (by first | exact Or.inl rfl | exact Or.inr rfl)) dgs_nil)))))) (ds_one (ds_ret (de_op op_modN sem_mod (de_op op_addA sem_add (de_op op_addA sem_add (de_op op_addA sem_add (de_op op_mulA sem_mul (dv 4) (dv 1)) (de_op op_mulA sem_mul (dv 5) (dv 2))) (de_op op_mulA sem_mul (de_op op_mulA sem_mul (dv 6) (dv 1)) (dv 2))) de_int) (dv 3)))))
/-! ### collision -/
abbrev nm_collision : List Str := ["key", "found", "later", "x", "y", "mark"]
theorem sc_collision : FnScope nm_collision ["key"] (defScope (top 30)) := ⟨rfl, rfl, rfl, by decide +kernel, rfl, by decide +kernel, by decide +kernel⟩
noncomputable def B_collision_1 : SS := sSeq (sAsg 5 (eCall fd_made_mark (aCons (eVar 0) (aCons (eVar 3) (aCons (eVar 4) (aNil)))))) (sSeq (sIf (bV (eBin gIn (eVar 5) (eVar 2))) (sAsg 1 (eTup (aCons (eTup (aCons (eVar 3) (aCons (eVar 4) (aNil)))) (aCons (eBin gIx (eVar 2) (eVar 5)) (aNil))))) (sNext)) (sPut 2 (eVar 5) (eTup (aCons (eVar 3) (aCons (eVar 4) (aNil))))))
noncomputable def B_collision_2 : SS := sFor (iRevR1 (eBin gIx (eVar 0) (eC (.int 0)))) (tgN 4) (B_collision_1)
noncomputable def fb_collision : SS := sSeq (sDrop (eCall fd_check_numbers (aCons (eVar 0) (aCons (eTup (aNil)) (aNil))))) (sSeq (sAsg 1 (eC .non)) (sSeq (sNew 2 (nDict)) (sSeq (sFrz [2] (sFor (iRevR1 (eBin gIx (eVar 0) (eC (.int 0)))) (tgN 3) (B_collision_2))) (sRet (eVar 1)))))
noncomputable def fd_collision : FD := fD 1 6 fb_collision
theorem ok_collision {P : Program} {w : World} {K : PySem.W.Frag} {mg : Str → Option Value} {base : Heap} {f : Addr} {fd : FuncData} {x qual : Str} (T : Tx P w K mg base) (h_check_numbers : FnK P w K mg base "check_numbers" ["key", "numbers"] 4 fd_check_numbers) (h_made_mark : FnK P w K mg base "made_mark" ["key", "x", "y"] 1 fd_made_mark)   (F : Fun K x qual (top 30) f fd) : FnOk P w K mg base (L2N.CX P w) 5 f fd ["key"] (spD K mg fd_collision) :=
  fn_ok (N := nm_collision) (ps := ["key"]) (g := fb_collision) F sc_collision fun cdv A outer s H E hr => by
    have S := sc_collision
    exact (ds_cons (ds_expr (de_c h_check_numbers (L2N.takes_of rfl rfl rfl rfl) (hr.mono (by decide)) rfl (da_cons (dv 0) (da_cons (de_tup da_nil) da_nil)))) (ds_cons (ds_asg (i := 1) S.nd rfl (by first | exact Or.inl rfl | exact Or.inr rfl) de_non) (ds_cons (ds_new (i := 2) S.nd rfl (by first | exact Or.inl rfl | exact Or.inr rfl) dn_dict) (ds_cons (ds_frz (is := [2]) (ds_for (passes_of rfl) rfl (di_revR1 rfl T.m_reversed rfl T.m_range (de_ix (hu64 hr) (dv 0) de_int)) (dg_name (i := 3) S.nd rfl (by first | exact Or.inl rfl | exact Or.inr rfl)) (ds_one (ds_for (passes_of rfl) rfl (di_revR1 rfl T.m_reversed rfl T.m_range (de_ix (hu64 hr) (dv 0) de_int)) (dg_name (i := 4) S.nd rfl (by first | exact Or.inl rfl | exact Or.inr rfl)) (ds_cons (ds_asg (i := 5) S.nd rfl (by first | exact Or.inl rfl | exact Or.inr rfl) (de_c h_made_mark (L2N.takes_of rfl rfl rfl rfl) (hr.mono (by decide)) rfl (da_cons (dv 0) (da_cons (dv 3) (da_cons (dv 4) da_nil))))) (ds_cons (ds_if (dt_cmp (op_inP (hu64 hr)) sem_in (dv 5) (dv 2) rfl) (ds_one (ds_asg (i := 1) S.nd rfl (by first | exact Or.inl rfl | exact Or.inr rfl) (de_tup (da_cons (de_tup (da_cons (dv 3) (da_cons (dv 4) da_nil))) (da_cons (de_ix (hu64 hr) (dv 2) (dv 5)) da_nil))))) ds_nil) (ds_one (ds_put (hu1 hr) (pv 2) (dv 5) (de_tup (da_cons (dv 3) (da_cons (dv 4) da_nil))))))))))) (ds_one (ds_ret (dv 1)))))))
/-! ### mark_of -/
abbrev nm_mark_of : List Str := ["key", "x", "y"]
theorem sc_mark_of : FnScope nm_mark_of ["key", "x", "y"] (defScope (top 20)) := ⟨rfl, rfl, rfl, by decide +kernel, rfl, by decide +kernel, by decide +kernel⟩
noncomputable def fb_mark_of : SS := sSeq (sDrop (eCall fd_check_numbers (aCons (eVar 0) (aCons (eTup (aCons (eVar 1) (aCons (eVar 2) (aNil)))) (aNil))))) (sRet (eCall fd_made_mark (aCons (eVar 0) (aCons (eVar 1) (aCons (eVar 2) (aNil))))))
noncomputable def fd_mark_of : FD := fD 3 3 fb_mark_of
theorem ok_mark_of {P : Program} {w : World} {K : PySem.W.Frag} {mg : Str → Option Value} {base : Heap} {f : Addr} {fd : FuncData} {x qual : Str} (T : Tx P w K mg base) (h_check_numbers : FnK P w K mg base "check_numbers" ["key", "numbers"] 4 fd_check_numbers) (h_made_mark : FnK P w K mg base "made_mark" ["key", "x", "y"] 1 fd_made_mark)   (F : Fun K x qual (top 20) f fd) : FnOk P w K mg base (L2N.CX P w) 5 f fd ["key", "x", "y"] (spD K mg fd_mark_of) :=
  fn_ok (N := nm_mark_of) (ps := ["key", "x", "y"]) (g := fb_mark_of) F sc_mark_of fun cdv A outer s H E hr => by
    have S := sc_mark_of
    exact (ds_cons (ds_expr (de_c h_check_numbers (L2N.takes_of rfl rfl rfl rfl) (hr.mono (by decide)) rfl (da_cons (dv 0) (da_cons (de_tup (da_cons (dv 1) (da_cons (dv 2) da_nil))) da_nil)))) (ds_one (ds_ret (de_c h_made_mark (L2N.takes_of rfl rfl rfl rfl) (hr.mono (by decide)) rfl (da_cons (dv 0) (da_cons (dv 1) (da_cons (dv 2) da_nil)))))))
/-! ### _law_collided -/
abbrev nm__law_collided : List Str := ["key", "due", "told", "x", "y", "z", "w", "mark"]
theorem sc__law_collided : FnScope nm__law_collided ["key"] (defScope (top 49)) := ⟨rfl, rfl, rfl, by decide +kernel, rfl, by decide +kernel, by decide +kernel⟩
noncomputable def fb__law_collided : SS := sSeq (sAsg 1 (eCall fd__law_collision (aCons (eVar 0) (aNil)))) (sSeq (sAsg 2 (eCall fd_collision (aCons (eVar 0) (aNil)))) (sSeq (sIf (bNot (bV (eCall fd__law_two (aCons (eVar 2) (aCons (eVar 0) (aNil)))))) (sRet (eC (.bl false))) (sNext)) (sSeq (sTgt (tgTup 2 (tgCons (tgN 3) (tgCons (tgN 4) (tgNil)))) (eBin gIx (eVar 1) (eC (.int 0)))) (sSeq (sTgt (tgTup 2 (tgCons (tgN 5) (tgCons (tgN 6) (tgNil)))) (eBin gIx (eVar 1) (eC (.int 1)))) (sSeq (sIf (bOr (bNot (bV (eCall fd__law_view (aCons (eBin gIx (eVar 2) (eC (.int 0))) (aCons (eBin gIx (eVar 1) (eC (.int 0))) (aNil)))))) (bNot (bV (eCall fd__law_view (aCons (eBin gIx (eVar 2) (eC (.int 1))) (aCons (eBin gIx (eVar 1) (eC (.int 1))) (aNil))))))) (sRet (eC (.bl false))) (sNext)) (sSeq (sAsg 7 (eCall fd__law_mark (aCons (eVar 0) (aCons (eVar 3) (aCons (eVar 4) (aNil)))))) (sRet (eAnd (eCall fd__law_number (aCons (eCall fd_mark_of (aCons (eVar 0) (aCons (eVar 3) (aCons (eVar 4) (aNil))))) (aCons (eVar 7) (aNil)))) (eCall fd__law_number (aCons (eCall fd_mark_of (aCons (eVar 0) (aCons (eVar 5) (aCons (eVar 6) (aNil))))) (aCons (eVar 7) (aNil))))))))))))
noncomputable def fd__law_collided : FD := fD 1 8 fb__law_collided
theorem ok__law_collided {P : Program} {w : World} {K : PySem.W.Frag} {mg : Str → Option Value} {base : Heap} {f : Addr} {fd : FuncData} {x qual : Str} (T : Tx P w K mg base) (h__law_collision : FnK P w K mg base "_law_collision" ["key"] 2 fd__law_collision) (h__law_mark : FnK P w K mg base "_law_mark" ["key", "x", "y"] 1 fd__law_mark) (h__law_number : FnK P w K mg base "_law_number" ["told", "due"] 1 fd__law_number) (h__law_two : FnK P w K mg base "_law_two" ["told", "key"] 2 fd__law_two) (h__law_view : FnK P w K mg base "_law_view" ["told", "due"] 2 fd__law_view) (h_mark_of : FnK P w K mg base "mark_of" ["key", "x", "y"] 5 fd_mark_of) (hk_collision : FnKw P w K mg base "collision" ["key"] 5 fd_collision) (hk_mark_of : FnKw P w K mg base "mark_of" ["key", "x", "y"] 5 fd_mark_of)  (F : Fun K x qual (top 49) f fd) : FnOk P w K mg base (L2N.CX P w) 6 f fd ["key"] (spD K mg fd__law_collided) :=
  fn_ok (N := nm__law_collided) (ps := ["key"]) (g := fb__law_collided) F sc__law_collided fun cdv A outer s H E hr => by
    have S := sc__law_collided
    exact (ds_cons (ds_asg (i := 1) S.nd rfl (by first | exact Or.inl rfl | exact Or.inr rfl) (de_c h__law_collision (L2N.takes_of rfl rfl rfl rfl) (hr.mono (by decide)) rfl (da_cons (dv 0) da_nil))) (ds_cons (ds_asg (i := 2) S.nd rfl (by first | exact Or.inl rfl | exact Or.inr rfl) (de_ck hk_collision (L2N.takes_of rfl rfl rfl rfl) (hr.mono (by decide)) rfl (dk_cons (dv 0) dk_nil))) (ds_cons (ds_if (dt_not (dt_val (de_c h__law_two (L2N.takes_of rfl rfl rfl rfl) (hr.mono (by decide)) rfl (da_cons (dv 2) (da_cons (dv 0) da_nil))))) (ds_one (ds_ret de_bl)) ds_nil) (ds_cons (ds_tgt (de_ix (hu64 hr) (dv 1) de_int) (dg_tup rfl (dgs_cons (dg_name (i := 3) S.nd rfl (by first | exact Or.inl rfl | exact Or.inr rfl)) (dgs_cons (dg_name (i := 4) S.nd rfl (by first | exact Or.inl rfl | exact Or.inr rfl)) dgs_nil)))) (ds_cons (ds_tgt (de_ix (hu64 hr) (dv 1) de_int) (dg_tup rfl (dgs_cons (dg_name (i := 5) S.nd rfl (by first | exact Or.inl rfl | exact Or.inr rfl)) (dgs_cons (dg_name (i := 6) S.nd rfl (by first | exact Or.inl rfl | exact Or.inr rfl)) dgs_nil)))) (ds_cons (ds_if (dt_w (dw_or (dt_not (dt_val (de_c h__law_view (L2N.takes_of rfl rfl rfl rfl) (hr.mono (by decide)) rfl (da_cons (de_ix (hu64 hr) (dv 2) de_int) (da_cons (de_ix (hu64 hr) (dv 1) de_int) da_nil))))) (dw_or1 (dt_not (dt_val (de_c h__law_view (L2N.takes_of rfl rfl rfl rfl) (hr.mono (by decide)) rfl (da_cons (de_ix (hu64 hr) (dv 2) de_int) (da_cons (de_ix (hu64 hr) (dv 1) de_int) da_nil)))))))) (ds_one (ds_ret de_bl)) ds_nil) (ds_cons (ds_asg (i := 7) S.nd rfl (by first | exact Or.inl rfl | exact Or.inr rfl) (de_c h__law_mark (L2N.takes_of rfl rfl rfl rfl) (hr.mono (by decide)) rfl (da_cons (dv 0) (da_cons (dv 3) (da_cons (dv 4) da_nil))))) (ds_one (ds_ret (de_and (de_c h__law_number (L2N.takes_of rfl rfl rfl rfl) (hr.mono (by decide)) rfl (da_cons (de_c h_mark_of (L2N.takes_of rfl rfl rfl rfl) (hr.mono (by decide)) rfl (da_cons (dv 0) (da_cons (dv 3) (da_cons (dv 4) da_nil)))) (da_cons (dv 7) da_nil))) (de_one (de_c h__law_number (L2N.takes_of rfl rfl rfl rfl) (hr.mono (by decide)) rfl (da_cons (de_ck hk_mark_of (L2N.takes_of rfl rfl rfl rfl) (hr.mono (by decide)) rfl (dk_cons (dv 0) (dk_cons (dv 5) (dk_cons (dv 6) dk_nil)))) (da_cons (dv 7) da_nil))))))))))))))
/-! ### _law_draw -/
abbrev nm__law_draw : List Str := ["state", "limit", "cell", "got", "mixed"]
theorem sc__law_draw : FnScope nm__law_draw ["state", "limit"] (defScope (top 35)) := ⟨rfl, rfl, rfl, by decide +kernel, rfl, by decide +kernel, by decide +kernel⟩
noncomputable def fb__law_draw : SS := sSeq (sIf (bAnd (bV (eBin gEq (eBin gIx (eVar 0) (eC (.int 3))) (eC (.int 0)))) (bV (eBin gLtA (eBin gIx (eVar 0) (eC (.int 1))) (eCB gLen1 (aCons (eBin gIx (eVar 0) (eC (.int 0))) (aNil)))))) (sSeq (sAsg 2 (eCB gAbs (aCons (eCB gInt (aCons (eBin gIx (eBin gIx (eVar 0) (eC (.int 0))) (eBin gIx (eVar 0) (eC (.int 1)))) (aNil))) (aNil)))) (sSeq (sSetI 0 (eC (.int 1)) (eBin gAdd (eBin gIx (eVar 0) (eC (.int 1))) (eC (.int 1)))) (sSeq (sSetI 0 (eC (.int 3)) (eC (.int 4))) (sSeq (sSetI 0 (eC (.int 4)) (eBin gMod (eCB gInt (aCons (eBin gAdd (eBin gAdd (eBin gMul1 (eBin gIx (eVar 0) (eC (.int 4))) (eC (.int 48271))) (eBin gMod (eCB gInt (aCons (eVar 2) (aNil))) (eC (.int 2147483629)))) (eBin gIx (eVar 0) (eC (.int 1)))) (aNil))) (eC (.int 2147483647)))) (sIf (bV (eBin gGe (eVar 2) (eBin gPow (eC (.int 10)) (eC (.int 18))))) (sSeq (sSetI 0 (eC (.int 2)) (eBin gMod (eCB gInt (aCons (eVar 2) (aNil))) (eBin gPow (eC (.int 10)) (eC (.int 64))))) (sSetI 0 (eC (.int 3)) (eC (.int 60)))) (sNext)))))) (sNext)) (sSeq (sSetI 0 (eC (.int 3)) (eCB gMax2 (aCons (eC (.int 0)) (aCons (eBin DL.gSub (eBin gIx (eVar 0) (eC (.int 3))) (eC (.int 1))) (aNil))))) (sSeq (sIf (bV (eBin gGt (eBin gIx (eVar 0) (eC (.int 2))) (eC (.int 0)))) (sSeq (sAsg 3 (eBin gMod (eCB gInt (aCons (eBin gIx (eVar 0) (eC (.int 2))) (aNil))) (eVar 1))) (sSeq (sSetI 0 (eC (.int 2)) (eBin gDiv (eBin gIx (eVar 0) (eC (.int 2))) (eVar 1))) (sSeq (sIf (bOr (bV (eBin gEq (eBin gIx (eVar 0) (eC (.int 2))) (eC (.int 0)))) (bV (eBin gEq (eBin gIx (eVar 0) (eC (.int 3))) (eC (.int 0))))) (sSeq (sSetI 0 (eC (.int 2)) (eC (.int 0))) (sSetI 0 (eC (.int 3)) (eC (.int 0)))) (sNext)) (sRet (eVar 3))))) (sNext)) (sSeq (sSetI 0 (eC (.int 4)) (eBin gMod (eCB gInt (aCons (eBin gAdd (eBin gMul1 (eBin gIx (eVar 0) (eC (.int 4))) (eC (.int 16807))) (eC (.int 12345))) (aNil))) (eC (.int 2147483647)))) (sSeq (sAsg 4 (eBin gMod (eCB gInt (aCons (eBin gAdd (eBin gMul1 (eBin gIx (eVar 0) (eC (.int 4))) (eBin gIx (eVar 0) (eC (.int 4)))) (eC (.int 271))) (aNil))) (eC (.int 1000003)))) (sRet (eBin gMod (eCB gInt (aCons (eBin gMod (eCB gInt (aCons (eBin gAdd (eBin gMul1 (eVar 4) (eVar 4)) (eBin gDiv (eBin gIx (eVar 0) (eC (.int 4))) (eC (.int 1009)))) (aNil))) (eC (.int 2147483399))) (aNil))) (eVar 1)))))))
noncomputable def fd__law_draw : FD := fD 2 5 fb__law_draw
theorem ok__law_draw {P : Program} {w : World} {K : PySem.W.Frag} {mg : Str → Option Value} {base : Heap} {f : Addr} {fd : FuncData} {x qual : Str} (T : Tx P w K mg base)    (F : Fun K x qual (top 35) f fd) : FnOk P w K mg base (L2N.CX P w) 1 f fd ["state", "limit"] (spD K mg fd__law_draw) :=
  fn_ok (N := nm__law_draw) (ps := ["state", "limit"]) (g := fb__law_draw) F sc__law_draw fun cdv A outer s H E hr => by
    have S := sc__law_draw
    exact (ds_cons (ds_if (dt_w (dw_and (dt_cmp (op_eqP (hu64 hr)) sem_eq (de_ix (hu64 hr) (dv 0) de_int) de_int (nomark _)) (dw_and1 (dt_cmp (op_ltA (hu64 hr)) sem_ltA (de_ix (hu64 hr) (dv 0) de_int) (de_len T.m_len rfl (da_cons (de_ix (hu64 hr) (dv 0) de_int) da_nil)) (nomark _))))) (ds_cons (ds_asg (i := 2) S.nd rfl (by first | exact Or.inl rfl | exact Or.inr rfl) (de_abs T.m_abs rfl (da_cons (de_toInt T.m_int rfl (da_cons (de_ix (hu64 hr) (de_ix (hu64 hr) (dv 0) de_int) (de_ix (hu64 hr) (dv 0) de_int)) da_nil)) da_nil))) (ds_cons (ds_setI (pv 0) de_int (de_op op_addA sem_add (de_ix (hu64 hr) (dv 0) de_int) de_int)) (ds_cons (ds_setI (pv 0) de_int de_int) (ds_cons (ds_setI (pv 0) de_int (de_op op_modN sem_mod (de_toInt T.m_int rfl (da_cons (de_op op_addA sem_add (de_op op_addA sem_add (de_op op_mulA sem_mul (de_ix (hu64 hr) (dv 0) de_int) de_int) (de_op op_modN sem_mod (de_toInt T.m_int rfl (da_cons (dv 2) da_nil)) de_int)) (de_ix (hu64 hr) (dv 0) de_int)) da_nil)) de_int)) (ds_one (ds_if (dt_cmp op_ge sem_ge (dv 2) (de_op op_pow sem_pow de_int de_int) (nomark _)) (ds_cons (ds_setI (pv 0) de_int (de_op op_modN sem_mod (de_toInt T.m_int rfl (da_cons (dv 2) da_nil)) (de_op op_pow sem_pow de_int de_int))) (ds_one (ds_setI (pv 0) de_int de_int))) ds_nil)))))) ds_nil) (ds_cons (ds_setI (pv 0) de_int (de_max2 T.m_max rfl rfl (da_cons de_int (da_cons (de_op op_sub sem_sub (de_ix (hu64 hr) (dv 0) de_int) de_int) da_nil)))) (ds_cons (ds_if (dt_cmp op_gt sem_gt (de_ix (hu64 hr) (dv 0) de_int) de_int (nomark _)) (ds_cons (ds_asg (i := 3) S.nd rfl (by first | exact Or.inl rfl | exact Or.inr rfl) (de_op op_modN sem_mod (de_toInt T.m_int rfl (da_cons (de_ix (hu64 hr) (dv 0) de_int) da_nil)) (dv 1))) (ds_cons (ds_setI (pv 0) de_int (de_op op_fdivN sem_div (de_ix (hu64 hr) (dv 0) de_int) (dv 1))) (ds_cons (ds_if (dt_w (dw_or (dt_cmp (op_eqP (hu64 hr)) sem_eq (de_ix (hu64 hr) (dv 0) de_int) de_int (nomark _)) (dw_or1 (dt_cmp (op_eqP (hu64 hr)) sem_eq (de_ix (hu64 hr) (dv 0) de_int) de_int (nomark _))))) (ds_cons (ds_setI (pv 0) de_int de_int) (ds_one (ds_setI (pv 0) de_int de_int))) ds_nil) (ds_one (ds_ret (dv 3)))))) ds_nil) (ds_cons (ds_setI (pv 0) de_int (de_op op_modN sem_mod (de_toInt T.m_int rfl (da_cons (de_op op_addA sem_add (de_op op_mulA sem_mul (de_ix (hu64 hr) (dv 0) de_int) de_int) de_int) da_nil)) de_int)) (ds_cons (ds_asg (i := 4) S.nd rfl (by first | exact Or.inl rfl | exact Or.inr rfl) (de_op op_modN sem_mod (de_toInt T.m_int rfl (da_cons (de_op op_addA sem_add (de_op op_mulA sem_mul (de_ix (hu64 hr) (dv 0) de_int) (de_ix (hu64 hr) (dv 0) de_int)) de_int) da_nil)) de_int)) (ds_one (ds_ret (de_op op_modN sem_mod (de_toInt T.m_int rfl (da_cons (de_op op_modN sem_mod (de_toInt T.m_int rfl (da_cons (de_op op_addA sem_add (de_op op_mulA sem_mul (dv 4) (dv 4)) (de_op op_fdivN sem_div (de_ix (hu64 hr) (dv 0) de_int) de_int)) da_nil)) de_int) da_nil)) (dv 1)))))))))
/-! ### _law_path -/
abbrev nm__law_path : List Str := ["world", "place", "k"]
theorem sc__law_path : FnScope nm__law_path ["world", "place"] (defScope (top 44)) := ⟨rfl, rfl, rfl, by decide +kernel, rfl, by decide +kernel, by decide +kernel⟩
noncomputable def L__law_path_1 : SE := eBin gIx (eBin gIx (eBin gIx (eVar 0) (eC (.str "rows"))) (eVar 2)) (eBin gXor (eBin gShr (eVar 1) (eVar 2)) (eC (.int 1)))
noncomputable def fb__law_path : SS := sRet (eCB gTup1 (aCons (eN (nLc (iRng1 (aCons (eBin gIx (eVar 0) (eC (.str "high"))) (aNil))) [2] (tgN 2) (bTrue) (L__law_path_1))) (aNil)))
noncomputable def fd__law_path : FD := fD 2 3 fb__law_path
theorem ok__law_path {P : Program} {w : World} {K : PySem.W.Frag} {mg : Str → Option Value} {base : Heap} {f : Addr} {fd : FuncData} {x qual : Str} (T : Tx P w K mg base)    (F : Fun K x qual (top 44) f fd) : FnOk P w K mg base (L2N.CX P w) 1 f fd ["world", "place"] (spD K mg fd__law_path) :=
  fn_ok (N := nm__law_path) (ps := ["world", "place"]) (g := fb__law_path) F sc__law_path fun cdv A outer s H E hr => by
    have S := sc__law_path
    exact (ds_one (ds_ret (de_tuple T.m_tuple rfl (da_cons (de_n (dn_lc (own := [("k", 2)]) (tgs := [2]) rfl S.nd (di_rng1 rfl T.m_range (da_cons (de_ix (hu64 hr) (dv 0) de_str) da_nil)) (blkOk_by (own := [("k", 2)]) (N := nm__law_path) (sc := defScope (top 44)) (by decide +kernel)) (by decide) (fun _ _ _ _ _ => by exact (dg_name (i := 2) S.nd rfl (by first | exact Or.inl rfl | exact Or.inr rfl))) (fun _ _ _ _ _ => by exact dts_nil) (fun _ _ _ _ _ => by exact (de_ix (hu64 hr) (de_ix (hu64 hr) (de_ix (hu64 hr) (dv 0) de_str) (dv 2)) (de_op op_xor sem_xor (de_op op_shr sem_shr (dv 1) (dv 2)) de_int))))) da_nil))))
/-! ### _law_part -/
abbrev nm__law_part : List Str := ["one", "other", "k"]
theorem sc__law_part : FnScope nm__law_part ["one", "other"] (defScope (top 40)) := ⟨rfl, rfl, rfl, by decide +kernel, rfl, by decide +kernel, by decide +kernel⟩
noncomputable def B__law_part_1 : SS := sSeq (sIf (bV (eBin gEq (eVar 0) (eC (.int 0)))) (sBreak) (sNext)) (sPar 0 1 (aCons (eBin gMod (eCB gInt (aCons (eVar 1) (aNil))) (eVar 0)) (aCons (eVar 0) (aNil))))
noncomputable def fb__law_part : SS := sSeq (sFor (iRng1 (aCons (eC (.int 40)) (aNil))) (tgN 2) (B__law_part_1)) (sRet (eVar 1))
noncomputable def fd__law_part : FD := fD 2 3 fb__law_part
theorem ok__law_part {P : Program} {w : World} {K : PySem.W.Frag} {mg : Str → Option Value} {base : Heap} {f : Addr} {fd : FuncData} {x qual : Str} (T : Tx P w K mg base)    (F : Fun K x qual (top 40) f fd) : FnOk P w K mg base (L2N.CX P w) 1 f fd ["one", "other"] (spD K mg fd__law_part) :=
  fn_ok (N := nm__law_part) (ps := ["one", "other"]) (g := fb__law_part) F sc__law_part fun cdv A outer s H E hr => by
    have S := sc__law_part
    exact (ds_cons (ds_for (passes_of rfl) rfl (di_rng1 rfl T.m_range (da_cons de_int da_nil)) (dg_name (i := 2) S.nd rfl (by first | exact Or.inl rfl | exact Or.inr rfl)) (ds_cons (ds_if (dt_cmp (op_eqP (hu64 hr)) sem_eq (dv 0) de_int (nomark _)) (ds_one ds_break) ds_nil) (ds_one (ds_par (i := 0) (j := 1) rfl S.nd rfl rfl (by decide) rfl rfl (da_cons (de_op op_modN sem_mod (de_toInt T.m_int rfl (da_cons (dv 1) da_nil)) (dv 0)) (da_cons (dv 0) da_nil)))))) (ds_one (ds_ret (dv 1))))
/-! ### _law_reached -/
abbrev nm__law_reached : List Str := ["key", "place", "leaf", "high", "m", "a", "b", "c", "now", "k", "grown", "j", "full", "v", "first", "step", "part", "t"]
theorem sc__law_reached : FnScope nm__law_reached ["key", "place", "leaf", "high"] (defScope (top 46)) := ⟨rfl, rfl, rfl, by decide +kernel, rfl, by decide +kernel, by decide +kernel⟩
noncomputable def L__law_reached_1 : SE := eCB gInt (aCons (eBin gEq (eVar 9) (eVar 2)) (aNil))
noncomputable def L__law_reached_2 : SE := eC (.int 0)
noncomputable def B__law_reached_1 : SS := sSetI 10 (eBin gMod (eCB gInt (aCons (eBin gAdd (eVar 14) (eBin gMul1 (eVar 17) (eVar 16))) (aNil))) (eVar 4)) (eC (.int 1))
noncomputable def B__law_reached_2 : SS := sIf (bAnd (bV (eBin gEq (eBin gIx (eVar 8) (eVar 13)) (eC (.int 1)))) (bNot (bTr (eVar 12)))) (sSeq (sPar 14 15 (aCons (eBin gAdd (eBin gMul1 (eVar 5) (eVar 13)) (eC (.int 1))) (aCons (eBin gAdd (eVar 6) (eBin gMul1 (eVar 7) (eVar 13))) (aNil)))) (sSeq (sIf (bV (eBin gEq (eBin gMod (eCB gInt (aCons (eBin gShr (eVar 1) (eVar 9)) (aNil))) (eC (.int 2))) (eC (.int 1)))) (sPar 14 15 (aCons (eBin gAdd (eBin gMul1 (eVar 6) (eVar 13)) (eC (.int 1))) (aCons (eBin gAdd (eVar 5) (eBin gMul1 (eVar 7) (eVar 13))) (aNil)))) (sNext)) (sSeq (sAsg 16 (eCall fd__law_part (aCons (eBin gMod (eCB gInt (aCons (eVar 15) (aNil))) (eVar 4)) (aCons (eVar 4) (aNil))))) (sSeq (sAsg 12 (eBin gEq (eVar 16) (eC (.int 1)))) (sFor (iRng1 (aCons (eBin gDiv (eVar 4) (eVar 16)) (aNil))) (tgN 17) (B__law_reached_1)))))) (sNext)
noncomputable def B__law_reached_3 : SS := sSeq (sNew 10 (nLc (iRng1 (aCons (eVar 4) (aNil))) [11] (tgN 11) (bTrue) (L__law_reached_2))) (sSeq (sAsg 12 (eC (.bl false))) (sSeq (sFor (iRng1 (aCons (eVar 4) (aNil))) (tgN 13) (B__law_reached_2)) (sZrf [10] (sAsg 8 (eVar 10)))))
noncomputable def fb__law_reached : SS := sSeq (sTgt (tgTup 4 (tgCons (tgN 4) (tgCons (tgN 5) (tgCons (tgN 6) (tgCons (tgN 7) (tgNil)))))) (eVar 0)) (sSeq (sAsg 8 (eN (nLc (iRng1 (aCons (eVar 4) (aNil))) [9] (tgN 9) (bTrue) (L__law_reached_1)))) (sSeq (sFrz [10] (sFor (iRng1 (aCons (eVar 3) (aNil))) (tgN 9) (B__law_reached_3))) (sRet (eVar 8))))
noncomputable def fd__law_reached : FD := fD 4 18 fb__law_reached
theorem ok__law_reached {P : Program} {w : World} {K : PySem.W.Frag} {mg : Str → Option Value} {base : Heap} {f : Addr} {fd : FuncData} {x qual : Str} (T : Tx P w K mg base) (h__law_part : FnK P w K mg base "_law_part" ["one", "other"] 1 fd__law_part)   (F : Fun K x qual (top 46) f fd) : FnOk P w K mg base (L2N.CX P w) 2 f fd ["key", "place", "leaf", "high"] (spD K mg fd__law_reached) :=
  fn_ok (N := nm__law_reached) (ps := ["key", "place", "leaf", "high"]) (g := fb__law_reached) F sc__law_reached fun cdv A outer s H E hr => by
    have S := sc__law_reached
    exact (ds_cons (ds_tgt (dv 0) (dg_tup rfl (dgs_cons (dg_name (i := 4) S.nd rfl (by first | exact Or.inl rfl | exact Or.inr rfl)) (dgs_cons (dg_name (i := 5) S.nd rfl (by first | exact Or.inl rfl | exact Or.inr rfl)) (dgs_cons (dg_name (i := 6) S.nd rfl (by first | exact Or.inl rfl | exact Or.inr rfl)) (dgs_cons (dg_name (i := 7) S.nd rfl (by first | exact Or.inl rfl | exact Or.inr rfl)) dgs_nil)))))) (ds_cons (ds_asgLc (own := [("k", 9)]) (tgs := [9]) rfl S.nd (i := 8) rfl rfl (sw_true rfl rfl rfl (by decide +kernel)) (di_rng1 rfl T.m_range (da_cons (dv 4) da_nil)) (blkOk_by (own := [("k", 9)]) (N := nm__law_reached) (sc := defScope (top 46)) (by decide +kernel)) (by decide) (fun _ _ _ _ _ => by exact (dg_name (i := 9) S.nd rfl (by first | exact Or.inl rfl | exact Or.inr rfl))) (fun _ _ _ _ _ => by exact dts_nil) (fun _ _ _ _ _ => by exact (de_toInt T.m_int rfl (da_cons (de_cmp (op_eqP (hu64 hr)) sem_eq (dv 9) (dv 2) (nomark _)) da_nil)))) (ds_cons (ds_frz (is := [10]) (ds_for (passes_of rfl) rfl (di_rng1 rfl T.m_range (da_cons (dv 3) da_nil)) (dg_name (i := 9) S.nd rfl (by first | exact Or.inl rfl | exact Or.inr rfl)) (ds_cons (ds_newLc (own := [("j", 11)]) (tgs := [11]) rfl S.nd (i := 10) rfl rfl (sw_true rfl rfl rfl (by decide +kernel)) (di_rng1 rfl T.m_range (da_cons (dv 4) da_nil)) (blkOk_by (own := [("j", 11)]) (N := nm__law_reached) (sc := defScope (top 46)) (by decide +kernel)) (by decide) (fun _ _ _ _ _ => by exact (dg_name (i := 11) S.nd rfl (by first | exact Or.inl rfl | exact Or.inr rfl))) (fun _ _ _ _ _ => by exact dts_nil) (fun _ _ _ _ _ => by exact de_int)) (ds_cons (ds_asg (i := 12) S.nd rfl (by first | exact Or.inl rfl | exact Or.inr rfl) de_bl) (ds_cons (ds_for (passes_of rfl) rfl (di_rng1 rfl T.m_range (da_cons (dv 4) da_nil)) (dg_name (i := 13) S.nd rfl (by first | exact Or.inl rfl | exact Or.inr rfl)) (ds_one (ds_if (dt_w (dw_and (dt_cmp (op_eqP (hu64 hr)) sem_eq (de_ix (hu64 hr) (dv 8) (dv 13)) de_int (nomark _)) (dw_and1 (dt_not (dt_tru (dv 12)))))) (ds_cons (ds_par (i := 14) (j := 15) rfl S.nd rfl rfl (by decide) rfl rfl (da_cons (de_op op_addA sem_add (de_op op_mulA sem_mul (dv 5) (dv 13)) de_int) (da_cons (de_op op_addA sem_add (dv 6) (de_op op_mulA sem_mul (dv 7) (dv 13))) da_nil))) (ds_cons (ds_if (dt_cmp (op_eqP (hu64 hr)) sem_eq (de_op op_modN sem_mod (de_toInt T.m_int rfl (da_cons (de_op op_shr sem_shr (dv 1) (dv 9)) da_nil)) de_int) de_int (nomark _)) (ds_one (ds_par (i := 14) (j := 15) rfl S.nd rfl rfl (by decide) rfl rfl (da_cons (de_op op_addA sem_add (de_op op_mulA sem_mul (dv 6) (dv 13)) de_int) (da_cons (de_op op_addA sem_add (dv 5) (de_op op_mulA sem_mul (dv 7) (dv 13))) da_nil)))) ds_nil) (ds_cons (ds_asg (i := 16) S.nd rfl (by first | exact Or.inl rfl | exact Or.inr rfl) (de_c h__law_part (L2N.takes_of rfl rfl rfl rfl) (hr.mono (by decide)) rfl (da_cons (de_op op_modN sem_mod (de_toInt T.m_int rfl (da_cons (dv 15) da_nil)) (dv 4)) (da_cons (dv 4) da_nil)))) (ds_cons (ds_asg (i := 12) S.nd rfl (by first | exact Or.inl rfl | exact Or.inr rfl) (de_cmp (op_eqP (hu64 hr)) sem_eq (dv 16) de_int (nomark _))) (ds_one (ds_for (passes_of rfl) rfl (di_rng1 rfl T.m_range (da_cons (de_op op_fdivN sem_div (dv 4) (dv 16)) da_nil)) (dg_name (i := 17) S.nd rfl (by first | exact Or.inl rfl | exact Or.inr rfl)) (ds_one (ds_setI (pv 10) (de_op op_modN sem_mod (de_toInt T.m_int rfl (da_cons (de_op op_addA sem_add (dv 14) (de_op op_mulA sem_mul (dv 17) (dv 16))) da_nil)) (dv 4)) de_int)))))))) ds_nil))) (ds_one (ds_zrf (is := [10]) (ds_asg (i := 8) S.nd rfl (by first | exact Or.inl rfl | exact Or.inr rfl) (dv 10))))))))) (ds_one (ds_ret (dv 8))))))
/-! ### check_place -/
abbrev nm_check_place : List Str := ["place"]
theorem sc_check_place : FnScope nm_check_place ["place"] (defScope (top 26)) := ⟨rfl, rfl, rfl, by decide +kernel, rfl, by decide +kernel, by decide +kernel⟩
noncomputable def fb_check_place : SS := sIf (bOr (bNot (bV (eCall fd_is_integer (aCons (eVar 0) (aNil))))) (bV (eBin gLtA (eVar 0) (eC (.int 0))))) (sRaise "InvalidNumber" ["value"] (aCons (eVar 0) (aNil))) (sNext)
noncomputable def fd_check_place : FD := fD 1 1 fb_check_place
theorem ok_check_place {P : Program} {w : World} {K : PySem.W.Frag} {mg : Str → Option Value} {base : Heap} {f : Addr} {fd : FuncData} {x qual : Str} (T : Tx P w K mg base) (h_is_integer : FnK P w K mg base "is_integer" ["value"] 1 fd_is_integer)   (F : Fun K x qual (top 26) f fd) : FnOk P w K mg base (L2N.CX P w) 3 f fd ["place"] (spD K mg fd_check_place) :=
  fn_ok (N := nm_check_place) (ps := ["place"]) (g := fb_check_place) F sc_check_place fun cdv A outer s H E hr => by
    have S := sc_check_place
    exact (ds_one (ds_if (dt_w (dw_or (dt_not (dt_val (de_c h_is_integer (L2N.takes_of rfl rfl rfl rfl) (hr.mono (by decide)) rfl (da_cons (dv 0) da_nil)))) (dw_or1 (dt_cmp (op_ltA (hu64 hr)) sem_ltA (dv 0) de_int (nomark _))))) (ds_one (ds_r1 T.x_InvalidNumber rfl (L2N.takes_of rfl rfl rfl rfl) (hr.mono (by decide)) rfl (da_cons (dv 0) da_nil))) ds_nil))
/-! ### are_below -/
abbrev nm_are_below : List Str := ["key", "value", "number"]
theorem sc_are_below : FnScope nm_are_below ["key", "value"] (defScope (top 17)) := ⟨rfl, rfl, rfl, by decide +kernel, rfl, by decide +kernel, by decide +kernel⟩
noncomputable def L_are_below_1 : SE := eCall fd_is_below (aCons (eVar 2) (aCons (eBin gIx (eVar 0) (eC (.int 0))) (aNil)))
noncomputable def fb_are_below : SS := sRet (eAnd (eCB gIsi (aCons (eVar 1) (aCons (eC (.ty "tuple")) (aNil)))) (eCB gAll (aCons (eN (nLc (iSeq (eVar 1)) [2] (tgN 2) (bTrue) (L_are_below_1))) (aNil))))
noncomputable def fd_are_below : FD := fD 2 3 fb_are_below
theorem ok_are_below {P : Program} {w : World} {K : PySem.W.Frag} {mg : Str → Option Value} {base : Heap} {f : Addr} {fd : FuncData} {x qual : Str} (T : Tx P w K mg base) (h_is_below : FnK P w K mg base "is_below" ["value", "bound"] 1 fd_is_below)   (F : Fun K x qual (top 17) f fd) : FnOk P w K mg base (L2N.CX P w) 2 f fd ["key", "value"] (spD K mg fd_are_below) :=
  fn_ok (N := nm_are_below) (ps := ["key", "value"]) (g := fb_are_below) F sc_are_below fun cdv A outer s H E hr => by
    have S := sc_are_below
    exact (ds_one (ds_ret (de_and (de_isi T.m_isinstance rfl (da_cons (dv 1) (da_cons (de_btuple T.m_tuple rfl) da_nil))) (de_one (de_all T.m_all rfl rfl (da_cons (de_n (dn_lc (own := [("number", 2)]) (tgs := [2]) rfl S.nd (di_seq (dv 1)) (blkOk_by (own := [("number", 2)]) (N := nm_are_below) (sc := defScope (top 17)) (by decide +kernel)) (by decide) (fun _ _ _ _ _ => by exact (dg_name (i := 2) S.nd rfl (by first | exact Or.inl rfl | exact Or.inr rfl))) (fun _ _ _ _ _ => by exact dts_nil) (fun _ _ _ _ _ => by exact (de_c h_is_below DL.takes0 (hr.mono (by decide)) rfl (da_cons (dv 2) (da_cons (de_ix (hu64 hr) (dv 0) de_int) da_nil)))))) da_nil))))))
/-! ### pairs_up -/
abbrev nm_pairs_up : List Str := ["key", "place", "leaf", "path", "pairs", "number", "step", "member", "pair"]
theorem sc_pairs_up : FnScope nm_pairs_up ["key", "place", "leaf", "path"] (defScope (top 24)) := ⟨rfl, rfl, rfl, by decide +kernel, rfl, by decide +kernel, by decide +kernel⟩
noncomputable def B_pairs_up_1 : SS := sSeq (sAsg 8 (eIf (bTr (eBin gAnd (eBin gShr (eVar 1) (eVar 6)) (eC (.int 1)))) (eTup (aCons (eVar 7) (aCons (eVar 5) (aNil)))) (eTup (aCons (eVar 5) (aCons (eVar 7) (aNil)))))) (sSeq (sApp 4 (eVar 8)) (sAsg 5 (eCall fd_made_mark (aCons (eVar 0) (aCons (eBin gIx (eVar 8) (eC (.int 0))) (aCons (eBin gIx (eVar 8) (eC (.int 1))) (aNil)))))))
noncomputable def fb_pairs_up : SS := sSeq (sNew 4 (nLst (aNil))) (sSeq (sAsg 5 (eVar 2)) (sSeq (sFrz [4] (sFor (iEnum (aCons (eVar 3) (aNil))) (tgTup 2 (tgCons (tgN 6) (tgCons (tgN 7) (tgNil)))) (B_pairs_up_1))) (sRet (eVar 4))))
noncomputable def fd_pairs_up : FD := fD 4 9 fb_pairs_up
theorem ok_pairs_up {P : Program} {w : World} {K : PySem.W.Frag} {mg : Str → Option Value} {base : Heap} {f : Addr} {fd : FuncData} {x qual : Str} (T : Tx P w K mg base) (h_made_mark : FnK P w K mg base "made_mark" ["key", "x", "y"] 1 fd_made_mark)   (F : Fun K x qual (top 24) f fd) : FnOk P w K mg base (L2N.CX P w) 2 f fd ["key", "place", "leaf", "path"] (spD K mg fd_pairs_up) :=
  fn_ok (N := nm_pairs_up) (ps := ["key", "place", "leaf", "path"]) (g := fb_pairs_up) F sc_pairs_up fun cdv A outer s H E hr => by
    have S := sc_pairs_up
    exact (ds_cons (ds_new (i := 4) S.nd rfl (by first | exact Or.inl rfl | exact Or.inr rfl) (dn_lst da_nil)) (ds_cons (ds_asg (i := 5) S.nd rfl (by first | exact Or.inl rfl | exact Or.inr rfl) (dv 2)) (ds_cons (ds_frz (is := [4]) (ds_for (passes_of rfl) rfl (di_enum rfl T.m_enumerate (da_cons (dv 3) da_nil)) (dg_tup rfl (dgs_cons (dg_name (i := 6) S.nd rfl (by first | exact Or.inl rfl | exact Or.inr rfl)) (dgs_cons (dg_name (i := 7) S.nd rfl (by first | exact Or.inl rfl | exact Or.inr rfl)) dgs_nil))) (ds_cons (ds_asg (i := 8) S.nd rfl (by first | exact Or.inl rfl | exact Or.inr rfl) (de_ifx (dt_tru (de_op op_and sem_and (de_op op_shr sem_shr (dv 1) (dv 6)) de_int)) (de_tup (da_cons (dv 7) (da_cons (dv 5) da_nil))) (de_tup (da_cons (dv 5) (da_cons (dv 7) da_nil))))) (ds_cons (ds_app (pv 4) (dv 8)) (ds_one (ds_asg (i := 5) S.nd rfl (by first | exact Or.inl rfl | exact Or.inr rfl) (de_c h_made_mark (L2N.takes_of rfl rfl rfl rfl) (hr.mono (by decide)) rfl (da_cons (dv 0) (da_cons (de_ix (hu64 hr) (dv 8) de_int) (da_cons (de_ix (hu64 hr) (dv 8) de_int) da_nil)))))))))) (ds_one (ds_ret (dv 4))))))
/-! ### leads_to -/
abbrev nm_leads_to : List Str := ["key", "root", "place", "leaf", "path", "pairs", "made"]
theorem sc_leads_to : FnScope nm_leads_to ["key", "root", "place", "leaf", "path"] (defScope (top 25)) := ⟨rfl, rfl, rfl, by decide +kernel, rfl, by decide +kernel, by decide +kernel⟩
noncomputable def fb_leads_to : SS := sSeq (sAsg 5 (eCall fd_pairs_up (aCons (eVar 0) (aCons (eVar 2) (aCons (eVar 3) (aCons (eVar 4) (aNil))))))) (sSeq (sAsg 6 (eIf (bV (eBin gEq (eCB gLen1 (aCons (eVar 5) (aNil))) (eC (.int 0)))) (eVar 3) (eCall fd_made_mark (aCons (eVar 0) (aCons (eBin gIx (eBin gIx (eVar 5) (eUn (uI fun i => .int (-i)) (eC (.int 1)))) (eC (.int 0))) (aCons (eBin gIx (eBin gIx (eVar 5) (eUn (uI fun i => .int (-i)) (eC (.int 1)))) (eC (.int 1))) (aNil))))))) (sRet (eAnd (eBin gEq (eVar 6) (eVar 1)) (eBin gLtA (eVar 2) (eBin gShl (eC (.int 1)) (eCB gLen1 (aCons (eVar 4) (aNil))))))))
noncomputable def fd_leads_to : FD := fD 5 7 fb_leads_to
theorem ok_leads_to {P : Program} {w : World} {K : PySem.W.Frag} {mg : Str → Option Value} {base : Heap} {f : Addr} {fd : FuncData} {x qual : Str} (T : Tx P w K mg base) (h_made_mark : FnK P w K mg base "made_mark" ["key", "x", "y"] 1 fd_made_mark) (h_pairs_up : FnK P w K mg base "pairs_up" ["key", "place", "leaf", "path"] 2 fd_pairs_up)   (F : Fun K x qual (top 25) f fd) : FnOk P w K mg base (L2N.CX P w) 3 f fd ["key", "root", "place", "leaf", "path"] (spD K mg fd_leads_to) :=
  fn_ok (N := nm_leads_to) (ps := ["key", "root", "place", "leaf", "path"]) (g := fb_leads_to) F sc_leads_to fun cdv A outer s H E hr => by
    have S := sc_leads_to
    exact (ds_cons (ds_asg (i := 5) S.nd rfl (by first | exact Or.inl rfl | exact Or.inr rfl) (de_c h_pairs_up (L2N.takes_of rfl rfl rfl rfl) (hr.mono (by decide)) rfl (da_cons (dv 0) (da_cons (dv 2) (da_cons (dv 3) (da_cons (dv 4) da_nil)))))) (ds_cons (ds_asg (i := 6) S.nd rfl (by first | exact Or.inl rfl | exact Or.inr rfl) (de_ifx (dt_cmp (op_eqP (hu64 hr)) sem_eq (de_len T.m_len rfl (da_cons (dv 5) da_nil)) de_int (nomark _)) (dv 3) (de_c h_made_mark (L2N.takes_of rfl rfl rfl rfl) (hr.mono (by decide)) rfl (da_cons (dv 0) (da_cons (de_ix (hu64 hr) (de_ix (hu64 hr) (dv 5) (de_un un_neg sem_neg de_int)) de_int) (da_cons (de_ix (hu64 hr) (de_ix (hu64 hr) (dv 5) (de_un un_neg sem_neg de_int)) de_int) da_nil)))))) (ds_one (ds_ret (de_and (de_cmp (op_eqP (hu64 hr)) sem_eq (dv 6) (dv 1) (nomark _)) (de_one (de_cmp (op_ltA (hu64 hr)) sem_ltA (dv 2) (de_op op_shl sem_shl de_int (de_len T.m_len rfl (da_cons (dv 4) da_nil))) (nomark _))))))))
/-! ### is_proof -/
abbrev nm_is_proof : List Str := ["key", "root", "place", "value"]
theorem sc_is_proof : FnScope nm_is_proof ["key", "root", "place", "value"] (defScope (top 28)) := ⟨rfl, rfl, rfl, by decide +kernel, rfl, by decide +kernel, by decide +kernel⟩
noncomputable def fb_is_proof : SS := sSeq (sIf (bOr (bNot (bV (eCB gIsi (aCons (eVar 3) (aCons (eC (.ty "tuple")) (aNil)))))) (bV (eBin gNe (eCB gLen1 (aCons (eVar 3) (aNil))) (eC (.int 2))))) (sRet (eC (.bl false))) (sNext)) (sSeq (sIf (bOr (bNot (bV (eCall fd_is_below (aCons (eBin gIx (eVar 3) (eC (.int 0))) (aCons (eBin gIx (eVar 0) (eC (.int 0))) (aNil)))))) (bNot (bV (eCall fd_are_below (aCons (eVar 0) (aCons (eBin gIx (eVar 3) (eC (.int 1))) (aNil))))))) (sRet (eC (.bl false))) (sNext)) (sRet (eCall fd_leads_to (aCons (eVar 0) (aCons (eVar 1) (aCons (eVar 2) (aCons (eBin gIx (eVar 3) (eC (.int 0))) (aCons (eBin gIx (eVar 3) (eC (.int 1))) (aNil)))))))))
noncomputable def fd_is_proof : FD := fD 4 4 fb_is_proof
theorem ok_is_proof {P : Program} {w : World} {K : PySem.W.Frag} {mg : Str → Option Value} {base : Heap} {f : Addr} {fd : FuncData} {x qual : Str} (T : Tx P w K mg base) (h_are_below : FnK P w K mg base "are_below" ["key", "value"] 2 fd_are_below) (h_is_below : FnK P w K mg base "is_below" ["value", "bound"] 1 fd_is_below) (h_leads_to : FnK P w K mg base "leads_to" ["key", "root", "place", "leaf", "path"] 3 fd_leads_to)   (F : Fun K x qual (top 28) f fd) : FnOk P w K mg base (L2N.CX P w) 4 f fd ["key", "root", "place", "value"] (spD K mg fd_is_proof) :=
  fn_ok (N := nm_is_proof) (ps := ["key", "root", "place", "value"]) (g := fb_is_proof) F sc_is_proof fun cdv A outer s H E hr => by
    have S := sc_is_proof
    exact (ds_cons (ds_if (dt_w (dw_or (dt_not (dt_val (de_isi T.m_isinstance rfl (da_cons (dv 3) (da_cons (de_btuple T.m_tuple rfl) da_nil))))) (dw_or1 (dt_cmp (op_neP (hu64 hr)) sem_ne (de_len T.m_len rfl (da_cons (dv 3) da_nil)) de_int (nomark _))))) (ds_one (ds_ret de_bl)) ds_nil) (ds_cons (ds_if (dt_w (dw_or (dt_not (dt_val (de_c h_is_below (L2N.takes_of rfl rfl rfl rfl) (hr.mono (by decide)) rfl (da_cons (de_ix (hu64 hr) (dv 3) de_int) (da_cons (de_ix (hu64 hr) (dv 0) de_int) da_nil))))) (dw_or1 (dt_not (dt_val (de_c h_are_below (L2N.takes_of rfl rfl rfl rfl) (hr.mono (by decide)) rfl (da_cons (dv 0) (da_cons (de_ix (hu64 hr) (dv 3) de_int) da_nil)))))))) (ds_one (ds_ret de_bl)) ds_nil) (ds_one (ds_ret (de_c h_leads_to (L2N.takes_of rfl rfl rfl rfl) (hr.mono (by decide)) rfl (da_cons (dv 0) (da_cons (dv 1) (da_cons (dv 2) (da_cons (de_ix (hu64 hr) (dv 3) de_int) (da_cons (de_ix (hu64 hr) (dv 3) de_int) da_nil))))))))))
/-! ### same_marks -/
abbrev nm_same_marks : List Str := ["key", "root", "place", "one", "other", "found", "first", "second"]
theorem sc_same_marks : FnScope nm_same_marks ["key", "root", "place", "one", "other"] (defScope (top 29)) := ⟨rfl, rfl, rfl, by decide +kernel, rfl, by decide +kernel, by decide +kernel⟩
noncomputable def B_same_marks_1 : SS := sIf (bV (eBin gNe (eVar 6) (eVar 7))) (sAsg 5 (eTup (aCons (eVar 6) (aCons (eVar 7) (aNil))))) (sNext)
noncomputable def fb_same_marks : SS := sSeq (sDrop (eCall fd_check_numbers (aCons (eVar 0) (aCons (eTup (aCons (eVar 1) (aNil))) (aNil))))) (sSeq (sDrop (eCall fd_check_place (aCons (eVar 2) (aNil)))) (sSeq (sIf (bNot (bV (eCall fd_is_proof (aCons (eVar 0) (aCons (eVar 1) (aCons (eVar 2) (aCons (eVar 3) (aNil)))))))) (sRaise "InvalidPaper" ["place", "part"] (aCons (eC (.str "one")) (aCons (eC (.int 0)) (aNil)))) (sNext)) (sSeq (sIf (bOr (bNot (bV (eCall fd_is_proof (aCons (eVar 0) (aCons (eVar 1) (aCons (eVar 2) (aCons (eVar 4) (aNil)))))))) (bOr (bV (eBin gNe (eCB gLen1 (aCons (eBin gIx (eVar 4) (eC (.int 1))) (aNil))) (eCB gLen1 (aCons (eBin gIx (eVar 3) (eC (.int 1))) (aNil))))) (bV (eBin gEq (eVar 4) (eVar 3))))) (sRaise "InvalidPaper" ["place", "part"] (aCons (eC (.str "other")) (aCons (eC (.int 0)) (aNil)))) (sNext)) (sSeq (sAsg 5 (eC .non)) (sSeq (sFor (iZip (aCons (eCall fd_pairs_up (aCons (eVar 0) (aCons (eVar 2) (aCons (eBin gIx (eVar 3) (eC (.int 0))) (aCons (eBin gIx (eVar 3) (eC (.int 1))) (aNil)))))) (aCons (eCall fd_pairs_up (aCons (eVar 0) (aCons (eVar 2) (aCons (eBin gIx (eVar 4) (eC (.int 0))) (aCons (eBin gIx (eVar 4) (eC (.int 1))) (aNil)))))) (aNil)))) (tgTup 2 (tgCons (tgN 6) (tgCons (tgN 7) (tgNil)))) (B_same_marks_1)) (sRet (eVar 5)))))))
noncomputable def fd_same_marks : FD := fD 5 8 fb_same_marks
theorem ok_same_marks {P : Program} {w : World} {K : PySem.W.Frag} {mg : Str → Option Value} {base : Heap} {f : Addr} {fd : FuncData} {x qual : Str} (T : Tx P w K mg base) (h_check_numbers : FnK P w K mg base "check_numbers" ["key", "numbers"] 4 fd_check_numbers) (h_check_place : FnK P w K mg base "check_place" ["place"] 3 fd_check_place) (h_is_proof : FnK P w K mg base "is_proof" ["key", "root", "place", "value"] 4 fd_is_proof) (h_pairs_up : FnK P w K mg base "pairs_up" ["key", "place", "leaf", "path"] 2 fd_pairs_up)   (F : Fun K x qual (top 29) f fd) : FnOk P w K mg base (L2N.CX P w) 5 f fd ["key", "root", "place", "one", "other"] (spD K mg fd_same_marks) :=
  fn_ok (N := nm_same_marks) (ps := ["key", "root", "place", "one", "other"]) (g := fb_same_marks) F sc_same_marks fun cdv A outer s H E hr => by
    have S := sc_same_marks
    exact (ds_cons (ds_expr (de_c h_check_numbers (L2N.takes_of rfl rfl rfl rfl) (hr.mono (by decide)) rfl (da_cons (dv 0) (da_cons (de_tup (da_cons (dv 1) da_nil)) da_nil)))) (ds_cons (ds_expr (de_c h_check_place (L2N.takes_of rfl rfl rfl rfl) (hr.mono (by decide)) rfl (da_cons (dv 2) da_nil))) (ds_cons (ds_if (dt_not (dt_val (de_c h_is_proof (L2N.takes_of rfl rfl rfl rfl) (hr.mono (by decide)) rfl (da_cons (dv 0) (da_cons (dv 1) (da_cons (dv 2) (da_cons (dv 3) da_nil))))))) (ds_one (ds_r2 T.x_InvalidPaper rfl (L2N.takes_of rfl rfl rfl rfl) (hr.mono (by decide)) rfl (da_cons de_str (da_cons de_int da_nil)))) ds_nil) (ds_cons (ds_if (dt_w (dw_or (dt_not (dt_val (de_c h_is_proof (L2N.takes_of rfl rfl rfl rfl) (hr.mono (by decide)) rfl (da_cons (dv 0) (da_cons (dv 1) (da_cons (dv 2) (da_cons (dv 4) da_nil))))))) (dw_or (dt_cmp (op_neP (hu64 hr)) sem_ne (de_len T.m_len rfl (da_cons (de_ix (hu64 hr) (dv 4) de_int) da_nil)) (de_len T.m_len rfl (da_cons (de_ix (hu64 hr) (dv 3) de_int) da_nil)) (nomark _)) (dw_or1 (dt_cmp (op_eqP (hu64 hr)) sem_eq (dv 4) (dv 3) (nomark _)))))) (ds_one (ds_r2 T.x_InvalidPaper rfl (L2N.takes_of rfl rfl rfl rfl) (hr.mono (by decide)) rfl (da_cons de_str (da_cons de_int da_nil)))) ds_nil) (ds_cons (ds_asg (i := 5) S.nd rfl (by first | exact Or.inl rfl | exact Or.inr rfl) de_non) (ds_cons (ds_for (passes_of rfl) rfl (di_zip rfl T.m_zip (da_cons (de_c h_pairs_up (L2N.takes_of rfl rfl rfl rfl) (hr.mono (by decide)) rfl (da_cons (dv 0) (da_cons (dv 2) (da_cons (de_ix (hu64 hr) (dv 3) de_int) (da_cons (de_ix (hu64 hr) (dv 3) de_int) da_nil))))) (da_cons (de_c h_pairs_up (L2N.takes_of rfl rfl rfl rfl) (hr.mono (by decide)) rfl (da_cons (dv 0) (da_cons (dv 2) (da_cons (de_ix (hu64 hr) (dv 4) de_int) (da_cons (de_ix (hu64 hr) (dv 4) de_int) da_nil))))) da_nil))) (dg_tup rfl (dgs_cons (dg_name (i := 6) S.nd rfl (by first | exact Or.inl rfl | exact Or.inr rfl)) (dgs_cons (dg_name (i := 7) S.nd rfl (by first | exact Or.inl rfl | exact Or.inr rfl)) dgs_nil))) (ds_one (ds_if (dt_cmp (op_neP (hu64 hr)) sem_ne (dv 6) (dv 7) (nomark _)) (ds_one (ds_asg (i := 5) S.nd rfl (by first | exact Or.inl rfl | exact Or.inr rfl) (de_tup (da_cons (dv 6) (da_cons (dv 7) da_nil))))) ds_nil))) (ds_one (ds_ret (dv 5)))))))))
/-! ### _law_same -/
abbrev nm__law_same : List Str := ["world", "place", "one", "other", "key"]
theorem sc__law_same : FnScope nm__law_same ["world", "place", "one", "other"] (defScope (top 50)) := ⟨rfl, rfl, rfl, by decide +kernel, rfl, by decide +kernel, by decide +kernel⟩
noncomputable def fb__law_same : SS := sSeq (sAsg 4 (eBin gIx (eVar 0) (eC (.str "key")))) (sSeq (sIf (bNot (bV (eCall fd__law_two (aCons (eCall fd_same_marks (aCons (eVar 4) (aCons (eBin gIx (eVar 0) (eC (.str "root"))) (aCons (eVar 1) (aCons (eVar 2) (aCons (eVar 3) (aNil))))))) (aCons (eVar 4) (aNil)))))) (sRet (eC (.bl false))) (sNext)) (sRet (eCall fd__law_two (aCons (eCall fd_same_marks (aCons (eVar 4) (aCons (eBin gIx (eVar 0) (eC (.str "root"))) (aCons (eVar 1) (aCons (eVar 3) (aCons (eVar 2) (aNil))))))) (aCons (eVar 4) (aNil))))))
noncomputable def fd__law_same : FD := fD 4 5 fb__law_same
theorem ok__law_same {P : Program} {w : World} {K : PySem.W.Frag} {mg : Str → Option Value} {base : Heap} {f : Addr} {fd : FuncData} {x qual : Str} (T : Tx P w K mg base) (h__law_two : FnK P w K mg base "_law_two" ["told", "key"] 2 fd__law_two) (h_same_marks : FnK P w K mg base "same_marks" ["key", "root", "place", "one", "other"] 5 fd_same_marks) (hk_same_marks : FnKw P w K mg base "same_marks" ["key", "root", "place", "one", "other"] 5 fd_same_marks)  (F : Fun K x qual (top 50) f fd) : FnOk P w K mg base (L2N.CX P w) 6 f fd ["world", "place", "one", "other"] (spD K mg fd__law_same) :=
  fn_ok (N := nm__law_same) (ps := ["world", "place", "one", "other"]) (g := fb__law_same) F sc__law_same fun cdv A outer s H E hr => by
    have S := sc__law_same
    exact (ds_cons (ds_asg (i := 4) S.nd rfl (by first | exact Or.inl rfl | exact Or.inr rfl) (de_ix (hu64 hr) (dv 0) de_str)) (ds_cons (ds_if (dt_not (dt_val (de_c h__law_two (L2N.takes_of rfl rfl rfl rfl) (hr.mono (by decide)) rfl (da_cons (de_ck hk_same_marks (L2N.takes_of rfl rfl rfl rfl) (hr.mono (by decide)) rfl (dk_cons (dv 4) (dk_cons (de_ix (hu64 hr) (dv 0) de_str) (dk_cons (dv 1) (dk_cons (dv 2) (dk_cons (dv 3) dk_nil)))))) (da_cons (dv 4) da_nil))))) (ds_one (ds_ret de_bl)) ds_nil) (ds_one (ds_ret (de_c h__law_two (L2N.takes_of rfl rfl rfl rfl) (hr.mono (by decide)) rfl (da_cons (de_c h_same_marks (L2N.takes_of rfl rfl rfl rfl) (hr.mono (by decide)) rfl (da_cons (dv 4) (da_cons (de_ix (hu64 hr) (dv 0) de_str) (da_cons (dv 1) (da_cons (dv 3) (da_cons (dv 2) da_nil)))))) (da_cons (dv 4) da_nil)))))))
/-! ### _law_top -/
abbrev nm__law_top : List Str := ["key", "place", "leaf", "path", "made", "k"]
theorem sc__law_top : FnScope nm__law_top ["key", "place", "leaf", "path"] (defScope (top 45)) := ⟨rfl, rfl, rfl, by decide +kernel, rfl, by decide +kernel, by decide +kernel⟩
noncomputable def B__law_top_1 : SS := sIf (bV (eBin gEq (eBin gMod (eCB gInt (aCons (eBin gShr (eVar 1) (eVar 5)) (aNil))) (eC (.int 2))) (eC (.int 1)))) (sAsg 4 (eCall fd__law_mark (aCons (eVar 0) (aCons (eBin gIx (eVar 3) (eVar 5)) (aCons (eVar 4) (aNil)))))) (sAsg 4 (eCall fd__law_mark (aCons (eVar 0) (aCons (eVar 4) (aCons (eBin gIx (eVar 3) (eVar 5)) (aNil))))))
noncomputable def fb__law_top : SS := sSeq (sAsg 4 (eVar 2)) (sSeq (sFor (iRng1 (aCons (eCB gLen1 (aCons (eVar 3) (aNil))) (aNil))) (tgN 5) (B__law_top_1)) (sRet (eVar 4)))
noncomputable def fd__law_top : FD := fD 4 6 fb__law_top
theorem ok__law_top {P : Program} {w : World} {K : PySem.W.Frag} {mg : Str → Option Value} {base : Heap} {f : Addr} {fd : FuncData} {x qual : Str} (T : Tx P w K mg base) (h__law_mark : FnK P w K mg base "_law_mark" ["key", "x", "y"] 1 fd__law_mark)   (F : Fun K x qual (top 45) f fd) : FnOk P w K mg base (L2N.CX P w) 2 f fd ["key", "place", "leaf", "path"] (spD K mg fd__law_top) :=
  fn_ok (N := nm__law_top) (ps := ["key", "place", "leaf", "path"]) (g := fb__law_top) F sc__law_top fun cdv A outer s H E hr => by
    have S := sc__law_top
    exact (ds_cons (ds_asg (i := 4) S.nd rfl (by first | exact Or.inl rfl | exact Or.inr rfl) (dv 2)) (ds_cons (ds_for (passes_of rfl) rfl (di_rng1 rfl T.m_range (da_cons (de_len T.m_len rfl (da_cons (dv 3) da_nil)) da_nil)) (dg_name (i := 5) S.nd rfl (by first | exact Or.inl rfl | exact Or.inr rfl)) (ds_one (ds_if (dt_cmp (op_eqP (hu64 hr)) sem_eq (de_op op_modN sem_mod (de_toInt T.m_int rfl (da_cons (de_op op_shr sem_shr (dv 1) (dv 5)) da_nil)) de_int) de_int (nomark _)) (ds_one (ds_asg (i := 4) S.nd rfl (by first | exact Or.inl rfl | exact Or.inr rfl) (de_c h__law_mark (L2N.takes_of rfl rfl rfl rfl) (hr.mono (by decide)) rfl (da_cons (dv 0) (da_cons (de_ix (hu64 hr) (dv 3) (dv 5)) (da_cons (dv 4) da_nil)))))) (ds_one (ds_asg (i := 4) S.nd rfl (by first | exact Or.inl rfl | exact Or.inr rfl) (de_c h__law_mark (L2N.takes_of rfl rfl rfl rfl) (hr.mono (by decide)) rfl (da_cons (dv 0) (da_cons (dv 4) (da_cons (de_ix (hu64 hr) (dv 3) (dv 5)) da_nil))))))))) (ds_one (ds_ret (dv 4)))))
/-! ### _law_truth -/
abbrev nm__law_truth : List Str := ["told", "due"]
theorem sc__law_truth : FnScope nm__law_truth ["told", "due"] (defScope (top 38)) := ⟨rfl, rfl, rfl, by decide +kernel, rfl, by decide +kernel, by decide +kernel⟩
noncomputable def fb__law_truth : SS := sRet (eAnd (eCB gIsi (aCons (eVar 0) (aCons (eC (.ty "bool")) (aNil)))) (eBin gEq (eVar 0) (eVar 1)))
noncomputable def fd__law_truth : FD := fD 2 2 fb__law_truth
theorem ok__law_truth {P : Program} {w : World} {K : PySem.W.Frag} {mg : Str → Option Value} {base : Heap} {f : Addr} {fd : FuncData} {x qual : Str} (T : Tx P w K mg base)    (F : Fun K x qual (top 38) f fd) : FnOk P w K mg base (L2N.CX P w) 1 f fd ["told", "due"] (spD K mg fd__law_truth) :=
  fn_ok (N := nm__law_truth) (ps := ["told", "due"]) (g := fb__law_truth) F sc__law_truth fun cdv A outer s H E hr => by
    have S := sc__law_truth
    exact (ds_one (ds_ret (de_and (de_isi T.m_isinstance rfl (da_cons (dv 0) (da_cons (de_bbool T.m_bool rfl) da_nil))) (de_one (de_cmp (op_eqP (hu64 hr)) sem_eq (dv 0) (dv 1) (nomark _))))))
/-! ### _law_wrong -/
abbrev nm__law_wrong : List Str := ["world", "place", "one", "other", "part", "e"]
theorem sc__law_wrong : FnScope nm__law_wrong ["world", "place", "one", "other", "part"] (defScope (top 51)) := ⟨rfl, rfl, rfl, by decide +kernel, rfl, by decide +kernel, by decide +kernel⟩
noncomputable def hd__law_wrong_0 : HdD := { test := tst tl_InvalidPaper, at_ := some 5, suite := fun a dx k => sSeq (sIf (bOr (bNot (bV (eIsE a dx k 5 ts_ValueError))) (bV (eIsE a dx k 5 ts_Undefined))) (sRet (eC (.bl false))) (sNext)) (sRet (eAnd (eCB gIsi (aCons (eFld a dx 5 "part") (aCons (eC (.ty "str")) (aNil)))) (eAnd (eBin gEq (eFld a dx 5 "part") (eVar 4)) (eCall fd__law_number (aCons (eFld a dx 5 "place") (aCons (eC (.int 0)) (aNil))))))) }
noncomputable def fb__law_wrong : SS := sSeq (sTry (sDrop (eCall fd_same_marks (aCons (eBin gIx (eVar 0) (eC (.str "key"))) (aCons (eBin gIx (eVar 0) (eC (.str "root"))) (aCons (eVar 1) (aCons (eVar 2) (aCons (eVar 3) (aNil)))))))) [hd__law_wrong_0]) (sRet (eC (.bl false)))
noncomputable def fd__law_wrong : FD := fD 5 6 fb__law_wrong
theorem ok__law_wrong {P : Program} {w : World} {K : PySem.W.Frag} {mg : Str → Option Value} {base : Heap} {f : Addr} {fd : FuncData} {x qual : Str} (T : Tx P w K mg base) (h_same_marks : FnK P w K mg base "same_marks" ["key", "root", "place", "one", "other"] 5 fd_same_marks)  (hh__law_number : FnKH P w K mg base "_law_number" ["told", "due"] 1 fd__law_number) (F : Fun K x qual (top 51) f fd) : FnOk P w K mg base (L2N.CX P w) 6 f fd ["world", "place", "one", "other", "part"] (spD K mg fd__law_wrong) :=
  fn_ok (N := nm__law_wrong) (ps := ["world", "place", "one", "other", "part"]) (g := fb__law_wrong) F sc__law_wrong fun cdv A outer s H E hr => by
    have S := sc__law_wrong
    obtain ⟨ci_Undefined, hi_Undefined⟩ := T.i_Undefined
    obtain ⟨c_InvalidPaper, hc_InvalidPaper⟩ := T.h_InvalidPaper
    exact (ds_cons (ds_try rfl rfl S.nd (L2N.takes_of rfl rfl rfl rfl) (fun W pn xe tk po => (ds_one (ds_expr (de_c h_same_marks tk (hr.mono (by decide)) rfl (da_cons (de_ix (hu64 hr) (dv 0) de_str) (da_cons (de_ix (hu64 hr) (dv 0) de_str) (da_cons (dv 1) (da_cons (dv 2) (da_cons (dv 3) da_nil))))))))) (HdsD.as (i := 5) (h := hd__law_wrong_0) ⟨rfl, by decide, Or.inl hc_InvalidPaper.1⟩ rfl rfl rfl (hd_tst hc_InvalidPaper.2) (fun a oe k C dx pn hk hq hz hf hot => by have Ec := T.e_InvalidPaper k C hk hq; have Tf := fun f hff C1 (e1 : Value.ref C = Value.ref C1) => (Value.ref.inj e1) ▸ T.t_hd__law_wrong_0 k C hk hq f hff; exact (ds_cons (ds_if (dt_w (dw_or (dt_not (dt_val (de_isE (i := 5) hz hf hk T.i_ValueError Ec rfl (Or.inl rfl) (by decide) (by decide) T.m_isinstance rfl (pe_bltn (v := .ty "ValueError") rfl T.m_ValueError b_ValueError rfl (by decide) (by decide)) (fun u r => r)))) (dw_or1 (dt_val (de_isE (i := 5) hz hf hk hi_Undefined.2 Ec rfl (Or.inl rfl) (by decide) (by decide) T.m_isinstance rfl (pe_glob (v := .ref ci_Undefined) rfl hi_Undefined.1 rfl) (fun u r => r)))))) (ds_one (ds_ret de_bl)) ds_nil) (ds_one (ds_ret (de_and (de_isi T.m_isinstance rfl (da_cons (de_fld hz hf (Tf "part" (by simp)) ⟨C, rfl⟩ (i := 5) rfl (Or.inl rfl) (by decide) (by decide)) (da_cons (de_bstr T.m_str rfl) da_nil))) (de_and (de_cmp (op_eqP (hu64H (L2H.roomH_mark hr _))) sem_eq (de_fld hz hf (Tf "part" (by simp)) ⟨C, rfl⟩ (i := 5) rfl (Or.inl rfl) (by decide) (by decide)) (dv 4) (nomark _)) (de_one (de_cH hh__law_number hot DL.takes0 ((L2H.roomH_mark hr _).mono (by decide)) rfl (da_cons (de_fld hz hf (Tf "place" (by simp)) ⟨C, rfl⟩ (i := 5) rfl (Or.inl rfl) (by decide) (by decide)) (da_cons de_int da_nil)))))))))) HdsD.nil)) (ds_one (ds_ret de_bl)))
/-! ### check_leaves -/
abbrev nm_check_leaves : List Str := ["key", "leaves"]
theorem sc_check_leaves : FnScope nm_check_leaves ["key", "leaves"] (defScope (top 18)) := ⟨rfl, rfl, rfl, by decide +kernel, rfl, by decide +kernel, by decide +kernel⟩
noncomputable def fb_check_leaves : SS := sSeq (sDrop (eCall fd_check_numbers (aCons (eVar 0) (aCons (eTup (aNil)) (aNil))))) (sIf (bOr (bNot (bV (eCall fd_are_below (aCons (eVar 0) (aCons (eVar 1) (aNil)))))) (bV (eBin gNotIn (eCB gLen1 (aCons (eVar 1) (aNil))) (eC K_LEAF_NUMBERS)))) (sRaise "InvalidList" ["value"] (aCons (eVar 1) (aNil))) (sNext))
noncomputable def fd_check_leaves : FD := fD 2 2 fb_check_leaves
theorem ok_check_leaves {P : Program} {w : World} {K : PySem.W.Frag} {mg : Str → Option Value} {base : Heap} {f : Addr} {fd : FuncData} {x qual : Str} (T : Tx P w K mg base) (h_are_below : FnK P w K mg base "are_below" ["key", "value"] 2 fd_are_below) (h_check_numbers : FnK P w K mg base "check_numbers" ["key", "numbers"] 4 fd_check_numbers)   (F : Fun K x qual (top 18) f fd) : FnOk P w K mg base (L2N.CX P w) 5 f fd ["key", "leaves"] (spD K mg fd_check_leaves) :=
  fn_ok (N := nm_check_leaves) (ps := ["key", "leaves"]) (g := fb_check_leaves) F sc_check_leaves fun cdv A outer s H E hr => by
    have S := sc_check_leaves
    exact (ds_cons (ds_expr (de_c h_check_numbers (L2N.takes_of rfl rfl rfl rfl) (hr.mono (by decide)) rfl (da_cons (dv 0) (da_cons (de_tup da_nil) da_nil)))) (ds_one (ds_if (dt_w (dw_or (dt_not (dt_val (de_c h_are_below (L2N.takes_of rfl rfl rfl rfl) (hr.mono (by decide)) rfl (da_cons (dv 0) (da_cons (dv 1) da_nil))))) (dw_or1 (dt_cmp (op_notInP (hu64 hr)) sem_notIn (de_len T.m_len rfl (da_cons (dv 1) da_nil)) (de_const T.c_LEAF_NUMBERS rfl) rfl)))) (ds_one (ds_r1 T.x_InvalidList rfl (L2N.takes_of rfl rfl rfl rfl) (hr.mono (by decide)) rfl (da_cons (dv 1) da_nil))) ds_nil)))
/-! ### reached_next -/
abbrev nm_reached_next : List Str := ["key", "reached", "bit", "further", "number", "path", "member", "mark"]
theorem sc_reached_next : FnScope nm_reached_next ["key", "reached", "bit"] (defScope (top 32)) := ⟨rfl, rfl, rfl, by decide +kernel, rfl, by decide +kernel, by decide +kernel⟩
noncomputable def B_reached_next_1 : SS := sSeq (sIf (bV (eBin gEq (eVar 2) (eC (.int 0)))) (sAsg 7 (eCall fd_made_mark (aCons (eVar 0) (aCons (eVar 4) (aCons (eVar 6) (aNil)))))) (sAsg 7 (eCall fd_made_mark (aCons (eVar 0) (aCons (eVar 6) (aCons (eVar 4) (aNil))))))) (sIf (bV (eBin gNotIn (eVar 7) (eVar 3))) (sPut 3 (eVar 7) (eBin gAdd (eVar 5) (eTup (aCons (eVar 6) (aNil))))) (sNext))
noncomputable def B_reached_next_2 : SS := sFor (iRng1 (aCons (eBin gIx (eVar 0) (eC (.int 0))) (aNil))) (tgN 6) (B_reached_next_1)
noncomputable def fb_reached_next : SS := sSeq (sNew 3 (nDict)) (sSeq (sFrz [3] (sItems 1 (tgTup 2 (tgCons (tgN 4) (tgCons (tgN 5) (tgNil)))) (B_reached_next_2))) (sRet (eVar 3)))
noncomputable def fd_reached_next : FD := fD 3 8 fb_reached_next
theorem ok_reached_next {P : Program} {w : World} {K : PySem.W.Frag} {mg : Str → Option Value} {base : Heap} {f : Addr} {fd : FuncData} {x qual : Str} (T : Tx P w K mg base) (h_made_mark : FnK P w K mg base "made_mark" ["key", "x", "y"] 1 fd_made_mark)   (F : Fun K x qual (top 32) f fd) : FnOk P w K mg base (L2N.CX P w) 2 f fd ["key", "reached", "bit"] (spD K mg fd_reached_next) :=
  fn_ok (N := nm_reached_next) (ps := ["key", "reached", "bit"]) (g := fb_reached_next) F sc_reached_next fun cdv A outer s H E hr => by
    have S := sc_reached_next
    exact (ds_cons (ds_new (i := 3) S.nd rfl (by first | exact Or.inl rfl | exact Or.inr rfl) dn_dict) (ds_cons (ds_frz (is := [3]) (ds_items (passes_of rfl) rfl (pv 1) (dg_tup rfl (dgs_cons (dg_name (i := 4) S.nd rfl (by first | exact Or.inl rfl | exact Or.inr rfl)) (dgs_cons (dg_name (i := 5) S.nd rfl (by first | exact Or.inl rfl | exact Or.inr rfl)) dgs_nil))) (ds_one (ds_for (passes_of rfl) rfl (di_rng1 rfl T.m_range (da_cons (de_ix (hu64 hr) (dv 0) de_int) da_nil)) (dg_name (i := 6) S.nd rfl (by first | exact Or.inl rfl | exact Or.inr rfl)) (ds_cons (ds_if (dt_cmp (op_eqP (hu64 hr)) sem_eq (dv 2) de_int (nomark _)) (ds_one (ds_asg (i := 7) S.nd rfl (by first | exact Or.inl rfl | exact Or.inr rfl) (de_c h_made_mark (L2N.takes_of rfl rfl rfl rfl) (hr.mono (by decide)) rfl (da_cons (dv 0) (da_cons (dv 4) (da_cons (dv 6) da_nil)))))) (ds_one (ds_asg (i := 7) S.nd rfl (by first | exact Or.inl rfl | exact Or.inr rfl) (de_c h_made_mark (L2N.takes_of rfl rfl rfl rfl) (hr.mono (by decide)) rfl (da_cons (dv 0) (da_cons (dv 6) (da_cons (dv 4) da_nil))))))) (ds_one (ds_if (dt_cmp (op_notInP (hu64 hr)) sem_notIn (dv 7) (dv 3) rfl) (ds_one (ds_put (hu1 hr) (pv 3) (dv 7) (de_op op_addA sem_add (dv 5) (de_tup (da_cons (dv 6) da_nil))))) ds_nil))))))) (ds_one (ds_ret (dv 3)))))
/-! ### rows_up -/
abbrev nm_rows_up : List Str := ["key", "leaves", "rows", "row", "k"]
theorem sc_rows_up : FnScope nm_rows_up ["key", "leaves"] (defScope (top 21)) := ⟨rfl, rfl, rfl, by decide +kernel, rfl, by decide +kernel, by decide +kernel⟩
noncomputable def L_rows_up_1 : SE := eCall fd_made_mark (aCons (eVar 0) (aCons (eBin gIx (eVar 3) (eVar 4)) (aCons (eBin gIx (eVar 3) (eBin gAdd (eVar 4) (eC (.int 1)))) (aNil))))
noncomputable def B_rows_up_1 : SS := sSeq (sAsg 3 (eBin gIx (eVar 2) (eUn (uI fun i => .int (-i)) (eC (.int 1))))) (sApp 2 (eCB gTup1 (aCons (eN (nLc (iRng3 (aCons (eC (.int 0)) (aCons (eCB gLen1 (aCons (eVar 3) (aNil))) (aCons (eC (.int 2)) (aNil))))) [4] (tgN 4) (bTrue) (L_rows_up_1))) (aNil))))
noncomputable def T_rows_up_1 : SB := bV (eBin gGt (eCB gLen1 (aCons (eBin gIx (eVar 2) (eUn (uI fun i => .int (-i)) (eC (.int 1)))) (aNil))) (eC (.int 1)))
noncomputable def fb_rows_up : SS := sSeq (sNew 2 (nLst (aCons (eVar 1) (aNil)))) (sSeq (sFrz [2] (sWhile 1000 (T_rows_up_1) (B_rows_up_1))) (sRet (eVar 2)))
noncomputable def fd_rows_up : FD := fD 2 5 fb_rows_up
theorem ok_rows_up {P : Program} {w : World} {K : PySem.W.Frag} {mg : Str → Option Value} {base : Heap} {f : Addr} {fd : FuncData} {x qual : Str} (T : Tx P w K mg base) (h_made_mark : FnK P w K mg base "made_mark" ["key", "x", "y"] 1 fd_made_mark)   (F : Fun K x qual (top 21) f fd) : FnOk P w K mg base (L2N.CX P w) 2 f fd ["key", "leaves"] (spD K mg fd_rows_up) :=
  fn_ok (N := nm_rows_up) (ps := ["key", "leaves"]) (g := fb_rows_up) F sc_rows_up fun cdv A outer s H E hr => by
    have S := sc_rows_up
    exact (ds_cons (ds_new (i := 2) S.nd rfl (by first | exact Or.inl rfl | exact Or.inr rfl) (dn_lst (da_cons (dv 1) da_nil))) (ds_cons (ds_frz (is := [2]) (ds_while (n := 1000) (passes_of rfl) (dt_cmp op_gt sem_gt (de_len T.m_len rfl (da_cons (de_ix (hu64 hr) (dv 2) (de_un un_neg sem_neg de_int)) da_nil)) de_int (nomark _)) (ds_cons (ds_asg (i := 3) S.nd rfl (by first | exact Or.inl rfl | exact Or.inr rfl) (de_ix (hu64 hr) (dv 2) (de_un un_neg sem_neg de_int))) (ds_one (ds_app (pv 2) (de_tuple T.m_tuple rfl (da_cons (de_n (dn_lc (own := [("k", 4)]) (tgs := [4]) rfl S.nd (di_rng3 rfl T.m_range (da_cons de_int (da_cons (de_len T.m_len rfl (da_cons (dv 3) da_nil)) (da_cons de_int da_nil)))) (blkOk_by (own := [("k", 4)]) (N := nm_rows_up) (sc := defScope (top 21)) (by decide +kernel)) (by decide) (fun _ _ _ _ _ => by exact (dg_name (i := 4) S.nd rfl (by first | exact Or.inl rfl | exact Or.inr rfl))) (fun _ _ _ _ _ => by exact dts_nil) (fun _ _ _ _ _ => by exact (de_c h_made_mark DL.takes0 (hr.mono (by decide)) rfl (da_cons (dv 0) (da_cons (de_ix (hu64 hr) (dv 3) (dv 4)) (da_cons (de_ix (hu64 hr) (dv 3) (de_op op_addA sem_add (dv 4) de_int)) da_nil))))))) da_nil))))))) (ds_one (ds_ret (dv 2)))))
/-! ### forged -/
abbrev nm_forged : List Str := ["key", "leaves", "place", "leaf", "rows", "reached", "step", "root"]
theorem sc_forged : FnScope nm_forged ["key", "leaves", "place", "leaf"] (defScope (top 31)) := ⟨rfl, rfl, rfl, by decide +kernel, rfl, by decide +kernel, by decide +kernel⟩
noncomputable def B_forged_1 : SS := sAsg 5 (eCall fd_reached_next (aCons (eVar 0) (aCons (eVar 5) (aCons (eBin gAnd (eBin gShr (eVar 2) (eVar 6)) (eC (.int 1))) (aNil)))))
noncomputable def fb_forged : SS := sSeq (sDrop (eCall fd_check_leaves (aCons (eVar 0) (aCons (eVar 1) (aNil))))) (sSeq (sIf (bNot (bV (eCall fd_is_below (aCons (eVar 2) (aCons (eCB gLen1 (aCons (eVar 1) (aNil))) (aNil)))))) (sRaise "InvalidNumber" ["value"] (aCons (eVar 2) (aNil))) (sNext)) (sSeq (sIf (bOr (bNot (bV (eCall fd_is_below (aCons (eVar 3) (aCons (eBin gIx (eVar 0) (eC (.int 0))) (aNil)))))) (bV (eBin gEq (eVar 3) (eBin gIx (eVar 1) (eVar 2))))) (sRaise "InvalidNumber" ["value"] (aCons (eVar 3) (aNil))) (sNext)) (sSeq (sAsg 4 (eCall fd_rows_up (aCons (eVar 0) (aCons (eVar 1) (aNil))))) (sSeq (sAsg 5 (eN (nDict1 (eVar 3) (eTup (aNil))))) (sSeq (sFor (iRng1 (aCons (eBin DL.gSub (eCB gLen1 (aCons (eVar 4) (aNil))) (eC (.int 1))) (aNil))) (tgN 6) (B_forged_1)) (sSeq (sAsg 7 (eBin gIx (eBin gIx (eVar 4) (eUn (uI fun i => .int (-i)) (eC (.int 1)))) (eC (.int 0)))) (sSeq (sIf (bV (eBin gNotIn (eVar 7) (eVar 5))) (sRaise "Undefined" ["what"] (aCons (eC (.str "path")) (aNil))) (sNext)) (sRet (eBin gIx (eVar 5) (eVar 7))))))))))
noncomputable def fd_forged : FD := fD 4 8 fb_forged
theorem ok_forged {P : Program} {w : World} {K : PySem.W.Frag} {mg : Str → Option Value} {base : Heap} {f : Addr} {fd : FuncData} {x qual : Str} (T : Tx P w K mg base) (h_check_leaves : FnK P w K mg base "check_leaves" ["key", "leaves"] 5 fd_check_leaves) (h_is_below : FnK P w K mg base "is_below" ["value", "bound"] 1 fd_is_below) (h_reached_next : FnK P w K mg base "reached_next" ["key", "reached", "bit"] 2 fd_reached_next) (h_rows_up : FnK P w K mg base "rows_up" ["key", "leaves"] 2 fd_rows_up)   (F : Fun K x qual (top 31) f fd) : FnOk P w K mg base (L2N.CX P w) 6 f fd ["key", "leaves", "place", "leaf"] (spD K mg fd_forged) :=
  fn_ok (N := nm_forged) (ps := ["key", "leaves", "place", "leaf"]) (g := fb_forged) F sc_forged fun cdv A outer s H E hr => by
    have S := sc_forged
    exact (ds_cons (ds_expr (de_c h_check_leaves (L2N.takes_of rfl rfl rfl rfl) (hr.mono (by decide)) rfl (da_cons (dv 0) (da_cons (dv 1) da_nil)))) (ds_cons (ds_if (dt_not (dt_val (de_c h_is_below (L2N.takes_of rfl rfl rfl rfl) (hr.mono (by decide)) rfl (da_cons (dv 2) (da_cons (de_len T.m_len rfl (da_cons (dv 1) da_nil)) da_nil))))) (ds_one (ds_r1 T.x_InvalidNumber rfl (L2N.takes_of rfl rfl rfl rfl) (hr.mono (by decide)) rfl (da_cons (dv 2) da_nil))) ds_nil) (ds_cons (ds_if (dt_w (dw_or (dt_not (dt_val (de_c h_is_below (L2N.takes_of rfl rfl rfl rfl) (hr.mono (by decide)) rfl (da_cons (dv 3) (da_cons (de_ix (hu64 hr) (dv 0) de_int) da_nil))))) (dw_or1 (dt_cmp (op_eqP (hu64 hr)) sem_eq (dv 3) (de_ix (hu64 hr) (dv 1) (dv 2)) (nomark _))))) (ds_one (ds_r1 T.x_InvalidNumber rfl (L2N.takes_of rfl rfl rfl rfl) (hr.mono (by decide)) rfl (da_cons (dv 3) da_nil))) ds_nil) (ds_cons (ds_asg (i := 4) S.nd rfl (by first | exact Or.inl rfl | exact Or.inr rfl) (de_c h_rows_up (L2N.takes_of rfl rfl rfl rfl) (hr.mono (by decide)) rfl (da_cons (dv 0) (da_cons (dv 1) da_nil)))) (ds_cons (ds_asg (i := 5) S.nd rfl (by first | exact Or.inl rfl | exact Or.inr rfl) (de_n (dn_dict1 (dv 3) (de_tup da_nil)))) (ds_cons (ds_for (passes_of rfl) rfl (di_rng1 rfl T.m_range (da_cons (de_op op_sub sem_sub (de_len T.m_len rfl (da_cons (dv 4) da_nil)) de_int) da_nil)) (dg_name (i := 6) S.nd rfl (by first | exact Or.inl rfl | exact Or.inr rfl)) (ds_one (ds_asg (i := 5) S.nd rfl (by first | exact Or.inl rfl | exact Or.inr rfl) (de_c h_reached_next (L2N.takes_of rfl rfl rfl rfl) (hr.mono (by decide)) rfl (da_cons (dv 0) (da_cons (dv 5) (da_cons (de_op op_and sem_and (de_op op_shr sem_shr (dv 2) (dv 6)) de_int) da_nil))))))) (ds_cons (ds_asg (i := 7) S.nd rfl (by first | exact Or.inl rfl | exact Or.inr rfl) (de_ix (hu64 hr) (de_ix (hu64 hr) (dv 4) (de_un un_neg sem_neg de_int)) de_int)) (ds_cons (ds_if (dt_cmp (op_notInP (hu64 hr)) sem_notIn (dv 7) (dv 5) rfl) (ds_one (ds_r1 T.x_Undefined rfl (L2N.takes_of rfl rfl rfl rfl) (hr.mono (by decide)) rfl (da_cons de_str da_nil))) ds_nil) (ds_one (ds_ret (de_ix (hu64 hr) (dv 5) (dv 7))))))))))))
/-! ### is_path -/
abbrev nm_is_path : List Str := ["key", "root", "place", "leaf", "path"]
theorem sc_is_path : FnScope nm_is_path ["key", "root", "place", "leaf", "path"] (defScope (top 27)) := ⟨rfl, rfl, rfl, by decide +kernel, rfl, by decide +kernel, by decide +kernel⟩
noncomputable def fb_is_path : SS := sSeq (sDrop (eCall fd_check_numbers (aCons (eVar 0) (aCons (eTup (aCons (eVar 1) (aNil))) (aNil))))) (sSeq (sDrop (eCall fd_check_place (aCons (eVar 2) (aNil)))) (sSeq (sDrop (eCall fd_check_numbers (aCons (eVar 0) (aCons (eTup (aCons (eVar 3) (aNil))) (aNil))))) (sSeq (sIf (bNot (bV (eCall fd_are_below (aCons (eVar 0) (aCons (eVar 4) (aNil)))))) (sRaise "InvalidList" ["value"] (aCons (eVar 4) (aNil))) (sNext)) (sRet (eCall fd_leads_to (aCons (eVar 0) (aCons (eVar 1) (aCons (eVar 2) (aCons (eVar 3) (aCons (eVar 4) (aNil)))))))))))
noncomputable def fd_is_path : FD := fD 5 5 fb_is_path
theorem ok_is_path {P : Program} {w : World} {K : PySem.W.Frag} {mg : Str → Option Value} {base : Heap} {f : Addr} {fd : FuncData} {x qual : Str} (T : Tx P w K mg base) (h_are_below : FnK P w K mg base "are_below" ["key", "value"] 2 fd_are_below) (h_check_numbers : FnK P w K mg base "check_numbers" ["key", "numbers"] 4 fd_check_numbers) (h_check_place : FnK P w K mg base "check_place" ["place"] 3 fd_check_place) (h_leads_to : FnK P w K mg base "leads_to" ["key", "root", "place", "leaf", "path"] 3 fd_leads_to)   (F : Fun K x qual (top 27) f fd) : FnOk P w K mg base (L2N.CX P w) 5 f fd ["key", "root", "place", "leaf", "path"] (spD K mg fd_is_path) :=
  fn_ok (N := nm_is_path) (ps := ["key", "root", "place", "leaf", "path"]) (g := fb_is_path) F sc_is_path fun cdv A outer s H E hr => by
    have S := sc_is_path
    exact (ds_cons (ds_expr (de_c h_check_numbers (L2N.takes_of rfl rfl rfl rfl) (hr.mono (by decide)) rfl (da_cons (dv 0) (da_cons (de_tup (da_cons (dv 1) da_nil)) da_nil)))) (ds_cons (ds_expr (de_c h_check_place (L2N.takes_of rfl rfl rfl rfl) (hr.mono (by decide)) rfl (da_cons (dv 2) da_nil))) (ds_cons (ds_expr (de_c h_check_numbers (L2N.takes_of rfl rfl rfl rfl) (hr.mono (by decide)) rfl (da_cons (dv 0) (da_cons (de_tup (da_cons (dv 3) da_nil)) da_nil)))) (ds_cons (ds_if (dt_not (dt_val (de_c h_are_below (L2N.takes_of rfl rfl rfl rfl) (hr.mono (by decide)) rfl (da_cons (dv 0) (da_cons (dv 4) da_nil))))) (ds_one (ds_r1 T.x_InvalidList rfl (L2N.takes_of rfl rfl rfl rfl) (hr.mono (by decide)) rfl (da_cons (dv 4) da_nil))) ds_nil) (ds_one (ds_ret (de_c h_leads_to (L2N.takes_of rfl rfl rfl rfl) (hr.mono (by decide)) rfl (da_cons (dv 0) (da_cons (dv 1) (da_cons (dv 2) (da_cons (dv 3) (da_cons (dv 4) da_nil))))))))))))
/-! ### _law_forged -/
abbrev nm__law_forged : List Str := ["state", "world", "place", "leaf", "key", "high", "can", "own", "told", "e", "one", "path"]
theorem sc__law_forged : FnScope nm__law_forged ["state", "world", "place", "leaf"] (defScope (top 52)) := ⟨rfl, rfl, rfl, by decide +kernel, rfl, by decide +kernel, by decide +kernel⟩
noncomputable def B__law_forged_1 : SS := sIf (bOr (bNot (bV (eCB gIsi (aCons (eVar 10) (aCons (eC (.ty "int")) (aNil)))))) (bOr (bV (eCB gIsi (aCons (eVar 10) (aCons (eC (.ty "bool")) (aNil))))) (bOr (bV (eBin gLtA (eVar 10) (eC (.int 0)))) (bV (eBin gGe (eVar 10) (eBin gIx (eVar 4) (eC (.int 0)))))))) (sRet (eC (.bl false))) (sNext)
noncomputable def L__law_forged_1 : SE := eBin gAdd (eVar 10) (eC (.int 0))
noncomputable def hd__law_forged_0 : HdD := { test := tst tl_Undefined, at_ := some 9, suite := fun a dx k => sRet (eAnd (eNot (eVar 6)) (eAnd (eIsE a dx k 9 ts_ValueError) (eAnd (eNot (eIsE a dx k 9 ts_InvalidPaper)) (eBin gEq (eFld a dx 9 "what") (eC (.str "path")))))) }
noncomputable def fb__law_forged : SS := sSeq (sAsg 4 (eBin gIx (eVar 1) (eC (.str "key")))) (sSeq (sAsg 5 (eBin gIx (eVar 1) (eC (.str "high")))) (sSeq (sAsg 6 (eBin gEq (eBin gIx (eCall fd__law_reached (aCons (eVar 4) (aCons (eVar 2) (aCons (eVar 3) (aCons (eVar 5) (aNil)))))) (eBin gIx (eVar 1) (eC (.str "root")))) (eC (.int 1)))) (sSeq (sAsg 7 (eTup (aCons (eBin gIx (eBin gIx (eVar 1) (eC (.str "leaves"))) (eVar 2)) (aCons (eCall fd__law_path (aCons (eVar 1) (aCons (eVar 2) (aNil)))) (aNil))))) (sSeq (sTry (sAsg 8 (eCall fd_forged (aCons (eVar 4) (aCons (eBin gIx (eVar 1) (eC (.str "leaves"))) (aCons (eVar 2) (aCons (eVar 3) (aNil))))))) [hd__law_forged_0]) (sSeq (sIf (bOr (bNot (bTr (eVar 6))) (bOr (bNot (bV (eCB gIsi (aCons (eVar 8) (aCons (eC (.ty "tuple")) (aNil)))))) (bV (eBin gNe (eCB gLen1 (aCons (eVar 8) (aNil))) (eVar 5))))) (sRet (eC (.bl false))) (sNext)) (sSeq (sFor (iSeq (eVar 8)) (tgN 10) (B__law_forged_1)) (sSeq (sIf (bV (eBin gNe (eCall fd__law_top (aCons (eVar 4) (aCons (eVar 2) (aCons (eVar 3) (aCons (eVar 8) (aNil)))))) (eBin gIx (eVar 1) (eC (.str "root"))))) (sRet (eC (.bl false))) (sNext)) (sSeq (sAsg 11 (eCB gTup1 (aCons (eN (nLc (iSeq (eVar 8)) [10] (tgN 10) (bTrue) (L__law_forged_1))) (aNil)))) (sSeq (sIf (bNot (bV (eCall fd__law_truth (aCons (eCall fd_is_path (aCons (eVar 4) (aCons (eBin gIx (eVar 1) (eC (.str "root"))) (aCons (eVar 2) (aCons (eVar 3) (aCons (eVar 11) (aNil))))))) (aCons (eC (.bl true)) (aNil)))))) (sRet (eC (.bl false))) (sNext)) (sSeq (sIf (bNot (bV (eCall fd__law_wrong (aCons (eVar 1) (aCons (eVar 2) (aCons (eTup (aCons (eVar 3) (aCons (eVar 11) (aNil)))) (aCons (eTup (aCons (eVar 3) (aCons (eVar 11) (aNil)))) (aCons (eC (.str "other")) (aNil))))))))) (sRet (eC (.bl false))) (sNext)) (sRet (eCall fd__law_same (aCons (eVar 1) (aCons (eVar 2) (aCons (eVar 7) (aCons (eTup (aCons (eVar 3) (aCons (eVar 11) (aNil)))) (aNil)))))))))))))))))
noncomputable def fd__law_forged : FD := fD 4 12 fb__law_forged
theorem ok__law_forged {P : Program} {w : World} {K : PySem.W.Frag} {mg : Str → Option Value} {base : Heap} {f : Addr} {fd : FuncData} {x qual : Str} (T : Tx P w K mg base) (h__law_path : FnK P w K mg base "_law_path" ["world", "place"] 1 fd__law_path) (h__law_reached : FnK P w K mg base "_law_reached" ["key", "place", "leaf", "high"] 2 fd__law_reached) (h__law_same : FnK P w K mg base "_law_same" ["world", "place", "one", "other"] 6 fd__law_same) (h__law_top : FnK P w K mg base "_law_top" ["key", "place", "leaf", "path"] 2 fd__law_top) (h__law_truth : FnK P w K mg base "_law_truth" ["told", "due"] 1 fd__law_truth) (h__law_wrong : FnK P w K mg base "_law_wrong" ["world", "place", "one", "other", "part"] 6 fd__law_wrong) (h_is_path : FnK P w K mg base "is_path" ["key", "root", "place", "leaf", "path"] 5 fd_is_path) (hk_forged : FnKw P w K mg base "forged" ["key", "leaves", "place", "leaf"] 6 fd_forged)  (F : Fun K x qual (top 52) f fd) : FnOk P w K mg base (L2N.CX P w) 7 f fd ["state", "world", "place", "leaf"] (spD K mg fd__law_forged) :=
  fn_ok (N := nm__law_forged) (ps := ["state", "world", "place", "leaf"]) (g := fb__law_forged) F sc__law_forged fun cdv A outer s H E hr => by
    have S := sc__law_forged
    obtain ⟨ci_InvalidPaper, hi_InvalidPaper⟩ := T.i_InvalidPaper
    obtain ⟨c_Undefined, hc_Undefined⟩ := T.h_Undefined
    exact (ds_cons (ds_asg (i := 4) S.nd rfl (by first | exact Or.inl rfl | exact Or.inr rfl) (de_ix (hu64 hr) (dv 1) de_str)) (ds_cons (ds_asg (i := 5) S.nd rfl (by first | exact Or.inl rfl | exact Or.inr rfl) (de_ix (hu64 hr) (dv 1) de_str)) (ds_cons (ds_asg (i := 6) S.nd rfl (by first | exact Or.inl rfl | exact Or.inr rfl) (de_cmp (op_eqP (hu64 hr)) sem_eq (de_ix (hu64 hr) (de_c h__law_reached (L2N.takes_of rfl rfl rfl rfl) (hr.mono (by decide)) rfl (da_cons (dv 4) (da_cons (dv 2) (da_cons (dv 3) (da_cons (dv 5) da_nil))))) (de_ix (hu64 hr) (dv 1) de_str)) de_int (nomark _))) (ds_cons (ds_asg (i := 7) S.nd rfl (by first | exact Or.inl rfl | exact Or.inr rfl) (de_tup (da_cons (de_ix (hu64 hr) (de_ix (hu64 hr) (dv 1) de_str) (dv 2)) (da_cons (de_c h__law_path (L2N.takes_of rfl rfl rfl rfl) (hr.mono (by decide)) rfl (da_cons (dv 1) (da_cons (dv 2) da_nil))) da_nil)))) (ds_cons (ds_try rfl rfl S.nd (L2N.takes_of rfl rfl rfl rfl) (fun W pn xe tk po => (ds_one (ds_asg (i := 8) S.nd rfl (by first | exact Or.inl rfl | exact Or.inr rfl) (de_ck hk_forged tk (hr.mono (by decide)) rfl (dk_cons (dv 4) (dk_cons (de_ix (hu64 hr) (dv 1) de_str) (dk_cons (dv 2) (dk_cons (dv 3) dk_nil)))))))) (HdsD.as (i := 9) (h := hd__law_forged_0) ⟨rfl, by decide, Or.inl hc_Undefined.1⟩ rfl rfl rfl (hd_tst hc_Undefined.2) (fun a oe k C dx pn hk hq hz hf hot => by have Ec := T.e_Undefined k C hk hq; have Tf := fun f hff C1 (e1 : Value.ref C = Value.ref C1) => (Value.ref.inj e1) ▸ T.t_hd__law_forged_0 k C hk hq f hff; exact (ds_one (ds_ret (de_and (de_not (dv 6)) (de_and (de_isE (i := 9) hz hf hk T.i_ValueError Ec rfl (Or.inl rfl) (by decide) (by decide) T.m_isinstance rfl (pe_bltn (v := .ty "ValueError") rfl T.m_ValueError b_ValueError rfl (by decide) (by decide)) (fun u r => r)) (de_and (de_not (de_isE (i := 9) hz hf hk hi_InvalidPaper.2 Ec rfl (Or.inl rfl) (by decide) (by decide) T.m_isinstance rfl (pe_glob (v := .ref ci_InvalidPaper) rfl hi_InvalidPaper.1 rfl) (fun u r => r))) (de_one (de_cmp (op_eqP (hu64H (L2H.roomH_mark hr _))) sem_eq (de_fld hz hf (Tf "what" (by simp)) ⟨C, rfl⟩ (i := 9) rfl (Or.inl rfl) (by decide) (by decide)) de_str (nomark _))))))))) HdsD.nil)) (ds_cons (ds_if (dt_w (dw_or (dt_not (dt_tru (dv 6))) (dw_or (dt_not (dt_val (de_isi T.m_isinstance rfl (da_cons (dv 8) (da_cons (de_btuple T.m_tuple rfl) da_nil))))) (dw_or1 (dt_cmp (op_neP (hu64 hr)) sem_ne (de_len T.m_len rfl (da_cons (dv 8) da_nil)) (dv 5) (nomark _)))))) (ds_one (ds_ret de_bl)) ds_nil) (ds_cons (ds_for (passes_of rfl) rfl (di_seq (dv 8)) (dg_name (i := 10) S.nd rfl (by first | exact Or.inl rfl | exact Or.inr rfl)) (ds_one (ds_if (dt_w (dw_or (dt_not (dt_val (de_isi T.m_isinstance rfl (da_cons (dv 10) (da_cons (de_bint T.m_int rfl) da_nil))))) (dw_or (dt_val (de_isi T.m_isinstance rfl (da_cons (dv 10) (da_cons (de_bbool T.m_bool rfl) da_nil)))) (dw_or (dt_cmp (op_ltA (hu64 hr)) sem_ltA (dv 10) de_int (nomark _)) (dw_or1 (dt_cmp op_ge sem_ge (dv 10) (de_ix (hu64 hr) (dv 4) de_int) (nomark _))))))) (ds_one (ds_ret de_bl)) ds_nil))) (ds_cons (ds_if (dt_cmp (op_neP (hu64 hr)) sem_ne (de_c h__law_top (L2N.takes_of rfl rfl rfl rfl) (hr.mono (by decide)) rfl (da_cons (dv 4) (da_cons (dv 2) (da_cons (dv 3) (da_cons (dv 8) da_nil))))) (de_ix (hu64 hr) (dv 1) de_str) (nomark _)) (ds_one (ds_ret de_bl)) ds_nil) (ds_cons (ds_asg (i := 11) S.nd rfl (by first | exact Or.inl rfl | exact Or.inr rfl) (de_tuple T.m_tuple rfl (da_cons (de_n (dn_lc (own := [("one", 10)]) (tgs := [10]) rfl S.nd (di_seq (dv 8)) (blkOk_by (own := [("one", 10)]) (N := nm__law_forged) (sc := defScope (top 52)) (by decide +kernel)) (by decide) (fun _ _ _ _ _ => by exact (dg_name (i := 10) S.nd rfl (by first | exact Or.inl rfl | exact Or.inr rfl))) (fun _ _ _ _ _ => by exact dts_nil) (fun _ _ _ _ _ => by exact (de_op op_addA sem_add (dv 10) de_int)))) da_nil))) (ds_cons (ds_if (dt_not (dt_val (de_c h__law_truth (L2N.takes_of rfl rfl rfl rfl) (hr.mono (by decide)) rfl (da_cons (de_c h_is_path (L2N.takes_of rfl rfl rfl rfl) (hr.mono (by decide)) rfl (da_cons (dv 4) (da_cons (de_ix (hu64 hr) (dv 1) de_str) (da_cons (dv 2) (da_cons (dv 3) (da_cons (dv 11) da_nil)))))) (da_cons de_bl da_nil))))) (ds_one (ds_ret de_bl)) ds_nil) (ds_cons (ds_if (dt_not (dt_val (de_c h__law_wrong (L2N.takes_of rfl rfl rfl rfl) (hr.mono (by decide)) rfl (da_cons (dv 1) (da_cons (dv 2) (da_cons (de_tup (da_cons (dv 3) (da_cons (dv 11) da_nil))) (da_cons (de_tup (da_cons (dv 3) (da_cons (dv 11) da_nil))) (da_cons de_str da_nil)))))))) (ds_one (ds_ret de_bl)) ds_nil) (ds_one (ds_ret (de_c h__law_same (L2N.takes_of rfl rfl rfl rfl) (hr.mono (by decide)) rfl (da_cons (dv 1) (da_cons (dv 2) (da_cons (dv 7) (da_cons (de_tup (da_cons (dv 3) (da_cons (dv 11) da_nil))) da_nil))))))))))))))))))
/-! ### _law_twin -/
abbrev nm__law_twin : List Str := ["world", "place", "m", "a", "b", "c", "path", "at", "below", "step", "part"]
theorem sc__law_twin : FnScope nm__law_twin ["world", "place"] (defScope (top 53)) := ⟨rfl, rfl, rfl, by decide +kernel, rfl, by decide +kernel, by decide +kernel⟩
noncomputable def fb__law_twin : SS := sSeq (sTgt (tgTup 4 (tgCons (tgN 2) (tgCons (tgN 3) (tgCons (tgN 4) (tgCons (tgN 5) (tgNil)))))) (eBin gIx (eVar 0) (eC (.str "key")))) (sSeq (sAsg 6 (eCall fd__law_path (aCons (eVar 0) (aCons (eVar 1) (aNil))))) (sSeq (sIf (bV (eBin gEq (eVar 6) (eTup (aNil)))) (sRet (eTup (aNil))) (sNext)) (sSeq (sAsg 7 (eBin DL.gSub (eCB gLen1 (aCons (eVar 6) (aNil))) (eC (.int 1)))) (sSeq (sAsg 8 (eCall fd__law_top (aCons (eBin gIx (eVar 0) (eC (.str "key"))) (aCons (eVar 1) (aCons (eBin gIx (eBin gIx (eVar 0) (eC (.str "leaves"))) (eVar 1)) (aCons (eSl (eVar 6) (oNone) (oSome (eVar 7))) (aNil))))))) (sSeq (sAsg 9 (eBin gAdd (eVar 4) (eBin gMul1 (eVar 5) (eVar 8)))) (sSeq (sIf (bV (eBin gEq (eBin gMod (eCB gInt (aCons (eBin gShr (eVar 1) (eVar 7)) (aNil))) (eC (.int 2))) (eC (.int 1)))) (sAsg 9 (eBin gAdd (eVar 3) (eBin gMul1 (eVar 5) (eVar 8)))) (sNext)) (sSeq (sAsg 10 (eCall fd__law_part (aCons (eBin gMod (eCB gInt (aCons (eVar 9) (aNil))) (eVar 2)) (aCons (eVar 2) (aNil))))) (sSeq (sIf (bV (eBin gEq (eVar 10) (eC (.int 1)))) (sRet (eTup (aNil))) (sNext)) (sRet (eBin gAdd (eSl (eVar 6) (oNone) (oSome (eVar 7))) (eTup (aCons (eBin gMod (eCB gInt (aCons (eBin gAdd (eBin gIx (eVar 6) (eVar 7)) (eBin gDiv (eVar 2) (eVar 10))) (aNil))) (eVar 2)) (aNil)))))))))))))
noncomputable def fd__law_twin : FD := fD 2 11 fb__law_twin
theorem ok__law_twin {P : Program} {w : World} {K : PySem.W.Frag} {mg : Str → Option Value} {base : Heap} {f : Addr} {fd : FuncData} {x qual : Str} (T : Tx P w K mg base) (h__law_part : FnK P w K mg base "_law_part" ["one", "other"] 1 fd__law_part) (h__law_path : FnK P w K mg base "_law_path" ["world", "place"] 1 fd__law_path) (h__law_top : FnK P w K mg base "_law_top" ["key", "place", "leaf", "path"] 2 fd__law_top)   (F : Fun K x qual (top 53) f fd) : FnOk P w K mg base (L2N.CX P w) 3 f fd ["world", "place"] (spD K mg fd__law_twin) :=
  fn_ok (N := nm__law_twin) (ps := ["world", "place"]) (g := fb__law_twin) F sc__law_twin fun cdv A outer s H E hr => by
    have S := sc__law_twin
    exact (ds_cons (ds_tgt (de_ix (hu64 hr) (dv 0) de_str) (dg_tup rfl (dgs_cons (dg_name (i := 2) S.nd rfl (by first | exact Or.inl rfl | exact Or.inr rfl)) (dgs_cons (dg_name (i := 3) S.nd rfl (by first | exact Or.inl rfl | exact Or.inr rfl)) (dgs_cons (dg_name (i := 4) S.nd rfl (by first | exact Or.inl rfl | exact Or.inr rfl)) (dgs_cons (dg_name (i := 5) S.nd rfl (by first | exact Or.inl rfl | exact Or.inr rfl)) dgs_nil)))))) (ds_cons (ds_asg (i := 6) S.nd rfl (by first | exact Or.inl rfl | exact Or.inr rfl) (de_c h__law_path (L2N.takes_of rfl rfl rfl rfl) (hr.mono (by decide)) rfl (da_cons (dv 0) (da_cons (dv 1) da_nil)))) (ds_cons (ds_if (dt_cmp (op_eqP (hu64 hr)) sem_eq (dv 6) (de_tup da_nil) (nomark _)) (ds_one (ds_ret (de_tup da_nil))) ds_nil) (ds_cons (ds_asg (i := 7) S.nd rfl (by first | exact Or.inl rfl | exact Or.inr rfl) (de_op op_sub sem_sub (de_len T.m_len rfl (da_cons (dv 6) da_nil)) de_int)) (ds_cons (ds_asg (i := 8) S.nd rfl (by first | exact Or.inl rfl | exact Or.inr rfl) (de_c h__law_top (L2N.takes_of rfl rfl rfl rfl) (hr.mono (by decide)) rfl (da_cons (de_ix (hu64 hr) (dv 0) de_str) (da_cons (dv 1) (da_cons (de_ix (hu64 hr) (de_ix (hu64 hr) (dv 0) de_str) (dv 1)) (da_cons (de_sl (dv 6) do_none (do_some (dv 7))) da_nil)))))) (ds_cons (ds_asg (i := 9) S.nd rfl (by first | exact Or.inl rfl | exact Or.inr rfl) (de_op op_addA sem_add (dv 4) (de_op op_mulA sem_mul (dv 5) (dv 8)))) (ds_cons (ds_if (dt_cmp (op_eqP (hu64 hr)) sem_eq (de_op op_modN sem_mod (de_toInt T.m_int rfl (da_cons (de_op op_shr sem_shr (dv 1) (dv 7)) da_nil)) de_int) de_int (nomark _)) (ds_one (ds_asg (i := 9) S.nd rfl (by first | exact Or.inl rfl | exact Or.inr rfl) (de_op op_addA sem_add (dv 3) (de_op op_mulA sem_mul (dv 5) (dv 8))))) ds_nil) (ds_cons (ds_asg (i := 10) S.nd rfl (by first | exact Or.inl rfl | exact Or.inr rfl) (de_c h__law_part (L2N.takes_of rfl rfl rfl rfl) (hr.mono (by decide)) rfl (da_cons (de_op op_modN sem_mod (de_toInt T.m_int rfl (da_cons (dv 9) da_nil)) (dv 2)) (da_cons (dv 2) da_nil)))) (ds_cons (ds_if (dt_cmp (op_eqP (hu64 hr)) sem_eq (dv 10) de_int (nomark _)) (ds_one (ds_ret (de_tup da_nil))) ds_nil) (ds_one (ds_ret (de_op op_addA sem_add (de_sl (dv 6) do_none (do_some (dv 7))) (de_tup (da_cons (de_op op_modN sem_mod (de_toInt T.m_int rfl (da_cons (de_op op_addA sem_add (de_ix (hu64 hr) (dv 6) (dv 7)) (de_op op_fdivN sem_div (dv 2) (dv 10))) da_nil)) (dv 2)) da_nil))))))))))))))
/-! ### path_of -/
abbrev nm_path_of : List Str := ["key", "leaves", "place", "path", "at", "row"]
theorem sc_path_of : FnScope nm_path_of ["key", "leaves", "place"] (defScope (top 23)) := ⟨rfl, rfl, rfl, by decide +kernel, rfl, by decide +kernel, by decide +kernel⟩
noncomputable def B_path_of_1 : SS := sSeq (sApp 3 (eBin gIx (eVar 5) (eBin gXor (eVar 4) (eC (.int 1))))) (sAsg 4 (eBin gDiv (eVar 4) (eC (.int 2))))
noncomputable def fb_path_of : SS := sSeq (sDrop (eCall fd_check_leaves (aCons (eVar 0) (aCons (eVar 1) (aNil))))) (sSeq (sIf (bNot (bV (eCall fd_is_below (aCons (eVar 2) (aCons (eCB gLen1 (aCons (eVar 1) (aNil))) (aNil)))))) (sRaise "InvalidNumber" ["value"] (aCons (eVar 2) (aNil))) (sNext)) (sSeq (sNew 3 (nLst (aNil))) (sSeq (sAsg 4 (eVar 2)) (sSeq (sFrz [3] (sFor (iSeq (eSl (eCall fd_rows_up (aCons (eVar 0) (aCons (eVar 1) (aNil)))) (oNone) (oSome (eUn (uI fun i => .int (-i)) (eC (.int 1)))))) (tgN 5) (B_path_of_1))) (sRet (eCB gTup1 (aCons (eVar 3) (aNil))))))))
noncomputable def fd_path_of : FD := fD 3 6 fb_path_of
theorem ok_path_of {P : Program} {w : World} {K : PySem.W.Frag} {mg : Str → Option Value} {base : Heap} {f : Addr} {fd : FuncData} {x qual : Str} (T : Tx P w K mg base) (h_check_leaves : FnK P w K mg base "check_leaves" ["key", "leaves"] 5 fd_check_leaves) (h_is_below : FnK P w K mg base "is_below" ["value", "bound"] 1 fd_is_below) (h_rows_up : FnK P w K mg base "rows_up" ["key", "leaves"] 2 fd_rows_up)   (F : Fun K x qual (top 23) f fd) : FnOk P w K mg base (L2N.CX P w) 6 f fd ["key", "leaves", "place"] (spD K mg fd_path_of) :=
  fn_ok (N := nm_path_of) (ps := ["key", "leaves", "place"]) (g := fb_path_of) F sc_path_of fun cdv A outer s H E hr => by
    have S := sc_path_of
    exact (ds_cons (ds_expr (de_c h_check_leaves (L2N.takes_of rfl rfl rfl rfl) (hr.mono (by decide)) rfl (da_cons (dv 0) (da_cons (dv 1) da_nil)))) (ds_cons (ds_if (dt_not (dt_val (de_c h_is_below (L2N.takes_of rfl rfl rfl rfl) (hr.mono (by decide)) rfl (da_cons (dv 2) (da_cons (de_len T.m_len rfl (da_cons (dv 1) da_nil)) da_nil))))) (ds_one (ds_r1 T.x_InvalidNumber rfl (L2N.takes_of rfl rfl rfl rfl) (hr.mono (by decide)) rfl (da_cons (dv 2) da_nil))) ds_nil) (ds_cons (ds_new (i := 3) S.nd rfl (by first | exact Or.inl rfl | exact Or.inr rfl) (dn_lst da_nil)) (ds_cons (ds_asg (i := 4) S.nd rfl (by first | exact Or.inl rfl | exact Or.inr rfl) (dv 2)) (ds_cons (ds_frz (is := [3]) (ds_for (passes_of rfl) rfl (di_seq (de_sl (de_c h_rows_up (L2N.takes_of rfl rfl rfl rfl) (hr.mono (by decide)) rfl (da_cons (dv 0) (da_cons (dv 1) da_nil))) do_none (do_some (de_un un_neg sem_neg de_int)))) (dg_name (i := 5) S.nd rfl (by first | exact Or.inl rfl | exact Or.inr rfl)) (ds_cons (ds_app (pv 3) (de_ix (hu64 hr) (dv 5) (de_op op_xor sem_xor (dv 4) de_int))) (ds_one (ds_asg (i := 4) S.nd rfl (by first | exact Or.inl rfl | exact Or.inr rfl) (de_op op_fdivN sem_div (dv 4) de_int)))))) (ds_one (ds_ret (de_tuple T.m_tuple rfl (da_cons (dv 3) da_nil)))))))))
/-! ### _law_path_asked -/
abbrev nm__law_path_asked : List Str := ["state", "world", "place", "key", "leaf", "path", "changed", "at", "other", "due", "root", "wrong", "twin"]
theorem sc__law_path_asked : FnScope nm__law_path_asked ["state", "world", "place"] (defScope (top 54)) := ⟨rfl, rfl, rfl, by decide +kernel, rfl, by decide +kernel, by decide +kernel⟩
noncomputable def fb__law_path_asked : SS := sSeq (sAsg 3 (eBin gIx (eVar 1) (eC (.str "key")))) (sSeq (sAsg 4 (eBin gIx (eBin gIx (eVar 1) (eC (.str "leaves"))) (eVar 2))) (sSeq (sAsg 5 (eCall fd__law_path (aCons (eVar 1) (aCons (eVar 2) (aNil))))) (sSeq (sIf (bNot (bV (eCall fd__law_view (aCons (eCall fd_path_of (aCons (eVar 3) (aCons (eBin gIx (eVar 1) (eC (.str "leaves"))) (aCons (eVar 2) (aNil))))) (aCons (eVar 5) (aNil)))))) (sRet (eC (.bl false))) (sNext)) (sSeq (sIf (bNot (bV (eCall fd__law_truth (aCons (eCall fd_is_path (aCons (eVar 3) (aCons (eBin gIx (eVar 1) (eC (.str "root"))) (aCons (eVar 2) (aCons (eVar 4) (aCons (eVar 5) (aNil))))))) (aCons (eC (.bl true)) (aNil)))))) (sRet (eC (.bl false))) (sNext)) (sSeq (sNew 6 (nCB nListOf (aCons (eVar 5) (aNil)))) (sSeq (sFrz [6] (sIf (bV (eBin gNe (eVar 6) (eN (nLst (aNil))))) (sSeq (sAsg 7 (eCall fd__law_draw (aCons (eVar 0) (aCons (eCB gLen1 (aCons (eVar 6) (aNil))) (aNil))))) (sSetI 6 (eVar 7) (eCall fd__law_draw (aCons (eVar 0) (aCons (eBin gIx (eVar 3) (eC (.int 0))) (aNil)))))) (sNext))) (sSeq (sAsg 8 (eCall fd__law_draw (aCons (eVar 0) (aCons (eBin gShl (eC (.int 1)) (eBin gIx (eVar 1) (eC (.str "high")))) (aNil))))) (sSeq (sAsg 9 (eBin gEq (eCall fd__law_top (aCons (eVar 3) (aCons (eVar 8) (aCons (eVar 4) (aCons (eVar 6) (aNil)))))) (eBin gIx (eVar 1) (eC (.str "root"))))) (sSeq (sIf (bNot (bV (eCall fd__law_truth (aCons (eCall fd_is_path (aCons (eVar 3) (aCons (eBin gIx (eVar 1) (eC (.str "root"))) (aCons (eVar 8) (aCons (eVar 4) (aCons (eCB gTup1 (aCons (eVar 6) (aNil))) (aNil))))))) (aCons (eVar 9) (aNil)))))) (sRet (eC (.bl false))) (sNext)) (sSeq (sAsg 10 (eCall fd__law_draw (aCons (eVar 0) (aCons (eBin gIx (eVar 3) (eC (.int 0))) (aNil))))) (sSeq (sIf (bNot (bV (eCall fd__law_truth (aCons (eCall fd_is_path (aCons (eVar 3) (aCons (eVar 10) (aCons (eVar 2) (aCons (eVar 4) (aCons (eVar 5) (aNil))))))) (aCons (eBin gEq (eVar 10) (eBin gIx (eVar 1) (eC (.str "root")))) (aNil)))))) (sRet (eC (.bl false))) (sNext)) (sSeq (sIf (bNot (bV (eCall fd__law_truth (aCons (eCall fd_is_path (aCons (eVar 3) (aCons (eBin gIx (eVar 1) (eC (.str "root"))) (aCons (eBin gAdd (eVar 2) (eBin gShl (eC (.int 1)) (eBin gIx (eVar 1) (eC (.str "high"))))) (aCons (eVar 4) (aCons (eVar 5) (aNil))))))) (aCons (eC (.bl false)) (aNil)))))) (sRet (eC (.bl false))) (sNext)) (sSeq (sAsg 11 (eTup (aCons (eVar 4) (aCons (eCB gTup1 (aCons (eVar 6) (aNil))) (aNil))))) (sSeq (sIf (bV (eBin gNe (eCall fd__law_top (aCons (eVar 3) (aCons (eVar 2) (aCons (eVar 4) (aCons (eVar 6) (aNil)))))) (eBin gIx (eVar 1) (eC (.str "root"))))) (sSeq (sIf (bNot (bV (eCall fd__law_wrong (aCons (eVar 1) (aCons (eVar 2) (aCons (eVar 11) (aCons (eTup (aCons (eVar 4) (aCons (eVar 5) (aNil)))) (aCons (eC (.str "one")) (aNil))))))))) (sRet (eC (.bl false))) (sNext)) (sIf (bNot (bV (eCall fd__law_wrong (aCons (eVar 1) (aCons (eVar 2) (aCons (eTup (aCons (eVar 4) (aCons (eVar 5) (aNil)))) (aCons (eVar 11) (aCons (eC (.str "other")) (aNil))))))))) (sRet (eC (.bl false))) (sNext))) (sNext)) (sSeq (sIf (bNot (bV (eCall fd__law_wrong (aCons (eVar 1) (aCons (eVar 2) (aCons (eTup (aCons (eVar 4) (aCons (eVar 5) (aNil)))) (aCons (eTup (aCons (eVar 4) (aCons (eVar 5) (aNil)))) (aCons (eC (.str "other")) (aNil))))))))) (sRet (eC (.bl false))) (sNext)) (sSeq (sAsg 12 (eCall fd__law_twin (aCons (eVar 1) (aCons (eVar 2) (aNil))))) (sRet (eOr (eBin gEq (eVar 12) (eTup (aNil))) (eCall fd__law_same (aCons (eVar 1) (aCons (eVar 2) (aCons (eTup (aCons (eVar 4) (aCons (eVar 5) (aNil)))) (aCons (eTup (aCons (eVar 4) (aCons (eVar 12) (aNil)))) (aNil))))))))))))))))))))))))
noncomputable def fd__law_path_asked : FD := fD 3 13 fb__law_path_asked
theorem ok__law_path_asked {P : Program} {w : World} {K : PySem.W.Frag} {mg : Str → Option Value} {base : Heap} {f : Addr} {fd : FuncData} {x qual : Str} (T : Tx P w K mg base) (h__law_draw : FnK P w K mg base "_law_draw" ["state", "limit"] 1 fd__law_draw) (h__law_path : FnK P w K mg base "_law_path" ["world", "place"] 1 fd__law_path) (h__law_same : FnK P w K mg base "_law_same" ["world", "place", "one", "other"] 6 fd__law_same) (h__law_top : FnK P w K mg base "_law_top" ["key", "place", "leaf", "path"] 2 fd__law_top) (h__law_truth : FnK P w K mg base "_law_truth" ["told", "due"] 1 fd__law_truth) (h__law_twin : FnK P w K mg base "_law_twin" ["world", "place"] 3 fd__law_twin) (h__law_view : FnK P w K mg base "_law_view" ["told", "due"] 2 fd__law_view) (h__law_wrong : FnK P w K mg base "_law_wrong" ["world", "place", "one", "other", "part"] 6 fd__law_wrong) (h_is_path : FnK P w K mg base "is_path" ["key", "root", "place", "leaf", "path"] 5 fd_is_path) (hk_is_path : FnKw P w K mg base "is_path" ["key", "root", "place", "leaf", "path"] 5 fd_is_path) (hk_path_of : FnKw P w K mg base "path_of" ["key", "leaves", "place"] 6 fd_path_of)  (F : Fun K x qual (top 54) f fd) : FnOk P w K mg base (L2N.CX P w) 7 f fd ["state", "world", "place"] (spD K mg fd__law_path_asked) :=
  fn_ok (N := nm__law_path_asked) (ps := ["state", "world", "place"]) (g := fb__law_path_asked) F sc__law_path_asked fun cdv A outer s H E hr => by
    have S := sc__law_path_asked
    exact (ds_cons (ds_asg (i := 3) S.nd rfl (by first | exact Or.inl rfl | exact Or.inr rfl) (de_ix (hu64 hr) (dv 1) de_str)) (ds_cons (ds_asg (i := 4) S.nd rfl (by first | exact Or.inl rfl | exact Or.inr rfl) (de_ix (hu64 hr) (de_ix (hu64 hr) (dv 1) de_str) (dv 2))) (ds_cons (ds_asg (i := 5) S.nd rfl (by first | exact Or.inl rfl | exact Or.inr rfl) (de_c h__law_path (L2N.takes_of rfl rfl rfl rfl) (hr.mono (by decide)) rfl (da_cons (dv 1) (da_cons (dv 2) da_nil)))) (ds_cons (ds_if (dt_not (dt_val (de_c h__law_view (L2N.takes_of rfl rfl rfl rfl) (hr.mono (by decide)) rfl (da_cons (de_ck hk_path_of (L2N.takes_of rfl rfl rfl rfl) (hr.mono (by decide)) rfl (dk_cons (dv 3) (dk_cons (de_ix (hu64 hr) (dv 1) de_str) (dk_cons (dv 2) dk_nil)))) (da_cons (dv 5) da_nil))))) (ds_one (ds_ret de_bl)) ds_nil) (ds_cons (ds_if (dt_not (dt_val (de_c h__law_truth (L2N.takes_of rfl rfl rfl rfl) (hr.mono (by decide)) rfl (da_cons (de_ck hk_is_path (L2N.takes_of rfl rfl rfl rfl) (hr.mono (by decide)) rfl (dk_cons (dv 3) (dk_cons (de_ix (hu64 hr) (dv 1) de_str) (dk_cons (dv 2) (dk_cons (dv 4) (dk_cons (dv 5) dk_nil)))))) (da_cons de_bl da_nil))))) (ds_one (ds_ret de_bl)) ds_nil) (ds_cons (ds_new (i := 6) S.nd rfl (by first | exact Or.inl rfl | exact Or.inr rfl) (dn_list T.m_list rfl (da_cons (dv 5) da_nil))) (ds_cons (ds_frz (is := [6]) (ds_if (dt_cmp (op_neP (hu64 hr)) sem_ne (dv 6) (de_n (dn_lst da_nil)) (nomark _)) (ds_cons (ds_asg (i := 7) S.nd rfl (by first | exact Or.inl rfl | exact Or.inr rfl) (de_c h__law_draw (L2N.takes_of rfl rfl rfl rfl) (hr.mono (by decide)) rfl (da_cons (dv 0) (da_cons (de_len T.m_len rfl (da_cons (dv 6) da_nil)) da_nil)))) (ds_one (ds_setI (pv 6) (dv 7) (de_c h__law_draw (L2N.takes_of rfl rfl rfl rfl) (hr.mono (by decide)) rfl (da_cons (dv 0) (da_cons (de_ix (hu64 hr) (dv 3) de_int) da_nil)))))) ds_nil)) (ds_cons (ds_asg (i := 8) S.nd rfl (by first | exact Or.inl rfl | exact Or.inr rfl) (de_c h__law_draw (L2N.takes_of rfl rfl rfl rfl) (hr.mono (by decide)) rfl (da_cons (dv 0) (da_cons (de_op op_shl sem_shl de_int (de_ix (hu64 hr) (dv 1) de_str)) da_nil)))) (ds_cons (ds_asg (i := 9) S.nd rfl (by first | exact Or.inl rfl | exact Or.inr rfl) (de_cmp (op_eqP (hu64 hr)) sem_eq (de_c h__law_top (L2N.takes_of rfl rfl rfl rfl) (hr.mono (by decide)) rfl (da_cons (dv 3) (da_cons (dv 8) (da_cons (dv 4) (da_cons (dv 6) da_nil))))) (de_ix (hu64 hr) (dv 1) de_str) (nomark _))) (ds_cons (ds_if (dt_not (dt_val (de_c h__law_truth (L2N.takes_of rfl rfl rfl rfl) (hr.mono (by decide)) rfl (da_cons (de_c h_is_path (L2N.takes_of rfl rfl rfl rfl) (hr.mono (by decide)) rfl (da_cons (dv 3) (da_cons (de_ix (hu64 hr) (dv 1) de_str) (da_cons (dv 8) (da_cons (dv 4) (da_cons (de_tuple T.m_tuple rfl (da_cons (dv 6) da_nil)) da_nil)))))) (da_cons (dv 9) da_nil))))) (ds_one (ds_ret de_bl)) ds_nil) (ds_cons (ds_asg (i := 10) S.nd rfl (by first | exact Or.inl rfl | exact Or.inr rfl) (de_c h__law_draw (L2N.takes_of rfl rfl rfl rfl) (hr.mono (by decide)) rfl (da_cons (dv 0) (da_cons (de_ix (hu64 hr) (dv 3) de_int) da_nil)))) (ds_cons (ds_if (dt_not (dt_val (de_c h__law_truth (L2N.takes_of rfl rfl rfl rfl) (hr.mono (by decide)) rfl (da_cons (de_c h_is_path (L2N.takes_of rfl rfl rfl rfl) (hr.mono (by decide)) rfl (da_cons (dv 3) (da_cons (dv 10) (da_cons (dv 2) (da_cons (dv 4) (da_cons (dv 5) da_nil)))))) (da_cons (de_cmp (op_eqP (hu64 hr)) sem_eq (dv 10) (de_ix (hu64 hr) (dv 1) de_str) (nomark _)) da_nil))))) (ds_one (ds_ret de_bl)) ds_nil) (ds_cons (ds_if (dt_not (dt_val (de_c h__law_truth (L2N.takes_of rfl rfl rfl rfl) (hr.mono (by decide)) rfl (da_cons (de_c h_is_path (L2N.takes_of rfl rfl rfl rfl) (hr.mono (by decide)) rfl (da_cons (dv 3) (da_cons (de_ix (hu64 hr) (dv 1) de_str) (da_cons (de_op op_addA sem_add (dv 2) (de_op op_shl sem_shl de_int (de_ix (hu64 hr) (dv 1) de_str))) (da_cons (dv 4) (da_cons (dv 5) da_nil)))))) (da_cons de_bl da_nil))))) (ds_one (ds_ret de_bl)) ds_nil) (ds_cons (ds_asg (i := 11) S.nd rfl (by first | exact Or.inl rfl | exact Or.inr rfl) (de_tup (da_cons (dv 4) (da_cons (de_tuple T.m_tuple rfl (da_cons (dv 6) da_nil)) da_nil)))) (ds_cons (ds_if (dt_cmp (op_neP (hu64 hr)) sem_ne (de_c h__law_top (L2N.takes_of rfl rfl rfl rfl) (hr.mono (by decide)) rfl (da_cons (dv 3) (da_cons (dv 2) (da_cons (dv 4) (da_cons (dv 6) da_nil))))) (de_ix (hu64 hr) (dv 1) de_str) (nomark _)) (ds_cons (ds_if (dt_not (dt_val (de_c h__law_wrong (L2N.takes_of rfl rfl rfl rfl) (hr.mono (by decide)) rfl (da_cons (dv 1) (da_cons (dv 2) (da_cons (dv 11) (da_cons (de_tup (da_cons (dv 4) (da_cons (dv 5) da_nil))) (da_cons de_str da_nil)))))))) (ds_one (ds_ret de_bl)) ds_nil) (ds_one (ds_if (dt_not (dt_val (de_c h__law_wrong (L2N.takes_of rfl rfl rfl rfl) (hr.mono (by decide)) rfl (da_cons (dv 1) (da_cons (dv 2) (da_cons (de_tup (da_cons (dv 4) (da_cons (dv 5) da_nil))) (da_cons (dv 11) (da_cons de_str da_nil)))))))) (ds_one (ds_ret de_bl)) ds_nil))) ds_nil) (ds_cons (ds_if (dt_not (dt_val (de_c h__law_wrong (L2N.takes_of rfl rfl rfl rfl) (hr.mono (by decide)) rfl (da_cons (dv 1) (da_cons (dv 2) (da_cons (de_tup (da_cons (dv 4) (da_cons (dv 5) da_nil))) (da_cons (de_tup (da_cons (dv 4) (da_cons (dv 5) da_nil))) (da_cons de_str da_nil)))))))) (ds_one (ds_ret de_bl)) ds_nil) (ds_cons (ds_asg (i := 12) S.nd rfl (by first | exact Or.inl rfl | exact Or.inr rfl) (de_c h__law_twin (L2N.takes_of rfl rfl rfl rfl) (hr.mono (by decide)) rfl (da_cons (dv 1) (da_cons (dv 2) da_nil)))) (ds_one (ds_ret (de_or (de_cmp (op_eqP (hu64 hr)) sem_eq (dv 12) (de_tup da_nil) (nomark _)) (de_one (de_c h__law_same (L2N.takes_of rfl rfl rfl rfl) (hr.mono (by decide)) rfl (da_cons (dv 1) (da_cons (dv 2) (da_cons (de_tup (da_cons (dv 4) (da_cons (dv 5) da_nil))) (da_cons (de_tup (da_cons (dv 4) (da_cons (dv 12) da_nil))) da_nil))))))))))))))))))))))))))
/-! ### root_of -/
abbrev nm_root_of : List Str := ["key", "leaves"]
theorem sc_root_of : FnScope nm_root_of ["key", "leaves"] (defScope (top 22)) := ⟨rfl, rfl, rfl, by decide +kernel, rfl, by decide +kernel, by decide +kernel⟩
noncomputable def fb_root_of : SS := sSeq (sDrop (eCall fd_check_leaves (aCons (eVar 0) (aCons (eVar 1) (aNil))))) (sRet (eBin gIx (eBin gIx (eCall fd_rows_up (aCons (eVar 0) (aCons (eVar 1) (aNil)))) (eUn (uI fun i => .int (-i)) (eC (.int 1)))) (eC (.int 0))))
noncomputable def fd_root_of : FD := fD 2 2 fb_root_of
theorem ok_root_of {P : Program} {w : World} {K : PySem.W.Frag} {mg : Str → Option Value} {base : Heap} {f : Addr} {fd : FuncData} {x qual : Str} (T : Tx P w K mg base) (h_check_leaves : FnK P w K mg base "check_leaves" ["key", "leaves"] 5 fd_check_leaves) (h_rows_up : FnK P w K mg base "rows_up" ["key", "leaves"] 2 fd_rows_up)   (F : Fun K x qual (top 22) f fd) : FnOk P w K mg base (L2N.CX P w) 6 f fd ["key", "leaves"] (spD K mg fd_root_of) :=
  fn_ok (N := nm_root_of) (ps := ["key", "leaves"]) (g := fb_root_of) F sc_root_of fun cdv A outer s H E hr => by
    have S := sc_root_of
    exact (ds_cons (ds_expr (de_c h_check_leaves (L2N.takes_of rfl rfl rfl rfl) (hr.mono (by decide)) rfl (da_cons (dv 0) (da_cons (dv 1) da_nil)))) (ds_one (ds_ret (de_ix (hu64 hr) (de_ix (hu64 hr) (de_c h_rows_up (L2N.takes_of rfl rfl rfl rfl) (hr.mono (by decide)) rfl (da_cons (dv 0) (da_cons (dv 1) da_nil))) (de_un un_neg sem_neg de_int)) de_int))))
/-! ### _law_asked -/
abbrev nm__law_asked : List Str := ["state", "world", "k", "place", "leaf"]
theorem sc__law_asked : FnScope nm__law_asked ["state", "world"] (defScope (top 55)) := ⟨rfl, rfl, rfl, by decide +kernel, rfl, by decide +kernel, by decide +kernel⟩
noncomputable def B__law_asked_1 : SS := sSeq (sAsg 3 (eCall fd__law_draw (aCons (eVar 0) (aCons (eBin gShl (eC (.int 1)) (eBin gIx (eVar 1) (eC (.str "high")))) (aNil))))) (sSeq (sAsg 4 (eBin gMod (eCB gInt (aCons (eBin gAdd (eBin gAdd (eBin gIx (eBin gIx (eVar 1) (eC (.str "leaves"))) (eVar 3)) (eC (.int 1))) (eCall fd__law_draw (aCons (eVar 0) (aCons (eBin DL.gSub (eBin gIx (eBin gIx (eVar 1) (eC (.str "key"))) (eC (.int 0))) (eC (.int 1))) (aNil))))) (aNil))) (eBin gIx (eBin gIx (eVar 1) (eC (.str "key"))) (eC (.int 0))))) (sIf (bOr (bNot (bV (eCall fd__law_path_asked (aCons (eVar 0) (aCons (eVar 1) (aCons (eVar 3) (aNil))))))) (bNot (bV (eCall fd__law_forged (aCons (eVar 0) (aCons (eVar 1) (aCons (eVar 3) (aCons (eVar 4) (aNil))))))))) (sRet (eC (.bl false))) (sNext)))
noncomputable def fb__law_asked : SS := sSeq (sIf (bNot (bV (eCall fd__law_number (aCons (eCall fd_root_of (aCons (eBin gIx (eVar 1) (eC (.str "key"))) (aCons (eBin gIx (eVar 1) (eC (.str "leaves"))) (aNil)))) (aCons (eBin gIx (eVar 1) (eC (.str "root"))) (aNil)))))) (sRet (eC (.bl false))) (sNext)) (sSeq (sFor (iRng1 (aCons (eC (.int 2)) (aNil))) (tgN 2) (B__law_asked_1)) (sRet (eCall fd__law_collided (aCons (eBin gIx (eVar 1) (eC (.str "key"))) (aNil)))))
noncomputable def fd__law_asked : FD := fD 2 5 fb__law_asked
theorem ok__law_asked {P : Program} {w : World} {K : PySem.W.Frag} {mg : Str → Option Value} {base : Heap} {f : Addr} {fd : FuncData} {x qual : Str} (T : Tx P w K mg base) (h__law_collided : FnK P w K mg base "_law_collided" ["key"] 6 fd__law_collided) (h__law_draw : FnK P w K mg base "_law_draw" ["state", "limit"] 1 fd__law_draw) (h__law_forged : FnK P w K mg base "_law_forged" ["state", "world", "place", "leaf"] 7 fd__law_forged) (h__law_number : FnK P w K mg base "_law_number" ["told", "due"] 1 fd__law_number) (h__law_path_asked : FnK P w K mg base "_law_path_asked" ["state", "world", "place"] 7 fd__law_path_asked) (hk_root_of : FnKw P w K mg base "root_of" ["key", "leaves"] 6 fd_root_of)  (F : Fun K x qual (top 55) f fd) : FnOk P w K mg base (L2N.CX P w) 8 f fd ["state", "world"] (spD K mg fd__law_asked) :=
  fn_ok (N := nm__law_asked) (ps := ["state", "world"]) (g := fb__law_asked) F sc__law_asked fun cdv A outer s H E hr => by
    have S := sc__law_asked
    exact (ds_cons (ds_if (dt_not (dt_val (de_c h__law_number (L2N.takes_of rfl rfl rfl rfl) (hr.mono (by decide)) rfl (da_cons (de_ck hk_root_of (L2N.takes_of rfl rfl rfl rfl) (hr.mono (by decide)) rfl (dk_cons (de_ix (hu64 hr) (dv 1) de_str) (dk_cons (de_ix (hu64 hr) (dv 1) de_str) dk_nil))) (da_cons (de_ix (hu64 hr) (dv 1) de_str) da_nil))))) (ds_one (ds_ret de_bl)) ds_nil) (ds_cons (ds_for (passes_of rfl) rfl (di_rng1 rfl T.m_range (da_cons de_int da_nil)) (dg_name (i := 2) S.nd rfl (by first | exact Or.inl rfl | exact Or.inr rfl)) (ds_cons (ds_asg (i := 3) S.nd rfl (by first | exact Or.inl rfl | exact Or.inr rfl) (de_c h__law_draw (L2N.takes_of rfl rfl rfl rfl) (hr.mono (by decide)) rfl (da_cons (dv 0) (da_cons (de_op op_shl sem_shl de_int (de_ix (hu64 hr) (dv 1) de_str)) da_nil)))) (ds_cons (ds_asg (i := 4) S.nd rfl (by first | exact Or.inl rfl | exact Or.inr rfl) (de_op op_modN sem_mod (de_toInt T.m_int rfl (da_cons (de_op op_addA sem_add (de_op op_addA sem_add (de_ix (hu64 hr) (de_ix (hu64 hr) (dv 1) de_str) (dv 3)) de_int) (de_c h__law_draw (L2N.takes_of rfl rfl rfl rfl) (hr.mono (by decide)) rfl (da_cons (dv 0) (da_cons (de_op op_sub sem_sub (de_ix (hu64 hr) (de_ix (hu64 hr) (dv 1) de_str) de_int) de_int) da_nil)))) da_nil)) (de_ix (hu64 hr) (de_ix (hu64 hr) (dv 1) de_str) de_int))) (ds_one (ds_if (dt_w (dw_or (dt_not (dt_val (de_c h__law_path_asked (L2N.takes_of rfl rfl rfl rfl) (hr.mono (by decide)) rfl (da_cons (dv 0) (da_cons (dv 1) (da_cons (dv 3) da_nil)))))) (dw_or1 (dt_not (dt_val (de_c h__law_forged (L2N.takes_of rfl rfl rfl rfl) (hr.mono (by decide)) rfl (da_cons (dv 0) (da_cons (dv 1) (da_cons (dv 3) (da_cons (dv 4) da_nil)))))))))) (ds_one (ds_ret de_bl)) ds_nil))))) (ds_one (ds_ret (de_c h__law_collided (L2N.takes_of rfl rfl rfl rfl) (hr.mono (by decide)) rfl (da_cons (de_ix (hu64 hr) (dv 1) de_str) da_nil))))))
/-! ### _law_key -/
abbrev nm__law_key : List Str := ["state", "m", "found", "k", "kind", "put"]
theorem sc__law_key : FnScope nm__law_key ["state"] (defScope (top 41)) := ⟨rfl, rfl, rfl, by decide +kernel, rfl, by decide +kernel, by decide +kernel⟩
noncomputable def B__law_key_1 : SS := sSeq (sAsg 4 (eCall fd__law_draw (aCons (eVar 0) (aCons (eC (.int 5)) (aNil))))) (sSeq (sAsg 5 (eCall fd__law_draw (aCons (eVar 0) (aCons (eVar 1) (aNil))))) (sSeq (sIf (bV (eBin gEq (eVar 4) (eC (.int 0)))) (sAsg 5 (eC (.int 0))) (sIf (bV (eBin gEq (eVar 4) (eC (.int 1)))) (sAsg 5 (eBin DL.gSub (eVar 1) (eC (.int 1)))) (sIf (bAnd (bV (eBin gEq (eVar 4) (eC (.int 2)))) (bV (eBin gGt (eVar 3) (eC (.int 0))))) (sAsg 5 (eBin gIx (eVar 2) (eVar 3))) (sNext)))) (sAsg 2 (eBin gAdd (eVar 2) (eTup (aCons (eVar 5) (aNil)))))))
noncomputable def fb__law_key : SS := sSeq (sAsg 1 (eBin gAdd (eC (.int 2)) (eCall fd__law_draw (aCons (eVar 0) (aCons (eC (.int 12)) (aNil)))))) (sSeq (sIf (bV (eBin gEq (eCall fd__law_draw (aCons (eVar 0) (aCons (eC (.int 3)) (aNil)))) (eC (.int 0)))) (sAsg 1 (eBin gAdd (eC (.int 2)) (eCall fd__law_draw (aCons (eVar 0) (aCons (eC (.int 96)) (aNil)))))) (sNext)) (sSeq (sAsg 2 (eTup (aCons (eVar 1) (aNil)))) (sSeq (sFor (iRng1 (aCons (eC (.int 3)) (aNil))) (tgN 3) (B__law_key_1)) (sRet (eVar 2)))))
noncomputable def fd__law_key : FD := fD 1 6 fb__law_key
theorem ok__law_key {P : Program} {w : World} {K : PySem.W.Frag} {mg : Str → Option Value} {base : Heap} {f : Addr} {fd : FuncData} {x qual : Str} (T : Tx P w K mg base) (h__law_draw : FnK P w K mg base "_law_draw" ["state", "limit"] 1 fd__law_draw)   (F : Fun K x qual (top 41) f fd) : FnOk P w K mg base (L2N.CX P w) 2 f fd ["state"] (spD K mg fd__law_key) :=
  fn_ok (N := nm__law_key) (ps := ["state"]) (g := fb__law_key) F sc__law_key fun cdv A outer s H E hr => by
    have S := sc__law_key
    exact (ds_cons (ds_asg (i := 1) S.nd rfl (by first | exact Or.inl rfl | exact Or.inr rfl) (de_op op_addA sem_add de_int (de_c h__law_draw (L2N.takes_of rfl rfl rfl rfl) (hr.mono (by decide)) rfl (da_cons (dv 0) (da_cons de_int da_nil))))) (ds_cons (ds_if (dt_cmp (op_eqP (hu64 hr)) sem_eq (de_c h__law_draw (L2N.takes_of rfl rfl rfl rfl) (hr.mono (by decide)) rfl (da_cons (dv 0) (da_cons de_int da_nil))) de_int (nomark _)) (ds_one (ds_asg (i := 1) S.nd rfl (by first | exact Or.inl rfl | exact Or.inr rfl) (de_op op_addA sem_add de_int (de_c h__law_draw (L2N.takes_of rfl rfl rfl rfl) (hr.mono (by decide)) rfl (da_cons (dv 0) (da_cons de_int da_nil)))))) ds_nil) (ds_cons (ds_asg (i := 2) S.nd rfl (by first | exact Or.inl rfl | exact Or.inr rfl) (de_tup (da_cons (dv 1) da_nil))) (ds_cons (ds_for (passes_of rfl) rfl (di_rng1 rfl T.m_range (da_cons de_int da_nil)) (dg_name (i := 3) S.nd rfl (by first | exact Or.inl rfl | exact Or.inr rfl)) (ds_cons (ds_asg (i := 4) S.nd rfl (by first | exact Or.inl rfl | exact Or.inr rfl) (de_c h__law_draw (L2N.takes_of rfl rfl rfl rfl) (hr.mono (by decide)) rfl (da_cons (dv 0) (da_cons de_int da_nil)))) (ds_cons (ds_asg (i := 5) S.nd rfl (by first | exact Or.inl rfl | exact Or.inr rfl) (de_c h__law_draw (L2N.takes_of rfl rfl rfl rfl) (hr.mono (by decide)) rfl (da_cons (dv 0) (da_cons (dv 1) da_nil)))) (ds_cons (ds_if (dt_cmp (op_eqP (hu64 hr)) sem_eq (dv 4) de_int (nomark _)) (ds_one (ds_asg (i := 5) S.nd rfl (by first | exact Or.inl rfl | exact Or.inr rfl) de_int)) (ds_one (ds_if (dt_cmp (op_eqP (hu64 hr)) sem_eq (dv 4) de_int (nomark _)) (ds_one (ds_asg (i := 5) S.nd rfl (by first | exact Or.inl rfl | exact Or.inr rfl) (de_op op_sub sem_sub (dv 1) de_int))) (ds_one (ds_if (dt_w (dw_and (dt_cmp (op_eqP (hu64 hr)) sem_eq (dv 4) de_int (nomark _)) (dw_and1 (dt_cmp op_gt sem_gt (dv 3) de_int (nomark _))))) (ds_one (ds_asg (i := 5) S.nd rfl (by first | exact Or.inl rfl | exact Or.inr rfl) (de_ix (hu64 hr) (dv 2) (dv 3)))) ds_nil))))) (ds_one (ds_asg (i := 2) S.nd rfl (by first | exact Or.inl rfl | exact Or.inr rfl) (de_op op_addA sem_add (dv 2) (de_tup (da_cons (dv 5) da_nil))))))))) (ds_one (ds_ret (dv 2)))))))
/-! ### _law_start -/
abbrev nm__law_start : List Str := ["script"]
theorem sc__law_start : FnScope nm__law_start ["script"] (defScope (top 34)) := ⟨rfl, rfl, rfl, by decide +kernel, rfl, by decide +kernel, by decide +kernel⟩
noncomputable def fb__law_start : SS := sRetNew (nLst (aCons (eN (nCB nListOf (aCons (eVar 0) (aNil)))) (aCons (eC (.int 0)) (aCons (eC (.int 0)) (aCons (eC (.int 0)) (aCons (eC (.int 7)) (aNil)))))))
noncomputable def fd__law_start : FD := fD 1 1 fb__law_start
theorem ok__law_start {P : Program} {w : World} {K : PySem.W.Frag} {mg : Str → Option Value} {base : Heap} {f : Addr} {fd : FuncData} {x qual : Str} (T : Tx P w K mg base)    (F : Fun K x qual (top 34) f fd) : FnOk P w K mg base (L2N.CX P w) 1 f fd ["script"] (spD K mg fd__law_start) :=
  fn_ok (N := nm__law_start) (ps := ["script"]) (g := fb__law_start) F sc__law_start fun cdv A outer s H E hr => by
    have S := sc__law_start
    exact (ds_one (ds_retNew (dn_lst (da_cons (de_n (dn_list T.m_list rfl (da_cons (dv 0) da_nil))) (da_cons de_int (da_cons de_int (da_cons de_int (da_cons de_int da_nil))))))))
/-! ### _law_pick -/
abbrev nm__law_pick : List Str := ["state", "row"]
theorem sc__law_pick : FnScope nm__law_pick ["state", "row"] (defScope (top 36)) := ⟨rfl, rfl, rfl, by decide +kernel, rfl, by decide +kernel, by decide +kernel⟩
noncomputable def fb__law_pick : SS := sRet (eBin gIx (eVar 1) (eCall fd__law_draw (aCons (eVar 0) (aCons (eCB gLen1 (aCons (eVar 1) (aNil))) (aNil)))))
noncomputable def fd__law_pick : FD := fD 2 2 fb__law_pick
theorem ok__law_pick {P : Program} {w : World} {K : PySem.W.Frag} {mg : Str → Option Value} {base : Heap} {f : Addr} {fd : FuncData} {x qual : Str} (T : Tx P w K mg base) (h__law_draw : FnK P w K mg base "_law_draw" ["state", "limit"] 1 fd__law_draw)   (F : Fun K x qual (top 36) f fd) : FnOk P w K mg base (L2N.CX P w) 2 f fd ["state", "row"] (spD K mg fd__law_pick) :=
  fn_ok (N := nm__law_pick) (ps := ["state", "row"]) (g := fb__law_pick) F sc__law_pick fun cdv A outer s H E hr => by
    have S := sc__law_pick
    exact (ds_one (ds_ret (de_ix (hu64 hr) (dv 1) (de_c h__law_draw (L2N.takes_of rfl rfl rfl rfl) (hr.mono (by decide)) rfl (da_cons (dv 0) (da_cons (de_len T.m_len rfl (da_cons (dv 1) da_nil)) da_nil))))))
/-! ### _law_world -/
abbrev nm__law_world : List Str := ["state", "key", "high", "few", "rows", "k", "below", "j"]
theorem sc__law_world : FnScope nm__law_world ["state"] (defScope (top 43)) := ⟨rfl, rfl, rfl, by decide +kernel, rfl, by decide +kernel, by decide +kernel⟩
noncomputable def L__law_world_1 : SE := eCall fd__law_draw (aCons (eVar 0) (aCons (eVar 3) (aNil)))
noncomputable def L__law_world_2 : SE := eCall fd__law_mark (aCons (eVar 1) (aCons (eBin gIx (eVar 6) (eBin gMul1 (eC (.int 2)) (eVar 7))) (aCons (eBin gIx (eVar 6) (eBin gAdd (eBin gMul1 (eC (.int 2)) (eVar 7)) (eC (.int 1)))) (aNil))))
noncomputable def B__law_world_1 : SS := sSeq (sAsg 6 (eBin gIx (eVar 4) (eVar 5))) (sAsg 4 (eBin gAdd (eVar 4) (eN (nLst (aCons (eN (nLc (iRng1 (aCons (eBin gDiv (eCB gLen1 (aCons (eVar 6) (aNil))) (eC (.int 2))) (aNil))) [7] (tgN 7) (bTrue) (L__law_world_2))) (aNil))))))
noncomputable def fb__law_world : SS := sSeq (sAsg 1 (eCall fd__law_key (aCons (eVar 0) (aNil)))) (sSeq (sAsg 2 (eCall fd__law_draw (aCons (eVar 0) (aCons (eC (.int 5)) (aNil))))) (sSeq (sAsg 3 (eCB gMin2 (aCons (eCB gInt (aCons (eBin gIx (eVar 1) (eC (.int 0))) (aNil))) (aCons (eCB gInt (aCons (eCall fd__law_pick (aCons (eVar 0) (aCons (eN (nLst (aCons (eC (.int 2)) (aCons (eC (.int 97)) (aNil))))) (aNil)))) (aNil))) (aNil))))) (sSeq (sAsg 4 (eN (nLst (aCons (eN (nLc (iRng1 (aCons (eBin gShl (eC (.int 1)) (eVar 2)) (aNil))) [5] (tgN 5) (bTrue) (L__law_world_1))) (aNil))))) (sSeq (sFor (iRng1 (aCons (eVar 2) (aNil))) (tgN 5) (B__law_world_1)) (sRetNew (nDictN ["key", "high", "rows", "leaves", "root"] [eVar 1, eVar 2, eVar 4, eCB gTup1 (aCons (eBin gIx (eVar 4) (eC (.int 0))) (aNil)), eBin gIx (eBin gIx (eVar 4) (eVar 2)) (eC (.int 0))]))))))
noncomputable def fd__law_world : FD := fD 1 8 fb__law_world
theorem ok__law_world {P : Program} {w : World} {K : PySem.W.Frag} {mg : Str → Option Value} {base : Heap} {f : Addr} {fd : FuncData} {x qual : Str} (T : Tx P w K mg base) (h__law_draw : FnK P w K mg base "_law_draw" ["state", "limit"] 1 fd__law_draw) (h__law_key : FnK P w K mg base "_law_key" ["state"] 2 fd__law_key) (h__law_mark : FnK P w K mg base "_law_mark" ["key", "x", "y"] 1 fd__law_mark) (h__law_pick : FnK P w K mg base "_law_pick" ["state", "row"] 2 fd__law_pick)   (F : Fun K x qual (top 43) f fd) : FnOk P w K mg base (L2N.CX P w) 3 f fd ["state"] (spD K mg fd__law_world) :=
  fn_ok (N := nm__law_world) (ps := ["state"]) (g := fb__law_world) F sc__law_world fun cdv A outer s H E hr => by
    have S := sc__law_world
    exact (ds_cons (ds_asg (i := 1) S.nd rfl (by first | exact Or.inl rfl | exact Or.inr rfl) (de_c h__law_key (L2N.takes_of rfl rfl rfl rfl) (hr.mono (by decide)) rfl (da_cons (dv 0) da_nil))) (ds_cons (ds_asg (i := 2) S.nd rfl (by first | exact Or.inl rfl | exact Or.inr rfl) (de_c h__law_draw (L2N.takes_of rfl rfl rfl rfl) (hr.mono (by decide)) rfl (da_cons (dv 0) (da_cons de_int da_nil)))) (ds_cons (ds_asg (i := 3) S.nd rfl (by first | exact Or.inl rfl | exact Or.inr rfl) (de_min2 T.m_min rfl rfl (da_cons (de_toInt T.m_int rfl (da_cons (de_ix (hu64 hr) (dv 1) de_int) da_nil)) (da_cons (de_toInt T.m_int rfl (da_cons (de_c h__law_pick (L2N.takes_of rfl rfl rfl rfl) (hr.mono (by decide)) rfl (da_cons (dv 0) (da_cons (de_n (dn_lst (da_cons de_int (da_cons de_int da_nil)))) da_nil))) da_nil)) da_nil)))) (ds_cons (ds_asg (i := 4) S.nd rfl (by first | exact Or.inl rfl | exact Or.inr rfl) (de_n (dn_lst (da_cons (de_n (dn_lc (own := [("k", 5)]) (tgs := [5]) rfl S.nd (di_rng1 rfl T.m_range (da_cons (de_op op_shl sem_shl de_int (dv 2)) da_nil)) (blkOk_by (own := [("k", 5)]) (N := nm__law_world) (sc := defScope (top 43)) (by decide +kernel)) (by decide) (fun _ _ _ _ _ => by exact (dg_name (i := 5) S.nd rfl (by first | exact Or.inl rfl | exact Or.inr rfl))) (fun _ _ _ _ _ => by exact dts_nil) (fun _ _ _ _ _ => by exact (de_c h__law_draw DL.takes0 (hr.mono (by decide)) rfl (da_cons (dv 0) (da_cons (dv 3) da_nil)))))) da_nil)))) (ds_cons (ds_for (passes_of rfl) rfl (di_rng1 rfl T.m_range (da_cons (dv 2) da_nil)) (dg_name (i := 5) S.nd rfl (by first | exact Or.inl rfl | exact Or.inr rfl)) (ds_cons (ds_asg (i := 6) S.nd rfl (by first | exact Or.inl rfl | exact Or.inr rfl) (de_ix (hu64 hr) (dv 4) (dv 5))) (ds_one (ds_asg (i := 4) S.nd rfl (by first | exact Or.inl rfl | exact Or.inr rfl) (de_op op_addA sem_add (dv 4) (de_n (dn_lst (da_cons (de_n (dn_lc (own := [("j", 7)]) (tgs := [7]) rfl S.nd (di_rng1 rfl T.m_range (da_cons (de_op op_fdivN sem_div (de_len T.m_len rfl (da_cons (dv 6) da_nil)) de_int) da_nil)) (blkOk_by (own := [("j", 7)]) (N := nm__law_world) (sc := defScope (top 43)) (by decide +kernel)) (by decide) (fun _ _ _ _ _ => by exact (dg_name (i := 7) S.nd rfl (by first | exact Or.inl rfl | exact Or.inr rfl))) (fun _ _ _ _ _ => by exact dts_nil) (fun _ _ _ _ _ => by exact (de_c h__law_mark DL.takes0 (hr.mono (by decide)) rfl (da_cons (dv 1) (da_cons (de_ix (hu64 hr) (dv 6) (de_op op_mulA sem_mul de_int (dv 7))) (da_cons (de_ix (hu64 hr) (dv 6) (de_op op_addA sem_add (de_op op_mulA sem_mul de_int (dv 7)) de_int)) da_nil))))))) da_nil)))))))) (ds_one (ds_retNew (dn_dictN (DPs.cons de_str (dv 1) (DPs.cons de_str (dv 2) (DPs.cons de_str (dv 4) (DPs.cons de_str (de_tuple T.m_tuple rfl (da_cons (de_ix (hu64 hr) (dv 4) de_int) da_nil)) (DPs.cons de_str (de_ix (hu64 hr) (de_ix (hu64 hr) (dv 4) (dv 2)) de_int) DPs.nil))))) rfl rfl (fun z => nomatch z) (by decide) rfl (by decide) (by decide)))))))))
/-! ### _law_body -/
abbrev nm__law_body : List Str := ["script", "state", "one", "two"]
theorem sc__law_body : FnScope nm__law_body ["script"] (defScope (top 56)) := ⟨rfl, rfl, rfl, by decide +kernel, rfl, by decide +kernel, by decide +kernel⟩
noncomputable def fb__law_body : SS := sSeq (sNew 1 (nCall fd__law_start (aCons (eVar 0) (aNil)))) (sSeq (sAsg 2 (eCall fd__law_world (aCons (eVar 1) (aNil)))) (sSeq (sAsg 3 (eCall fd__law_world (aCons (eVar 1) (aNil)))) (sSeq (sFrz [1] (sIf (bOr (bNot (bV (eCall fd__law_asked (aCons (eVar 1) (aCons (eVar 2) (aNil)))))) (bOr (bNot (bV (eCall fd__law_asked (aCons (eVar 1) (aCons (eVar 3) (aNil)))))) (bNot (bV (eCall fd__law_collided (aCons (eCall fd__law_key (aCons (eVar 1) (aNil))) (aNil))))))) (sRet (eC (.bl false))) (sNext))) (sSeq (sIf (bNot (bV (eCall fd__law_collided (aCons (eTup (aCons (eC (.int 2)) (aCons (eC (.int 1)) (aCons (eC (.int 1)) (aCons (eC (.int 1)) (aNil)))))) (aNil))))) (sRet (eC (.bl false))) (sNext)) (sRet (eAnd (eCall fd__law_number (aCons (eCall fd_root_of (aCons (eBin gIx (eVar 2) (eC (.str "key"))) (aCons (eBin gIx (eVar 2) (eC (.str "leaves"))) (aNil)))) (aCons (eBin gIx (eVar 2) (eC (.str "root"))) (aNil)))) (eCall fd__law_collided (aCons (eBin gIx (eVar 2) (eC (.str "key"))) (aNil)))))))))
noncomputable def fd__law_body : FD := fD 1 4 fb__law_body
theorem ok__law_body {P : Program} {w : World} {K : PySem.W.Frag} {mg : Str → Option Value} {base : Heap} {f : Addr} {fd : FuncData} {x qual : Str} (T : Tx P w K mg base) (h__law_asked : FnK P w K mg base "_law_asked" ["state", "world"] 8 fd__law_asked) (h__law_collided : FnK P w K mg base "_law_collided" ["key"] 6 fd__law_collided) (h__law_key : FnK P w K mg base "_law_key" ["state"] 2 fd__law_key) (h__law_number : FnK P w K mg base "_law_number" ["told", "due"] 1 fd__law_number) (h__law_start : FnK P w K mg base "_law_start" ["script"] 1 fd__law_start) (h__law_world : FnK P w K mg base "_law_world" ["state"] 3 fd__law_world) (h_root_of : FnK P w K mg base "root_of" ["key", "leaves"] 6 fd_root_of)   (F : Fun K x qual (top 56) f fd) : FnOk P w K mg base (L2N.CX P w) 9 f fd ["script"] (spD K mg fd__law_body) :=
  fn_ok (N := nm__law_body) (ps := ["script"]) (g := fb__law_body) F sc__law_body fun cdv A outer s H E hr => by
    have S := sc__law_body
    exact (ds_cons (ds_new (i := 1) S.nd rfl (by first | exact Or.inl rfl | exact Or.inr rfl) (dn_c h__law_start (L2N.takes_of rfl rfl rfl rfl) (hr.mono (by decide)) rfl (da_cons (dv 0) da_nil))) (ds_cons (ds_asg (i := 2) S.nd rfl (by first | exact Or.inl rfl | exact Or.inr rfl) (de_c h__law_world (L2N.takes_of rfl rfl rfl rfl) (hr.mono (by decide)) rfl (da_cons (dv 1) da_nil))) (ds_cons (ds_asg (i := 3) S.nd rfl (by first | exact Or.inl rfl | exact Or.inr rfl) (de_c h__law_world (L2N.takes_of rfl rfl rfl rfl) (hr.mono (by decide)) rfl (da_cons (dv 1) da_nil))) (ds_cons (ds_frz (is := [1]) (ds_if (dt_w (dw_or (dt_not (dt_val (de_c h__law_asked (L2N.takes_of rfl rfl rfl rfl) (hr.mono (by decide)) rfl (da_cons (dv 1) (da_cons (dv 2) da_nil))))) (dw_or (dt_not (dt_val (de_c h__law_asked (L2N.takes_of rfl rfl rfl rfl) (hr.mono (by decide)) rfl (da_cons (dv 1) (da_cons (dv 3) da_nil))))) (dw_or1 (dt_not (dt_val (de_c h__law_collided (L2N.takes_of rfl rfl rfl rfl) (hr.mono (by decide)) rfl (da_cons (de_c h__law_key (L2N.takes_of rfl rfl rfl rfl) (hr.mono (by decide)) rfl (da_cons (dv 1) da_nil)) da_nil)))))))) (ds_one (ds_ret de_bl)) ds_nil)) (ds_cons (ds_if (dt_not (dt_val (de_c h__law_collided (L2N.takes_of rfl rfl rfl rfl) (hr.mono (by decide)) rfl (da_cons (de_tup (da_cons de_int (da_cons de_int (da_cons de_int (da_cons de_int da_nil))))) da_nil)))) (ds_one (ds_ret de_bl)) ds_nil) (ds_one (ds_ret (de_and (de_c h__law_number (L2N.takes_of rfl rfl rfl rfl) (hr.mono (by decide)) rfl (da_cons (de_c h_root_of (L2N.takes_of rfl rfl rfl rfl) (hr.mono (by decide)) rfl (da_cons (de_ix (hu64 hr) (dv 2) de_str) (da_cons (de_ix (hu64 hr) (dv 2) de_str) da_nil))) (da_cons (de_ix (hu64 hr) (dv 2) de_str) da_nil))) (de_one (de_c h__law_collided (L2N.takes_of rfl rfl rfl rfl) (hr.mono (by decide)) rfl (da_cons (de_ix (hu64 hr) (dv 2) de_str) da_nil)))))))))))
/-! ### law -/
abbrev nm_law : List Str := ["script"]
theorem sc_law : FnScope nm_law ["script"] (defScope (top 57)) := ⟨rfl, rfl, rfl, by decide +kernel, rfl, by decide +kernel, by decide +kernel⟩
noncomputable def hd_law_0 : HdD := { test := tst tl_ReadError, at_ := none, suite := fun a dx k => sRet (eC (.bl false)) }
noncomputable def fb_law : SS := sTry (sRet (eCall fd__law_body (aCons (eVar 0) (aNil)))) [hd_law_0]
noncomputable def fd_law : FD := fD 1 1 fb_law
theorem ok_law {P : Program} {w : World} {K : PySem.W.Frag} {mg : Str → Option Value} {base : Heap} {f : Addr} {fd : FuncData} {x qual : Str} (T : Tx P w K mg base) (h__law_body : FnK P w K mg base "_law_body" ["script"] 9 fd__law_body)   (F : Fun K x qual (top 57) f fd) : FnOk P w K mg base (L2N.CX P w) 10 f fd ["script"] (spD K mg fd_law) :=
  fn_ok (N := nm_law) (ps := ["script"]) (g := fb_law) F sc_law fun cdv A outer s H E hr => by
    have S := sc_law
    obtain ⟨c_ReadError, hc_ReadError⟩ := T.h_ReadError
    exact (ds_one (ds_try rfl rfl S.nd (L2N.takes_of rfl rfl rfl rfl) (fun W pn xe tk po => (ds_one (ds_ret (de_c h__law_body tk (hr.mono (by decide)) rfl (da_cons (dv 0) da_nil))))) (HdsD.no (h := hd_law_0) ⟨rfl, by decide, Or.inl hc_ReadError.1⟩ rfl (hd_tst hc_ReadError.2) (fun a oe k C dx pn hk hq hz hf hot => by exact (ds_one (ds_ret de_bl))) HdsD.nil)))
end Pg
set_option Elab.async false
set_option linter.all false
set_option maxRecDepth 100000
set_option maxHeartbeats 1000000
namespace Pg
open PySem PySem.Spec L2 DL
open PyProof.Rows hiding St
structure Ky where
  (m a b c : Int)
  m2 : 2 ≤ m
  m97 : m ≤ 97
  a0 : 0 ≤ a
  am : a < m
  b0 : 0 ≤ b
  bm : b < m
  c0 : 0 ≤ c
  cm : c < m
def Ky.D (k : Ky) : DL.D := .tup [.int k.m, .int k.a, .int k.b, .int k.c]
def Ky.mrk (k : Ky) (x y : Int) : Int := (k.a * x + k.b * y + k.c * x * y + 1) % k.m
def Ky.Ok (k : Ky) (x : Int) : Prop := 0 ≤ x ∧ x < k.m
theorem Ky.mrk_ok (k : Ky) (x y : Int) : k.Ok (k.mrk x y) := by
  have := k.m2
  exact ⟨Int.emod_nonneg _ (by omega), Int.emod_lt_of_pos _ (by omega)⟩
variable (k : Ky)
@[simp] theorem Ky.ix0 : gIx k.D (.int 0) = some (.int k.m) := by simp [Ky.D]
theorem okMul_s {i j : Int} (h : 0 ≤ j) (h' : j < 1000) : okMul i j = true := by
  simp only [okMul, Bool.or_eq_true, Bool.and_eq_true, decide_eq_true_eq]
  right; omega
theorem okMul_s' {i j : Int} (h : -(2 ^ 64) < j) (h2 : j < 2 ^ 64) : okMul i j = true := by simp only [okMul, Bool.or_eq_true, Bool.and_eq_true, decide_eq_true_eq]; exact .inr ⟨h, h2⟩
theorem okMod_s {i j : Int} (h : j ≠ 0) : okMod i j = true := by simp [okMod, h]
theorem e_made_mark {x y : Int} (hx : k.Ok x) (hy : k.Ok y) : fd_made_mark [.v k.D, .v (.int x), .v (.int y)] = .ret (.int (k.mrk x y)) [] := by
  obtain ⟨m, a, b, c, m2, m97, a0, am, b0, bm, c0, cm⟩ := k
  obtain ⟨hx0, hx1⟩ := hx
  obtain ⟨hy0, hy1⟩ := hy
  simp only at *
  have h1 : okMul a x = true := okMul_s hx0 (by omega)
  have h2 : okMul b y = true := okMul_s hy0 (by omega)
  have h3 : okMul c x = true := okMul_s hx0 (by omega)
  have h4 : okMul (c * x) y = true := okMul_s hy0 (by omega)
  have h5 : okMod (a * x + b * y + c * x * y + 1) m = true := okMod_s (by omega)
  simp [fd_made_mark, fb_made_mark, Ky.D, Ky.mrk, h1, h2, h3, h4, h5, Int.fmod_eq_emod_of_nonneg _ (show 0 ≤ m by omega)]
theorem e_is_below {x b : Int} : fd_is_below [.v (.int x), .v (.int b)] = .ret (.bl (decide (0 ≤ x ∧ x < b))) [] := by
  by_cases h : 0 ≤ x <;> simp [fd_is_below, fb_is_below, h]
theorem e_is_integer {x : Int} : fd_is_integer [.v (.int x)] = .ret (.bl true) [] := by simp [fd_is_integer, fb_is_integer]
theorem e_is_between {x l h : Int} : fd_is_between [.v (.int x), .v (.int l), .v (.int h)] = .ret (.bl (decide (l ≤ x ∧ x ≤ h))) [] := by
  by_cases z : l ≤ x <;> simp [fd_is_between, fb_is_between, e_is_integer, z]
theorem cut1 {a : DL.D} {l : List DL.D} : DL.cutD (a :: l) (some 1) none = l := by
  simp [DL.cutD, HT.sIx]
theorem e_is_key : fd_is_key [.v k.D] = .ret (.bl true) [] := by
  obtain ⟨m, a, b, c, m2, m97, a0, am, b0, bm, c0, cm⟩ := k
  simp [fd_is_key, fb_is_key, L_is_key_1, Ky.D, K_GREATEST_MODULUS, e_is_between, m2, m97, gSl, cut1, gOk_nil, compL, e_is_below, a0, am, b0, bm, c0, cm, gAll, listB, blsOf, lim]
theorem e_check_numbers {l : List Int} (h : ∀ x ∈ l, k.Ok x) : fd_check_numbers [.v k.D, .v (.tup (l.map D.int))] = .ret .non [] := by
  obtain ⟨δ2, h2, s, rfl⟩ := x_forL_inv (γ := tgN 2) (g := D.int) (b := sIf (bNot (bV (eCall fd_is_below (aCons (eVar 2) (aCons (eBin gIx (eVar 0) (eC (.int 0))) (aNil)))))) (sRaise "InvalidNumber" ["value"] (aCons (eVar 2) (aNil))) (sNext)) (fun _ δ => ∃ s, δ = [.val k.D, .val (.tup (l.map D.int)), s]) l 0 [.val k.D, .val (.tup (l.map D.int)), .no] ⟨_, rfl⟩ (by
      rintro j hj _ ⟨s, rfl⟩
      have := h (l[j]'(by simpa using hj)) (by simp)
      refine ⟨_, _, by simp; rfl, .inl (by simp [e_is_below, this.1, this.2]; rfl), _, rfl⟩)
  simp [fd_check_numbers, fb_check_numbers, B_check_numbers_1, e_is_key, h2]
theorem e_are_below {l : List Int} (h : ∀ x ∈ l, k.Ok x) (hl : l.length ≤ 1000) : fd_are_below [.v k.D, .v (.tup (l.map D.int))] = .ret (.bl true) [] := by
  have h2 := x_compL (γ := tgN 2) (elt := eCall fd_is_below (aCons (eVar 2) (aCons (eBin gIx (eVar 0) (eC (.int 0))) (aNil)))) (g := D.int) (f := fun _ => .bl true) (δ := [.val k.D, .val (.tup (l.map D.int)), .no]) (vs := [2]) l [] (by
    intro x hx
    have := h x hx
    exact ⟨_, _, by simp; rfl, by simp [e_is_below, this.1, this.2]; rfl, by simp⟩)
  have h3 : gAll [.lst (l.map fun _ => D.bl true)] = some (.bl true) := by
    have := x_allL (l := l.map fun _ => true)
    have e : (l.map fun _ => true).all id = true := by simp
    rw [e] at this
    simpa [Function.comp_def] using this
  have h4 : l.length ≤ lim := by unfold lim; omega
  simp [fd_are_below, fb_are_below, L_are_below_1, h2, h3, h4]
theorem app_own {δ δ1 : List Sl} {i : Nat} {f : SE} {d : DL.D} {l0 l : List DL.D} (h0 : δ[i]? = some (.own (.lst l0))) (e : f δ = .ok (.v d) δ1) (h1 : δ1[i]? = some (.own (.lst l))) (hl : l.length ≤ lim) : sApp i f δ = .nx (δ1.set i (.own (.lst (l ++ [d])))) := by
  simp only [sApp, lstAt, obAt, setOb, h0, e, h1, x_bindS_ok, if_pos hl]
theorem nLc_ok {it : SI} {vs : List Nat} {γ : TgF} {cond : SB} {elt : SE} {δ δ1 δ2 : List Sl} {items acc : List DL.D} (hi : it δ = .ok ⟨items, []⟩ δ1) (hv : noOwn δ1 vs = true) (hl : items.length ≤ lim) (hc : compL [] vs γ cond elt items [] (wipeS δ1 vs) = .ok acc δ2) : nLc it vs γ cond elt δ = .ok (.lst acc) (backS δ1 δ2 vs) := by
  simp only [nLc, hi, x_bind_ok, hv, decide_eq_true hl, List.all_nil, Bool.and_true, if_true, hc]
theorem eN_ok {n : SN} {δ δ1 : List Sl} {l : List DL.D} (h : n δ = .ok (.lst l) δ1) : eN n δ = .ok (.v (.lst l)) δ1 := by
  simp only [x_eN, h, x_bind_ok, x_obD]
theorem iRng3_ok {fa : SA} {δ δ1 : List Sl} {i j c : Int} {l : List DL.D} (h : fa δ = .ok [.v (.int i), .v (.int j), .v (.int c)] δ1) (ho : okRng3 i j c = true) (hl : rngD i c (Builtin.Range.rangeSize i j c).toNat = l) : iRng3 fa δ = .ok ⟨l, []⟩ δ1 := by
  simp only [x_iRng3, h, x_bind_ok, if_pos ho, hl]
theorem seq_asg {i : Nat} {f : SE} {g : SS} {δ δ1 : List Sl} {d : DL.D} (h : f δ = .ok (.v d) δ1) : sSeq (sAsg i f) g δ = g (δ1.set i (.val d)) := by
  simp only [x_sSeq, x_sAsg, h, x_bindS_ok, x_then_nx]
theorem lim_of {n : Nat} (h : n ≤ 1000000) : n ≤ lim := h
abbrev tI (l : List Int) : DL.D := .tup (l.map D.int)
abbrev lI (l : List Int) : DL.D := .lst (l.map D.int)
def ig (l : List Int) (i : Nat) : Int := l.getD i 0
def up (row : List Int) : List Int := (List.range (row.length / 2)).map fun i => k.mrk (ig row (2 * i)) (ig row (2 * i + 1))
def lvs : Nat → List Int → List (List Int)
  | 0, l => [l]
  | n + 1, l => l :: lvs n (up k l)
theorem up_len {row : List Int} : (up k row).length = row.length / 2 := by simp [up]
theorem up_ok {row : List Int} : ∀ x ∈ up k row, k.Ok x := by
  intro x hx
  obtain ⟨i, _, rfl⟩ := List.mem_map.mp hx
  exact k.mrk_ok _ _
theorem atMap {l : List Int} {i : Nat} (h : i < l.length) : atI (l.map D.int) (i : Int) = some (.int (ig l i)) := by
  rw [DL.x_atN (by simpa using h)]
  simp [ig, h]
theorem okGet {row : List Int} (h : ∀ x ∈ row, k.Ok x) {i : Nat} (hi : i < row.length) : k.Ok (ig row i) := by
  have := h row[i] (by simp)
  simpa [ig, hi] using this
theorem rngNat {n : Nat} : rngD 0 1 n = (List.range n).map fun i => D.int (i : Nat) := by simp [rngD]
theorem rng2 {n : Nat} : rngD 0 2 n = (List.range n).map fun i : Nat => D.int (2 * (i : Int)) := by simp [rngD, Int.mul_comm]
theorem c_rows {row : List Int} {q : Nat} (hq : row.length = 2 * q) (h : ∀ x ∈ row, k.Ok x) {lv rows : Sl} :
    compL [] [4] (tgN 4) bTrue (eCall fd_made_mark (aCons (eVar 0) (aCons (eBin gIx (eVar 3) (eVar 4)) (aCons (eBin gIx (eVar 3) (eBin gAdd (eVar 4) (eC (.int 1)))) (aNil))))) ((List.range (q)).map fun i : Nat => D.int (2 * (i : Int))) [] [.val k.D, lv, rows, .val (tI row), .no] = .ok ((up k row).map D.int) [.val k.D, lv, rows, .val (tI row), .no] := by
  rw [x_compL (f := fun i => .int (k.mrk (ig row (2 * i)) (ig row (2 * i + 1))))]
  · have : row.length / 2 = q := by omega
    simp [up, this, Function.comp_def]
  · intro i hi
    have hi := List.mem_range.mp hi
    have e1 := atMap (l := row) (i := 2 * i) (by omega)
    have e2 := atMap (l := row) (i := 2 * i + 1) (by omega)
    have o1 := okGet k h (i := 2 * i) (by omega)
    have o2 := okGet k h (i := 2 * i + 1) (by omega)
    push_cast at e1 e2
    exact ⟨_, _, by simp; rfl, by simp [e1, e2, e_made_mark k o1 o2]; rfl, by simp⟩
noncomputable def T_rows : SB := (bV (eBin gGt (eCB gLen1 (aCons (eBin gIx (eVar 2) (eUn (uI fun i => .int (-i)) (eC (.int 1)))) (aNil))) (eC (.int 1))))
noncomputable def B_rows : SS := (sSeq (sAsg 3 (eBin gIx (eVar 2) (eUn (uI fun i => .int (-i)) (eC (.int 1))))) (sApp 2 (eCB gTup1 (aCons (eN (nLc (iRng3 (aCons (eC (.int 0)) (aCons (eCB gLen1 (aCons (eVar 3) (aNil))) (aCons (eC (.int 2)) (aNil))))) [4] (tgN 4) (bTrue) (eCall fd_made_mark (aCons (eVar 0) (aCons (eBin gIx (eVar 3) (eVar 4)) (aCons (eBin gIx (eVar 3) (eBin gAdd (eVar 4) (eC (.int 1)))) (aNil))))))) (aNil)))))
theorem rsz {n q : Nat} (h : n ≤ 1000) (e : n = 2 * q) : okRng3 0 n 2 = true ∧ (Builtin.Range.rangeSize 0 n 2).toNat = q := by
  have hs : Builtin.Range.rangeSize 0 n 2 = (q : Nat) := by
    unfold Builtin.Range.rangeSize
    by_cases z : (0 : Int) < n
    · simp only [show (2 : Int) > 0 by decide, if_true, if_pos z]; omega
    · simp only [show (2 : Int) > 0 by decide, if_true, if_neg z]; omega
  refine ⟨?_, by rw [hs]; omega⟩
  simp only [okRng3, hs, Builtin.Range.small, Bool.and_eq_true, decide_eq_true_eq]
  refine ⟨⟨⟨by decide, by decide⟩, ?_⟩, by omega⟩
  simp [Builtin.Range.rangeFitsLong]
  omega
theorem b_rows {pre : List DL.D} {cur : List Int} {lv s3 : Sl} {q : Nat} (ho : ∀ x ∈ cur, k.Ok x) (hl : cur.length ≤ 16) (h0 : cur.length = 2 * q) (hp : pre.length ≤ 100) : B_rows [.val k.D, lv, .own (.lst (pre ++ [tI cur])), s3, .no] = .nx [.val k.D, lv, .own (.lst (pre ++ [tI cur] ++ [tI (up k cur)])), .val (tI cur), .no] := by
  have hlim : q ≤ lim := lim_of (by omega)
  have hl2 : (pre ++ [tI cur]).length ≤ lim := lim_of (by rw [List.length_append, List.length_singleton]; omega)
  have hc := c_rows k h0 ho (lv := lv) (rows := .own (.lst (pre ++ [tI cur])))
  obtain ⟨r1, r2⟩ := rsz (n := cur.length) (Nat.le_trans hl (by decide)) h0
  have hn := nLc_ok (it := iRng3 (aCons (eC (.int 0)) (aCons (eCB gLen1 (aCons (eVar 3) (aNil))) (aCons (eC (.int 2)) (aNil))))) (vs := [4]) (γ := tgN 4) (cond := bTrue) (elt := eCall fd_made_mark (aCons (eVar 0) (aCons (eBin gIx (eVar 3) (eVar 4)) (aCons (eBin gIx (eVar 3) (eBin gAdd (eVar 4) (eC (.int 1)))) (aNil))))) (δ := [.val k.D, lv, .own (.lst (pre ++ [tI cur])), .val (tI cur), .no]) (δ1 := [.val k.D, lv, .own (.lst (pre ++ [tI cur])), .val (tI cur), .no]) (δ2 := [.val k.D, lv, .own (.lst (pre ++ [tI cur])), .val (tI cur), .no]) (items := (List.range q).map fun i : Nat => D.int (2 * (i : Int))) (acc := (up k cur).map D.int) (iRng3_ok (i := 0) (j := cur.length) (c := 2) (by simp) r1 (by rw [r2, rng2])) rfl (by rw [List.length_map, List.length_range]; exact hlim) hc
  have hn2 := eN_ok hn
  simp only [x_back_cons, x_back_nil, List.set_cons_succ, List.set_cons_zero, List.getD_cons_succ, List.getD_cons_zero] at hn2
  have hb := fun f d hf => app_own (δ := [.val k.D, lv, .own (.lst (pre ++ [tI cur])), .val (tI cur), .no]) (δ1 := [.val k.D, lv, .own (.lst (pre ++ [tI cur])), .val (tI cur), .no]) (i := 2) (f := f) (d := d) rfl hf rfl hl2
  have hg : (eCB gTup1 (aCons (eN (nLc (iRng3 (aCons (eC (.int 0)) (aCons (eCB gLen1 (aCons (eVar 3) (aNil))) (aCons (eC (.int 2)) (aNil))))) [4] (tgN 4) (bTrue) (eCall fd_made_mark (aCons (eVar 0) (aCons (eBin gIx (eVar 3) (eVar 4)) (aCons (eBin gIx (eVar 3) (eBin gAdd (eVar 4) (eC (.int 1)))) (aNil))))))) (aNil))) [.val k.D, lv, .own (.lst (pre ++ [tI cur])), .val (tI cur), .no] = .ok (.v (tI (up k cur))) [.val k.D, lv, .own (.lst (pre ++ [tI cur])), .val (tI cur), .no] := by
    simp only [x_eCB, x_aCons, hn2, x_bind_ok, x_aNil, x_looks, x_looks_nil, x_look_v, x_tupL, x_opt]
  have e3 : (eBin gIx (eVar 2) (eUn (uI fun i => .int (-i)) (eC (.int 1)))) [.val k.D, lv, .own (.lst (pre ++ [tI cur])), s3, .no] = .ok (.v (tI cur)) [.val k.D, lv, .own (.lst (pre ++ [tI cur])), s3, .no] := by simp [x_last]
  exact (seq_asg e3).trans (hb _ _ hg)
theorem t_rows {pre : List DL.D} {cur : List Int} {a lv s3 s4 : Sl} : T_rows [a, lv, .own (.lst (pre ++ [tI cur])), s3, s4] = .ok (decide (1 < cur.length)) [a, lv, .own (.lst (pre ++ [tI cur])), s3, s4] := by
  have : ((1 : Int) < (cur.length : Int)) = (1 < cur.length) := by apply propext; omega
  simp [T_rows, x_last, this]
theorem w_rows : ∀ (n N : Nat) (pre : List DL.D) (cur : List Int) (lv s3 : Sl), cur.length = 2 ^ n → n ≤ 4 → n < N → pre.length + n ≤ 100 → (∀ x ∈ cur, k.Ok x) → ∃ s3', whileN T_rows B_rows N [.val k.D, lv, .own (.lst (pre ++ [tI cur])), s3, .no] = .nx [.val k.D, lv, .own (.lst (pre ++ (lvs k n cur).map tI)), s3', .no] := by
  intro n
  induction n with
  | zero =>
    intro N pre cur lv s3 hl _ hN hp ho
    obtain ⟨N, rfl⟩ : ∃ M, N = M + 1 := ⟨N - 1, by omega⟩
    exact ⟨s3, by simp [whileN, T_rows, x_last, hl, lvs]⟩
  | succ n ih =>
    intro N pre cur lv s3 hl h4 hN hp ho
    obtain ⟨N, rfl⟩ : ∃ M, N = M + 1 := ⟨N - 1, by omega⟩
    have h2 : cur.length = 2 * 2 ^ n := by rw [hl, Nat.pow_succ]; omega
    have h16 : 2 ^ n ≤ 2 ^ 3 := Nat.pow_le_pow_right (by decide) (by omega)
    have h1 : 1 < cur.length := by have : 0 < 2 ^ n := Nat.pos_of_ne_zero (by simp); omega
    obtain ⟨s3', e⟩ := ih N (pre ++ [tI cur]) (up k cur) lv (.val (tI cur)) (by rw [up_len]; omega) (by omega) (by omega) (by simp; omega) (up_ok k)
    refine ⟨s3', ?_⟩
    have hb := b_rows k (pre := pre) (lv := lv) (s3 := s3) ho (by omega) h2 (by omega)
    simp only [whileN, t_rows, x_bindS_ok, h1, decide_true, if_true, hb]
    rw [e]
    simp [lvs]
theorem e_rows_up {n : Nat} {l : List Int} (hl : l.length = 2 ^ n) (hn : n ≤ 4) (ho : ∀ x ∈ l, k.Ok x) : fd_rows_up [.v k.D, .v (tI l)] = .ret (.lst ((lvs k n l).map tI)) [] := by
  obtain ⟨s3, e⟩ := w_rows k n 1000 [] l (.val (tI l)) .no hl hn (by omega) (by simp; omega) ho
  simp only [T_rows, B_rows, List.nil_append] at e
  simp [fd_rows_up, fb_rows_up, B_rows_up_1, T_rows_up_1, L_rows_up_1, sWhile, e]
theorem in_leaf (n : Nat) (h : n ≤ 4) : gNotIn (.int ((2 ^ n : Nat) : Int)) K_LEAF_NUMBERS = some (.bl false) := by
  have : n = 0 ∨ n = 1 ∨ n = 2 ∨ n = 3 ∨ n = 4 := by omega
  rcases this with rfl | rfl | rfl | rfl | rfl <;> simp [gNotIn, isIn, isInL, K_LEAF_NUMBERS, toPy, toPyL, inOk, PyData.plain, PyData.plainAll, PyData.depth, PyData.depthAll, PyData.eqv]
theorem e_check_numbers0 : fd_check_numbers [.v k.D, .v (.tup [])] = .ret .non [] := e_check_numbers k (l := []) (by simp)
theorem e_check_leaves {n : Nat} {l : List Int} (hl : l.length = 2 ^ n) (hn : n ≤ 4) (ho : ∀ x ∈ l, k.Ok x) : fd_check_leaves [.v k.D, .v (tI l)] = .ret .non [] := by
  have h16 : 2 ^ n ≤ 2 ^ 4 := Nat.pow_le_pow_right (by decide) hn
  have h1 := e_are_below k ho (by omega)
  have h2 := in_leaf n hn
  rw [← hl] at h2
  simp [fd_check_leaves, fb_check_leaves, e_check_numbers0, h1, h2]
def ilv : Nat → List Int → List (List Int)
  | 0, _ => []
  | n + 1, l => l :: ilv n (up k l)
def topr : Nat → List Int → List Int
  | 0, l => l
  | n + 1, l => topr n (up k l)
def rt (n : Nat) (l : List Int) : Int := ig (topr k n l) 0
theorem lvs_eq : ∀ (n : Nat) (l : List Int), lvs k n l = ilv k n l ++ [topr k n l]
  | 0, l => rfl
  | n + 1, l => by simp [lvs, ilv, topr, lvs_eq n]
theorem topr_len : ∀ (n : Nat) (l : List Int), l.length = 2 ^ n → (topr k n l).length = 1
  | 0, l, h => by simpa [topr] using h
  | n + 1, l, h => topr_len n _ (by rw [up_len, h, Nat.pow_succ]; omega)
theorem topr_ok : ∀ (n : Nat) (l : List Int), (∀ x ∈ l, k.Ok x) → ∀ x ∈ topr k n l, k.Ok x
  | 0, l, h => h
  | n + 1, l, h => topr_ok n _ (up_ok k)
theorem topr_eq {n : Nat} {l : List Int} (h : l.length = 2 ^ n) : topr k n l = [rt k n l] := by
  have := topr_len k n l h
  unfold rt
  match e : topr k n l, this with
  | [x], _ => simp [ig]
theorem rt_ok {n : Nat} {l : List Int} (h : l.length = 2 ^ n) (ho : ∀ x ∈ l, k.Ok x) : k.Ok (rt k n l) := topr_ok k n l ho _ (by rw [topr_eq k h]; simp)
theorem at_last {g : List Int → DL.D} {n : Nat} {l : List Int} : atI ((lvs k n l).map g) (-1) = some (g (topr k n l)) := by
  rw [lvs_eq, List.map_append]; exact DL.x_last
theorem cut_last {g : List Int → DL.D} {n : Nat} {l : List Int} : DL.cutD ((lvs k n l).map g) none (some (-1)) = (ilv k n l).map g := by
  have h : (-1 + ((ilv k n l).length + 1 : Int)).toNat = (ilv k n l).length := by omega
  rw [lvs_eq]
  simp [DL.cutD, HT.sIx, h]
theorem e_root_of {n : Nat} {l : List Int} (hl : l.length = 2 ^ n) (hn : n ≤ 4) (ho : ∀ x ∈ l, k.Ok x) : fd_root_of [.v k.D, .v (tI l)] = .ret (.int (rt k n l)) [] := by
  simp [fd_root_of, fb_root_of, e_check_leaves k hl hn ho, e_rows_up k hl hn ho, at_last, topr_eq k hl]
def sib (a : Nat) : Nat := a + 1 - 2 * (a % 2)
theorem sib_lt {a n : Nat} (h : a < 2 * n) : sib a < 2 * n := by unfold sib; omega
theorem sib_int (a : Nat) : ((a : Int) + 1 - 2 * ((a : Int) % 2)) = (sib a : Int) := by unfold sib; omega
theorem bitAnd1 (a : Nat) : Builtin.bitAnd (a : Int) 1 = ((a % 2 : Nat) : Int) := by
  rw [PyProof.Rows.bitAnd_m1]; omega
theorem bitXor1 (a : Nat) : Builtin.bitXor (a : Int) 1 = (sib a : Int) := by
  rw [PyProof.Rows.bitXor_and, PyProof.Rows.bitAnd_m1]; unfold sib; omega
def pth : Nat → List Int → Nat → List Int
  | 0, _, _ => []
  | n + 1, l, a => ig l (sib a) :: pth n (up k l) (a / 2)
theorem pth_len : ∀ {n : Nat} {l : List Int} {a : Nat}, (pth k n l a).length = n
  | 0, _, _ => rfl
  | n + 1, l, a => by simp [pth, pth_len (n := n)]
theorem pth_ok : ∀ {n : Nat} {l : List Int} {a : Nat}, l.length = 2 ^ n → a < 2 ^ n → (∀ x ∈ l, k.Ok x) → ∀ x ∈ pth k n l a, k.Ok x
  | 0, _, _, _, _, _ => by simp [pth]
  | n + 1, l, a, hl, ha, ho => by
    have h2 : l.length = 2 * 2 ^ n := by rw [hl, Nat.pow_succ]; omega
    intro x hx
    simp only [pth, List.mem_cons] at hx
    rcases hx with rfl | hx
    · exact okGet k ho (by have := sib_lt (a := a) (n := 2 ^ n) (by omega); omega)
    · exact pth_ok (by rw [up_len]; omega) (by omega) (up_ok k) x hx
noncomputable def B_path : SS := (sSeq (sApp 3 (eBin gIx (eVar 5) (eBin gXor (eVar 4) (eC (.int 1))))) (sAsg 4 (eBin gDiv (eVar 4) (eC (.int 2)))))
theorem f_path : ∀ (n : Nat) (l : List Int) (a : Nat) (acc : List Int) (s0 s1 s2 s5 : Sl), l.length = 2 ^ n → a < 2 ^ n → acc.length + n ≤ 1000 → ∃ s5' a', forL (tgN 5) B_path ((ilv k n l).map tI) [s0, s1, s2, .own (.lst (acc.map D.int)), .val (.int a), s5] = .nx [s0, s1, s2, .own (.lst ((acc ++ pth k n l a).map D.int)), .val (.int a'), s5']
  | 0, l, a, acc, s0, s1, s2, s5, _, _, _ => ⟨s5, a, by simp [ilv, pth]⟩
  | n + 1, l, a, acc, s0, s1, s2, s5, hl, ha, hc => by
    have h2 : l.length = 2 * 2 ^ n := by rw [hl, Nat.pow_succ]; omega
    obtain ⟨s3', a', e⟩ := f_path n (up k l) (a / 2) (acc ++ [ig l (sib a)]) s0 s1 s2 (.val (tI l)) (by rw [up_len]; omega) (by omega) (by simp; omega)
    have hi := atMap (l := l) (i := sib a) (by have := sib_lt (a := a) (n := 2 ^ n) (by omega); omega)
    have h4 : okDiv (a : Int) 2 = true := by simp [okDiv]
    have h6 : (a : Int).fdiv 2 = ((a / 2 : Nat) : Int) := by rw [Int.fdiv_eq_ediv_of_nonneg _ (by decide)]; omega
    have h8 : acc.length ≤ lim := lim_of (by omega)
    have hb : B_path [s0, s1, s2, .own (.lst (acc.map D.int)), .val (.int a), .val (tI l)] = .nx [s0, s1, s2, .own (.lst ((acc ++ [ig l (sib a)]).map D.int)), .val (.int ((a / 2 : Nat) : Int)), .val (tI l)] := by
      simp [B_path, h4, h6, bitXor1, hi, h8]
    exact ⟨s3', a', by rw [ilv, List.map_cons, x_forL_nx rfl hb, e]; simp [pth]⟩
theorem e_path_of {n : Nat} {l : List Int} {a : Nat} (hl : l.length = 2 ^ n) (ha : a < 2 ^ n) (hn : n ≤ 4) (ho : ∀ x ∈ l, k.Ok x) : fd_path_of [.v k.D, .v (tI l), .v (.int a)] = .ret (tI (pth k n l a)) [] := by
  obtain ⟨s3, a', e⟩ := f_path k n l a [] (.val k.D) (.val (tI l)) (.val (.int a)) .no hl ha (by simp; omega)
  simp only [B_path, List.nil_append, List.map_nil] at e
  have hb : (0 : Int) ≤ a ∧ (a : Int) < (l.length : Int) := by rw [hl]; omega
  simp [fd_path_of, fb_path_of, B_path_of_1, e_check_leaves k hl hn ho, e_rows_up k hl hn ho, e_is_below, hb.1, hb.2, gSl, cut_last, e]
mutual
def sm : DL.D → DL.D → Bool
  | t, .tup ds => match t with | .tup ts => decide (ts.length = ds.length) && smL ts ds | _ => false
  | t, .bl b => match t with | .bl c => decide (c = b) | _ => false
  | t, .str b => match t with | .str c => decide (c = b) | _ => false
  | t, .non => match t with | .non => true | _ => false
  | t, .int b => match t with | .int c => decide (c = b) | _ => false
  | _, _ => false
def smL : List DL.D → List DL.D → Bool
  | [], [] => true
  | t :: ts, d :: ds => sm t d && smL ts ds
  | _, _ => false
end
mutual
def dsz : DL.D → Nat
  | .tup l => 1 + dszL l
  | _ => 1
def dszL : List DL.D → Nat
  | [] => 0
  | d :: l => dsz d + dszL l
end
mutual
def okD : DL.D → Bool
  | .tup l => okDL l
  | .bl _ => true
  | .str _ => true
  | .non => true
  | .int _ => true
  | _ => false
def okDL : List DL.D → Bool
  | [] => true
  | d :: l => okD d && okDL l
end
theorem dsz_pos : ∀ d, 1 ≤ dsz d
  | .tup l => by simp [dsz]
  | .bl _ | .str _ | .non | .int _ | .lst _ | .frl _ | .ty _ | .cl _ | .dct _ _ | .obj _ _ _ | .exc _ _ _ => by simp [dsz]
theorem dszL_len : ∀ l, l.length ≤ dszL l
  | [] => Nat.le_refl _
  | d :: l => by have := dszL_len l; have := dsz_pos d; simp [dszL]; omega
def pr (p : DL.D × DL.D) : DL.D := .tup [p.1, p.2]
theorem zip_pr : ∀ (ts ds : List DL.D), zipD ts ds = (ts.zip ds).map pr
  | [], _ => by simp [zipD]
  | _ :: _, [] => by simp [zipD]
  | t :: ts, d :: ds => by have := zip_pr ts ds; simp [zipD, pr] at this ⊢; exact this
theorem smL_zip : ∀ (ts ds : List DL.D), ts.length = ds.length → smL ts ds = (ts.zip ds).all fun p => sm p.1 p.2
  | [], [], _ => by simp [smL]
  | [], _ :: _, h => by simp at h
  | _ :: _, [], h => by simp at h
  | t :: ts, d :: ds, h => by simp [smL, smL_zip ts ds (by simpa using h)]
def stk (L : List (DL.D × DL.D)) : Nat := (L.map fun p => dsz p.2).sum
theorem stk_zip : ∀ (ts ds : List DL.D), ts.length = ds.length → stk (ts.zip ds) = dszL ds
  | [], [], _ => by simp [stk, dszL]
  | [], _ :: _, h => by simp at h
  | _ :: _, [], h => by simp at h
  | t :: ts, d :: ds, h => by have := stk_zip ts ds (by simpa using h); simp [stk, dszL] at this ⊢; omega
theorem stk_len : ∀ L, L.length ≤ stk L
  | [] => by simp [stk]
  | p :: L => by have := stk_len L; have := dsz_pos p.2; simp [stk] at *; omega
theorem stk_app {L M} : stk (L ++ M) = stk L + stk M := by simp [stk]
theorem okDL_zip : ∀ (ts ds : List DL.D), okDL ts = true → okDL ds = true → ∀ p ∈ ts.zip ds, okD p.1 = true ∧ okD p.2 = true
  | [], _, _, _ => by simp
  | _ :: _, [], _, _ => by simp
  | t :: ts, d :: ds, h, g => by
    simp [okDL] at h g
    intro p hp
    simp at hp
    rcases hp with rfl | hp
    · exact ⟨h.1, g.1⟩
    · exact okDL_zip ts ds h.2 g.2 p hp
theorem ne_bl {a b : Bool} : gNe (.bl a) (.bl b) = some (.bl (!decide (a = b))) := by
  cases a <;> cases b <;> simp [gNe, toPy, eqOk, PyData.plain, PyData.depth, PyData.eqv]
theorem ne_str {a b : Str} : gNe (.str a) (.str b) = some (.bl (!decide (a = b))) := by
  simp [gNe, toPy, eqOk, PyData.plain, PyData.depth, PyData.eqv]
  by_cases h : a = b <;> simp [h]
@[simp] theorem isiNT : gIsi [.non, .ty "tuple"] = some (.bl false) := (rfl)
@[simp] theorem isiNB : gIsi [.non, .ty "bool"] = some (.bl false) := (rfl)
@[simp] theorem isiNS : gIsi [.non, .ty "str"] = some (.bl false) := (rfl)
@[simp] theorem isiNI : gIsi [.non, .ty "int"] = some (.bl false) := (rfl)
@[simp] theorem isN_n : gIsN .non .non = some (.bl true) := (rfl)
@[simp] theorem isN_i {i : Int} : gIsN (.int i) .non = some (.bl false) := (rfl)
@[simp] theorem isN_b {i : Bool} : gIsN (.bl i) .non = some (.bl false) := (rfl)
@[simp] theorem isN_s {i : Str} : gIsN (.str i) .non = some (.bl false) := (rfl)
@[simp] theorem isN_t {i : List DL.D} : gIsN (.tup i) .non = some (.bl false) := (rfl)
@[simp] theorem notN_n : gNotN .non .non = some (.bl false) := (rfl)
@[simp] theorem notN_i {i : Int} : gNotN (.int i) .non = some (.bl true) := (rfl)
@[simp] theorem notN_b {i : Bool} : gNotN (.bl i) .non = some (.bl true) := (rfl)
@[simp] theorem notN_s {i : Str} : gNotN (.str i) .non = some (.bl true) := (rfl)
@[simp] theorem notN_t {i : List DL.D} : gNotN (.tup i) .non = some (.bl true) := (rfl)
mutual
theorem sm_refl : ∀ d, okD d = true → sm d d = true
  | .tup l, h => by simp [sm, smL_refl l (by simpa [okD] using h)]
  | .bl _, _ | .str _, _ | .non, _ | .int _, _ => by simp [sm]
  | .lst _, h | .frl _, h | .ty _, h | .cl _, h | .dct _ _, h | .obj _ _ _, h | .exc _ _ _, h => by simp [okD] at h
theorem smL_refl : ∀ d, okDL d = true → smL d d = true
  | [], _ => by simp [smL]
  | d :: l, h => by simp [okDL] at h; simp [smL, sm_refl d h.1, smL_refl l h.2]
end
def stp (a : Nat) (x p : Int) : Int := if a % 2 = 0 then k.mrk x p else k.mrk p x
def clm : List Int → Nat → Int → Int
  | [], _, x => x
  | p :: ps, a, x => clm ps (a / 2) (stp k a x p)
theorem stp_ok (a : Nat) (x p : Int) : k.Ok (stp k a x p) := by unfold stp; split <;> exact k.mrk_ok _ _
theorem clm_ok : ∀ (ps : List Int) (a : Nat) {x : Int}, k.Ok x → k.Ok (clm k ps a x)
  | [], _, _, h => h
  | p :: ps, a, x, h => clm_ok ps (a / 2) (stp_ok k a x p)
theorem clm_app : ∀ (ps : List Int) (a : Nat) (x q : Int), clm k (ps ++ [q]) a x = stp k (a / 2 ^ ps.length) (clm k ps a x) q
  | [], a, x, q => by simp [clm]
  | p :: ps, a, x, q => by simp [clm, clm_app ps, Nat.pow_succ', Nat.div_div_eq_div_mul]
theorem h_div2 (a : Nat) : ((a : Int).fdiv 2) = ((a / 2 : Nat) : Int) := by rw [Int.fdiv_eq_ediv_of_nonneg _ (by decide)]; omega
theorem h_mod2 (a : Nat) : ((a : Int).fmod 2) = ((a % 2 : Nat) : Int) := by rw [Int.fmod_eq_emod_of_nonneg _ (by decide)]; omega
def prs : List Int → Nat → Int → List (Int × Int)
  | [], _, _ => []
  | p :: ps, a, x => (if a % 2 = 0 then (x, p) else (p, x)) :: prs ps (a / 2) (stp k a x p)
def dP (p : Int × Int) : DL.D := .tup [.int p.1, .int p.2]
theorem prs_len : ∀ (ps : List Int) (a : Nat) (x : Int), (prs k ps a x).length = ps.length
  | [], _, _ => rfl
  | p :: ps, a, x => by simp [prs, prs_len ps]
theorem prs_ok : ∀ (ps : List Int) (a : Nat) (x : Int), (∀ p ∈ ps, k.Ok p) → k.Ok x → ∀ q ∈ prs k ps a x, k.Ok q.1 ∧ k.Ok q.2
  | [], _, _, _, _ => by simp [prs]
  | p :: ps, a, x, ho, hx => by
    intro q hq
    have hp := ho p (by simp)
    simp only [prs, List.mem_cons] at hq
    rcases hq with rfl | hq
    · split
      · exact ⟨hx, hp⟩
      · exact ⟨hp, hx⟩
    · exact prs_ok ps (a / 2) _ (fun q hq => ho q (by simp [hq])) (stp_ok k a x p) q hq
theorem prs_last : ∀ (ps : List Int) (a : Nat) (x : Int) (h : ps ≠ []), ∃ pre q, prs k ps a x = pre ++ [q] ∧ k.mrk q.1 q.2 = clm k ps a x
  | [], _, _, h => absurd rfl h
  | [p], a, x, _ => ⟨[], if a % 2 = 0 then (x, p) else (p, x), by simp [prs], by
      simp only [clm, stp]; split <;> rfl⟩
  | p :: p2 :: ps, a, x, _ => by
    obtain ⟨pre, q, e, e2⟩ := prs_last (p2 :: ps) (a / 2) (stp k a x p) (by simp)
    refine ⟨(if a % 2 = 0 then (x, p) else (p, x)) :: pre, q, ?_, ?_⟩
    · rw [prs, e]; rfl
    · rw [clm]; exact e2
theorem f_pairs : ∀ (ps : List Int) (j : Nat) (a0 : Nat) (a : Nat) (x : Int) (acc : List (Int × Int)) (s2 s3 s6 s7 s8 : Sl), a = a0 / 2 ^ j → (∀ p ∈ ps, k.Ok p) → k.Ok x → acc.length + ps.length ≤ 1000 → ∃ x' s6' s7' s8', forL (tgTup 2 (tgCons (tgN 6) (tgCons (tgN 7) (tgNil)))) B_pairs_up_1 (((ps.map D.int).zipIdx j).map fun p => .tup [.int (p.2 : Nat), p.1]) [.val k.D, .val (.int a0), s2, s3, .own (.lst (acc.map dP)), .val (.int x), s6, s7, s8] = .nx [.val k.D, .val (.int a0), s2, s3, .own (.lst ((acc ++ prs k ps a x).map dP)), x', s6', s7', s8']
  | [], j, a0, a, x, acc, s2, s3, s6, s7, s8, _, _, _, _ => ⟨.val (.int x), s6, s7, s8, by simp [prs]⟩
  | p :: ps, j, a0, a, x, acc, s2, s3, s6, s7, s8, ha, ho, hx, hc => by
    have hp := ho p (by simp)
    have ha2 : a / 2 = a0 / 2 ^ (j + 1) := by rw [ha, Nat.div_div_eq_div_mul, Nat.pow_succ]
    simp only [List.length_cons] at hc
    obtain ⟨x', s6', s7', s8', e⟩ := f_pairs ps (j + 1) a0 (a / 2) (stp k a x p) (acc ++ [if a % 2 = 0 then (x, p) else (p, x)]) s2 s3 (.val (.int j)) (.val (.int p)) (.val (dP (if a % 2 = 0 then (x, p) else (p, x)))) ha2 (fun q hq => ho q (by simp [hq])) (stp_ok k a x p) (by simp; omega)
    have hs : okShr (a0 : Int) (j : Int) = true := by simp [okShr]
    have hsh : (a0 : Int) / 2 ^ j = (a : Int) := by rw [ha]; push_cast; rfl
    have h8 : acc.length ≤ lim := lim_of (by omega)
    have hb : B_pairs_up_1 [.val k.D, .val (.int a0), s2, s3, .own (.lst (acc.map dP)), .val (.int x), .val (.int j), .val (.int p), s8] = .nx [.val k.D, .val (.int a0), s2, s3, .own (.lst ((acc ++ [if a % 2 = 0 then (x, p) else (p, x)]).map dP)), .val (.int (stp k a x p)), .val (.int j), .val (.int p), .val (dP (if a % 2 = 0 then (x, p) else (p, x)))] := by
      by_cases h : a % 2 = 0
      · have h' : (((a % 2 : Nat) : Int) != 0) = false := by simp; omega
        simp only [B_pairs_up_1]
        simp [hs, hsh, bitAnd1, h', h8, e_made_mark k hx hp, stp, h, dP, -Int.natCast_emod]
      · have h' : (((a % 2 : Nat) : Int) != 0) = true := by simp; omega
        simp only [B_pairs_up_1]
        simp [hs, hsh, bitAnd1, h', h8, e_made_mark k hp hx, stp, h, dP, -Int.natCast_emod]
    refine ⟨x', s6', s7', s8', ?_⟩
    rw [List.map_cons, List.zipIdx_cons, List.map_cons, x_forL_nx (by simp) hb, e]
    simp [prs]
theorem e_pairs_up {ps : List Int} {a : Nat} {x : Int} (ho : ∀ p ∈ ps, k.Ok p) (hx : k.Ok x) (hl : ps.length ≤ 900) : fd_pairs_up [.v k.D, .v (.int a), .v (.int x), .v (tI ps)] = .ret (.lst ((prs k ps a x).map dP)) [] := by
  obtain ⟨x', s6', s7', s8', e⟩ := f_pairs k ps 0 a a x [] (.val (.int x)) (.val (tI ps)) .no .no .no (by simp) ho hx (by simp; omega)
  simp only [List.map_nil, List.nil_append] at e
  simp [fd_pairs_up, fb_pairs_up, enumD, e]
theorem e_leads_to {ps : List Int} {a : Nat} {x r : Int} (ho : ∀ p ∈ ps, k.Ok p) (hx : k.Ok x) (hl : ps.length ≤ 900) : fd_leads_to [.v k.D, .v (.int r), .v (.int a), .v (.int x), .v (tI ps)] = .ret (.bl (decide (clm k ps a x = r) && decide (a < 2 ^ ps.length))) [] := by
  have e := e_pairs_up k (a := a) ho hx hl
  have hsh : okPow 1 (ps.length : Int) = true := by simp [okPow]; omega
  have hlt : ((a : Int) < 2 ^ ps.length) = (a < 2 ^ ps.length) := by
    apply propext
    have : ((2 ^ ps.length : Nat) : Int) = 2 ^ ps.length := by push_cast; rfl
    omega
  by_cases hp : ps = []
  · subst hp
    simp only [prs, List.map_nil] at e
    by_cases hc : x = r
    · subst hc
      simp [fd_leads_to, fb_leads_to, e, okPow, clm]
      omega
    · simp [fd_leads_to, fb_leads_to, e, okPow, clm, hc]
  · obtain ⟨pre, q, e1, e2⟩ := prs_last k ps a x hp
    obtain ⟨q1, q2⟩ := prs_ok k ps a x ho hx q (by rw [e1]; simp)
    rw [e1, List.map_append, List.map_cons, List.map_nil] at e
    have hn : ¬ (((pre.length : Int) + 1) = 0) := by omega
    have em := e_made_mark k q1 q2
    rw [e2] at em
    by_cases hc : clm k ps a x = r <;> simp [fd_leads_to, fb_leads_to, e, hsh, hn, x_last, dP, em, hc, hlt]
theorem e_check_place {a : Nat} : fd_check_place [.v (.int a)] = .ret .non [] := by
  have h : ¬ ((a : Int) < 0) := by omega
  simp [fd_check_place, fb_check_place, e_is_integer, h]
theorem e_is_path {ps : List Int} {a : Nat} {x r : Int} (ho : ∀ p ∈ ps, k.Ok p) (hx : k.Ok x) (hr : k.Ok r) (hl : ps.length ≤ 900) : fd_is_path [.v k.D, .v (.int r), .v (.int a), .v (.int x), .v (tI ps)] = .ret (.bl (decide (clm k ps a x = r) && decide (a < 2 ^ ps.length))) [] := by
  have h1 := e_check_numbers k (l := [r]) (by simpa using hr)
  have h2 := e_check_numbers k (l := [x]) (by simpa using hx)
  have h3 := e_are_below k ho (by omega)
  simp only [List.map_cons, List.map_nil] at h1 h2
  simp [fd_is_path, fb_is_path, h1, h2, h3, e_check_place, e_leads_to k ho hx hl]
def pf (x : Int) (ps : List Int) : DL.D := .tup [.int x, tI ps]
theorem e_is_proof {ps : List Int} {a : Nat} {x r : Int} (ho : ∀ p ∈ ps, k.Ok p) (hx : k.Ok x) (hl : ps.length ≤ 900) : fd_is_proof [.v k.D, .v (.int r), .v (.int a), .v (pf x ps)] = .ret (.bl (decide (clm k ps a x = r) && decide (a < 2 ^ ps.length))) [] := by
  have h3 := e_are_below k ho (by omega)
  simp [fd_is_proof, fb_is_proof, pf, h3, e_is_below, hx.1, hx.2, e_leads_to k ho hx hl]
end Pg
set_option Elab.async false
set_option linter.all false
set_option maxRecDepth 100000
set_option maxHeartbeats 1000000
namespace Pg
open PySem PySem.Spec L2 DL
open PyProof.Rows hiding St
variable (k : Ky)
def nI (l : List Nat) : List DL.D := l.map fun n => .int (n : Nat)
theorem small_of {n : Nat} (h : n ≤ 1000000) : small62 (n : Int) = true := by simp only [small62, Bool.and_eq_true, decide_eq_true_eq]; omega
theorem x_compLg {α : Type} {gd : List (Nat × List DL.D)} {γ : TgF} {cond : SB} {elt : SE} {g : α → DL.D} {p : α → Bool} {f : α → DL.D} {δ : List Sl} {vs : List Nat} (hg : gOk gd δ) : ∀ (l : List α) (acc : List DL.D), (∀ d ∈ l, ∃ δ1 δ2 δ3, γ (g d) δ = some δ1 ∧ cond δ1 = .ok (p d) δ2 ∧ wipeS δ2 vs = δ ∧ (p d = true → elt δ2 = .ok (.v (f d)) δ3 ∧ wipeS δ3 vs = δ)) → compL gd vs γ cond elt (l.map g) acc δ = .ok (acc ++ (l.filter p).map f) δ
  | [], acc, _ => by simp [compL, hg]
  | d :: l, acc, h => by
    obtain ⟨δ1, δ2, δ3, e1, e2, e3, e4⟩ := h d (by simp)
    have := fun acc => x_compLg hg l acc (fun d hd => h d (by simp [hd]))
    by_cases z : p d = true
    · obtain ⟨e5, e6⟩ := e4 z
      simp [compL, hg, e1, e2, e3, e5, e6, this, z]
    · have z' : p d = false := by simpa using z
      simp [compL, hg, e1, e2, e3, this, z']
theorem ig_mem {l : List Int} {i : Nat} (h : i < l.length) : ig l i ∈ l := by simp [ig, h]
@[simp] theorem x_nDict1 {δ : List Sl} {fk fv : SE} : nDict1 fk fv δ = (match fk δ with
  | .ok (.v kd) δ1 => match fv δ1 with
    | .ok (.v d) δ2 => match keyD kd with
      | some k => .ok (.dk [k] [d]) δ2
      | none => .bad
    | _ => .bad
  | _ => .bad) := (rfl)
@[simp] theorem x_ixD {ks : List Key} {vs : List DL.D} {i : Int} : gIx (.dct ks vs) (.int i) = valD ks vs (.inl i) := (rfl)
theorem nodup_len : ∀ (m : Nat) (l : List Nat), l.Nodup → (∀ x ∈ l, x < m) → l.length ≤ m
  | 0, [], _, _ => by simp
  | 0, a :: l, _, h => by have := h a (by simp); omega
  | m + 1, l, hn, h => by
    have h1 := nodup_len m (l.erase m) (hn.erase m) (fun x hx => by
      have hx' := (List.Nodup.mem_erase_iff hn).mp hx
      have := h x hx'.2
      have := hx'.1
      omega)
    have := List.length_erase (a := m) (l := l)
    split at this <;> omega
theorem nodup_lenI {m : Int} {l : List Int} (hn : l.Nodup) (h : ∀ x ∈ l, 0 ≤ x ∧ x < m) : (l.length : Int) ≤ m ∨ l = [] := by
  cases l with
  | nil => exact .inr rfl
  | cons a r =>
    have hm : 0 ≤ m := by have := h a (by simp); omega
    have h1 := nodup_len m.toNat ((a :: r).map Int.toNat) (by
      refine (List.pairwise_map.mpr ?_)
      exact List.Pairwise.imp_of_mem (fun {x y} hx hy hxy => by have := h x hx; have := h y hy; omega) hn) (by
      intro x hx
      obtain ⟨y, hy, rfl⟩ := List.mem_map.mp hx
      have := h y hy
      omega)
    simp only [List.length_map] at h1
    left
    omega
abbrev En := Int × List Int
def eK (e : List En) : List Key := e.map fun p => .inl p.1
def eV (e : List En) : List DL.D := e.map fun p => tI p.2
def hasE (e : List En) (y : Int) : Bool := e.any fun p => decide (p.1 = y)
def insE (e : List En) (q : En) : List En := if hasE e q.1 then e else e ++ [q]
theorem val_E : ∀ (e : List En) (y : Int), valD (eK e) (eV e) (.inl y) = (e.find? fun p => decide (p.1 = y)).map fun p => tI p.2
  | [], y => rfl
  | p :: e, y => by
    have ih := val_E e y
    simp only [eK, eV] at ih
    by_cases h : p.1 = y
    · simp [eK, eV, valD, h]
    · have h2 : ¬ (Sum.inl p.1 : Key) = Sum.inl y := fun z => h (Sum.inl.inj z)
      simp only [eK, eV, List.map_cons, valD, if_neg h2, ih]
      simp [h]
theorem isSome_E (e : List En) (y : Int) : (valD (eK e) (eV e) (.inl y)).isSome = hasE e y := by
  rw [val_E, Option.isSome_map]
  induction e with
  | nil => rfl
  | cons p e ih =>
    simp only [hasE, List.any_cons, List.find?_cons] at *
    by_cases h : p.1 = y <;> simp [h, ih]
theorem hasK_E (e : List En) (y : Int) : hasK (eK e) (.inl y) = hasE e y := by
  simp only [hasK, eK, hasE, List.any_map]
  congr 1
  funext p
  by_cases h : p.1 = y
  · simp [h]
  · have h2 : ¬ (Sum.inl p.1 : Key) = Sum.inl y := fun z => h (Sum.inl.inj z)
    simp [h, h2]
theorem put_E {e : List En} {y : Int} {p : List Int} (h : hasE e y = false) : putKs (eK e) (.inl y) = eK (insE e (y, p)) ∧ putVs (eK e) (eV e) (.inl y) (tI p) = eV (insE e (y, p)) := by
  have h2 := hasK_E e y
  rw [h] at h2
  simp only [putKs, putVs, h2, Bool.false_eq_true, if_false]
  simp [insE, h, eK, eV]
theorem hasE_iff {e : List En} {y : Int} : hasE e y = true ↔ y ∈ e.map Prod.fst := by simp [hasE]
theorem mem_insE {e : List En} {q : En} {x : En} (h : x ∈ insE e q) : x ∈ e ∨ x = q := by
  unfold insE at h
  split at h
  · exact .inl h
  · simpa using h
theorem key_insE {e : List En} {q : En} {y : Int} : y ∈ (insE e q).map Prod.fst ↔ y ∈ e.map Prod.fst ∨ y = q.1 := by
  unfold insE
  split
  · rename_i h
    rw [hasE_iff] at h
    constructor
    · exact .inl
    · rintro (h1 | rfl)
      · exact h1
      · exact h
  · simp
theorem nd_insE {e : List En} {q : En} (h : (e.map Prod.fst).Nodup) : ((insE e q).map Prod.fst).Nodup := by
  unfold insE
  split
  · exact h
  · rename_i h1
    have h2 : q.1 ∉ e.map Prod.fst := fun z => h1 (hasE_iff.mpr z)
    simp only [List.map_append, List.map_cons, List.map_nil]
    rw [List.nodup_append]
    refine ⟨h, by simp, ?_⟩
    intro a ha b hb
    simp at hb
    subst hb
    intro z
    exact h2 (z ▸ ha)
def insAll (c : List En) (e : List En) : List En := c.foldl insE e
theorem mem_insAll : ∀ (c e : List En) {x : En}, x ∈ insAll c e → x ∈ e ∨ x ∈ c
  | [], e, x, h => .inl h
  | q :: c, e, x, h => by
    rcases mem_insAll c (insE e q) h with h | h
    · rcases mem_insE h with h | h
      · exact .inl h
      · exact .inr (by simp [h])
    · exact .inr (by simp [h])
theorem key_insAll : ∀ (c e : List En) {y : Int}, y ∈ (insAll c e).map Prod.fst ↔ y ∈ e.map Prod.fst ∨ y ∈ c.map Prod.fst
  | [], e, y => by simp [insAll]
  | q :: c, e, y => by
    have := key_insAll c (insE e q) (y := y)
    unfold insAll at *
    rw [List.foldl_cons, this, key_insE, List.map_cons, List.mem_cons, or_assoc]
theorem nd_insAll : ∀ (c e : List En), (e.map Prod.fst).Nodup → ((insAll c e).map Prod.fst).Nodup
  | [], e, h => h
  | q :: c, e, h => nd_insAll c (insE e q) (nd_insE h)
def rM : List Nat := List.range k.m.toNat
def cand (a : Nat) (p : En) : List En := (rM k).map fun q => (stp k a p.1 (q : Nat), p.2 ++ [(q : Int)])
def nxE (a : Nat) (e : List En) : List En := insAll (e.flatMap (cand k a)) []
theorem okQ {q : Nat} (h : q ∈ rM k) : k.Ok (q : Int) := by
  have := List.mem_range.mp h
  have := k.m2
  exact ⟨by omega, by omega⟩
theorem m_nat : ((k.m.toNat : Nat) : Int) = k.m := by have := k.m2; omega
theorem okKeys {e : List En} (ho : ∀ p ∈ e, k.Ok p.1) (hn : (e.map Prod.fst).Nodup) : e.length ≤ 97 := by
  have := nodup_lenI (m := k.m) hn (by
    intro x hx
    obtain ⟨p, hp, rfl⟩ := List.mem_map.mp hx
    exact ho p hp)
  have h97 := k.m97
  rcases this with h | h
  · simp at h; omega
  · simp at h; simp [h]
theorem cand_ok {a : Nat} {p x : En} (h : x ∈ cand k a p) : k.Ok x.1 := by
  obtain ⟨q, _, rfl⟩ := List.mem_map.mp h
  exact stp_ok k _ _ _
def rowE (a : Nat) (n : Int) (p : List Int) (qs : List Nat) : List En := qs.map fun q => (stp k a n (q : Nat), p ++ [(q : Int)])
theorem f_mem {a : Nat} {n : Int} {p : List Int} (hn : k.Ok n) (hp : p.length ≤ 100) {s1 : Sl} : ∀ (qs : List Nat) (e : List En) (s6 s7 : Sl), (∀ q ∈ qs, k.Ok (q : Int)) → (∀ x ∈ e, k.Ok x.1) → (e.map Prod.fst).Nodup → ∃ s6' s7', forL (tgN 6) B_reached_next_1 (nI qs) [.val k.D, s1, .val (.int ((a % 2 : Nat) : Int)), .own (.dk (eK e) (eV e)), .val (.int n), .val (tI p), s6, s7] = .nx [.val k.D, s1, .val (.int ((a % 2 : Nat) : Int)), .own (.dk (eK (insAll (rowE k a n p qs) e)) (eV (insAll (rowE k a n p qs) e))), .val (.int n), .val (tI p), s6', s7']
  | [], e, s6, s7, _, _, _ => ⟨s6, s7, by simp [nI, rowE, insAll]⟩
  | q :: qs, e, s6, s7, hq, he, hd => by
    have oq := hq q (by simp)
    have hlim : (eK e).length ≤ lim := lim_of (by have := okKeys k he hd; simp [eK]; omega)
    have hlim2 : p.length + 1 ≤ lim := lim_of (by omega)
    obtain ⟨s6', s7', ih⟩ := f_mem hn hp qs (insE e (stp k a n q, p ++ [(q : Int)])) (.val (.int q)) (.val (.int (stp k a n q))) (fun x hx => hq x (by simp [hx])) (by
      intro x hx
      rcases mem_insE hx with hx | rfl
      · exact he x hx
      · exact stp_ok k _ _ _) (nd_insE hd) (s1 := s1)
    have hb : B_reached_next_1 [.val k.D, s1, .val (.int ((a % 2 : Nat) : Int)), .own (.dk (eK e) (eV e)), .val (.int n), .val (tI p), .val (.int q), s7] = .nx [.val k.D, s1, .val (.int ((a % 2 : Nat) : Int)), .own (.dk (eK (insE e (stp k a n q, p ++ [(q : Int)]))) (eV (insE e (stp k a n q, p ++ [(q : Int)])))), .val (.int n), .val (tI p), .val (.int q), .val (.int (stp k a n q))] := by
      have hx : gNotIn (.int (stp k a n q)) (.dct (eK e) (eV e)) = some (.bl (!hasE e (stp k a n q))) := by
        simp [gNotIn, isIn, keyD, isSome_E]
      have hp1 : gAdd (tI p) (.tup [.int q]) = some (tI (p ++ [(q : Int)])) := by simp [gAdd, hlim2]
      have hh : sIf (bV (eBin gEq (eVar 2) (eC (.int 0)))) (sAsg 7 (eCall fd_made_mark (aCons (eVar 0) (aCons (eVar 4) (aCons (eVar 6) (aNil)))))) (sAsg 7 (eCall fd_made_mark (aCons (eVar 0) (aCons (eVar 6) (aCons (eVar 4) (aNil)))))) [.val k.D, s1, .val (.int ((a % 2 : Nat) : Int)), .own (.dk (eK e) (eV e)), .val (.int n), .val (tI p), .val (.int q), s7] = .nx [.val k.D, s1, .val (.int ((a % 2 : Nat) : Int)), .own (.dk (eK e) (eV e)), .val (.int n), .val (tI p), .val (.int q), .val (.int (stp k a n q))] := by
        rcases Nat.mod_two_eq_zero_or_one a with h | h
        · simp [h, stp, e_made_mark k hn oq]
        · simp [h, stp, e_made_mark k oq hn]
      simp only [B_reached_next_1, x_sSeq, hh, x_then_nx]
      cases hx2 : hasE e (stp k a n q) with
      | true => simp [hx, hx2, insE]
      | false =>
        obtain ⟨p1, p2⟩ := put_E (p := p ++ [(q : Int)]) hx2
        simp only [tI, List.map_append, List.map_cons, List.map_nil] at p2 hp1
        simp [hx, hx2, keyD, hlim, p1, p2, hp1]
    refine ⟨s6', s7', ?_⟩
    rw [nI, List.map_cons, x_forL_nx rfl hb]
    rw [nI] at ih
    rw [ih]
    rfl
theorem f_ent {a : Nat} {r : DL.D} : ∀ (es : List En) (e : List En) (s4 s5 s6 s7 : Sl), (∀ p ∈ es, k.Ok p.1 ∧ p.2.length ≤ 100) → (∀ x ∈ e, k.Ok x.1) → (e.map Prod.fst).Nodup → ∃ s4' s5' s6' s7', forL (tgTup 2 (tgCons (tgN 4) (tgCons (tgN 5) (tgNil)))) B_reached_next_2 (itemsD (eK es) (eV es)) [.val k.D, .val r, .val (.int ((a % 2 : Nat) : Int)), .own (.dk (eK e) (eV e)), s4, s5, s6, s7] = .nx [.val k.D, .val r, .val (.int ((a % 2 : Nat) : Int)), .own (.dk (eK (insAll (es.flatMap (cand k a)) e)) (eV (insAll (es.flatMap (cand k a)) e))), s4', s5', s6', s7']
  | [], e, s4, s5, s6, s7, _, _, _ => ⟨s4, s5, s6, s7, by simp [itemsD, eK, eV, insAll]⟩
  | p :: es, e, s4, s5, s6, s7, hp, he, hd => by
    obtain ⟨o1, o2⟩ := hp p (by simp)
    obtain ⟨s6', s7', e1⟩ := f_mem k (a := a) o1 o2 (rM k) e s6 s7 (fun q hq => okQ k hq) he hd (s1 := .val r)
    have hs := small_of (n := k.m.toNat) (by have := k.m97; omega)
    rw [m_nat] at hs
    have hr : rngD 0 1 k.m.toNat = nI (rM k) := rngNat
    have hb : B_reached_next_2 [.val k.D, .val r, .val (.int ((a % 2 : Nat) : Int)), .own (.dk (eK e) (eV e)), .val (.int p.1), .val (tI p.2), s6, s7] = .nx [.val k.D, .val r, .val (.int ((a % 2 : Nat) : Int)), .own (.dk (eK (insAll (cand k a p) e)) (eV (insAll (cand k a p) e))), .val (.int p.1), .val (tI p.2), s6', s7'] := by
      simp [B_reached_next_2, hs, hr]
      push_cast at e1
      exact e1
    obtain ⟨s4', s5', s6'', s7'', ih⟩ := f_ent (a := a) (r := r) es (insAll (cand k a p) e) (.val (.int p.1)) (.val (tI p.2)) s6' s7' (fun x hx => hp x (by simp [hx])) (by
      intro x hx
      rcases mem_insAll _ _ hx with hx | hx
      · exact he x hx
      · exact cand_ok k hx) (nd_insAll _ _ hd)
    refine ⟨s4', s5', s6'', s7'', ?_⟩
    have hi : itemsD (eK (p :: es)) (eV (p :: es)) = .tup [.int p.1, tI p.2] :: itemsD (eK es) (eV es) := rfl
    rw [hi, x_forL_nx (by simp) hb, ih]
    simp [insAll, List.foldl_append]

theorem e_reached_next {a : Nat} {es : List En} (h : ∀ p ∈ es, k.Ok p.1 ∧ p.2.length ≤ 100) : fd_reached_next [.v k.D, .v (.dct (eK es) (eV es)), .v (.int ((a % 2 : Nat) : Int))] = .ret (.dct (eK (nxE k a es)) (eV (nxE k a es))) [] := by
  obtain ⟨s4, s5, s6, s7, e⟩ := f_ent k (a := a) (r := .dct (eK es) (eV es)) es [] .no .no .no .no h (by simp) (by simp)
  simp only [eK, eV, List.map_nil] at e
  push_cast at e
  simp [fd_reached_next, fb_reached_next, sItems, eK, eV, e, onlyNx, nxE]
def Rch (n : Nat) (a : Nat) (x y : Int) (p : List Int) : Prop := p.length = n ∧ (∀ q ∈ p, k.Ok q) ∧ clm k p a x = y
structure GoodE (n a : Nat) (x : Int) (e : List En) : Prop where
  all : ∀ q ∈ e, Rch k n a x q.1 q.2
  keys : ∀ y p, Rch k n a x y p → y ∈ e.map Prod.fst
  nd : (e.map Prod.fst).Nodup
theorem good0 {a : Nat} {x : Int} : GoodE k 0 a x [(x, [])] := by
  refine ⟨?_, ?_, by simp⟩
  · intro q hq
    simp at hq
    subst hq
    exact ⟨rfl, by simp, rfl⟩
  · intro y p ⟨h1, _, h3⟩
    have : p = [] := List.eq_nil_of_length_eq_zero h1
    subst this
    simp [clm] at h3
    simp [h3]
theorem rM_mem {q : Int} (h : k.Ok q) : q.toNat ∈ rM k ∧ ((q.toNat : Nat) : Int) = q := by
  obtain ⟨h1, h2⟩ := h
  refine ⟨List.mem_range.mpr (by omega), by omega⟩
theorem good_nx {n a : Nat} {x : Int} {e : List En} (g : GoodE k n a x e) : GoodE k (n + 1) a x (nxE k (a / 2 ^ n) e) := by
  refine ⟨?_, ?_, nd_insAll _ _ (by simp)⟩
  · intro q hq
    rcases mem_insAll _ _ hq with hq | hq
    · simp at hq
    · obtain ⟨p, hp, hq⟩ := List.mem_flatMap.mp hq
      obtain ⟨c, hc, rfl⟩ := List.mem_map.mp hq
      obtain ⟨h1, h2, h3⟩ := g.all p hp
      refine ⟨by simp [h1], ?_, ?_⟩
      · intro z hz
        simp at hz
        rcases hz with hz | rfl
        · exact h2 z hz
        · exact okQ k hc
      · rw [clm_app, h1, h3]
  · intro y p ⟨h1, h2, h3⟩
    have hp : p ≠ [] := by intro z; subst z; simp at h1
    obtain ⟨p', c, rfl⟩ : ∃ p' c, p = p' ++ [c] := ⟨p.dropLast, p.getLast hp, (List.dropLast_concat_getLast hp).symm⟩
    have hl : p'.length = n := by simpa using h1
    have hk := g.keys (clm k p' a x) p' ⟨hl, fun q hq => h2 q (by simp [hq]), rfl⟩
    obtain ⟨en, he, hy⟩ := List.mem_map.mp hk
    obtain ⟨hc1, hc2⟩ := rM_mem k (h2 c (by simp))
    rw [nxE, key_insAll]
    right
    refine List.mem_map.mpr ⟨(stp k (a / 2 ^ n) en.1 c, en.2 ++ [c]), ?_, ?_⟩
    · refine List.mem_flatMap.mpr ⟨en, he, List.mem_map.mpr ⟨c.toNat, hc1, by rw [hc2]⟩⟩
    · rw [clm_app, hl] at h3
      simp only
      rw [hy, h3]
theorem good_ok {n a : Nat} {x : Int} {e : List En} (g : GoodE k n a x e) (hx : k.Ok x) : ∀ q ∈ e, k.Ok q.1 := by
  intro q hq
  obtain ⟨_, _, h3⟩ := g.all q hq
  rw [← h3]
  exact clm_ok k _ _ hx
def rcE (a : Nat) (x : Int) : Nat → List En
  | 0 => [(x, [])]
  | n + 1 => nxE k (a / 2 ^ n) (rcE a x n)
theorem rcE_good (a : Nat) (x : Int) : ∀ n, GoodE k n a x (rcE k a x n)
  | 0 => good0 k
  | n + 1 => good_nx k (rcE_good a x n)
theorem f_forged {a : Nat} {x : Int} (hx : k.Ok x) : ∀ (m n : Nat) (s1 s3 s4 s6 : Sl), n + m ≤ 50 → ∃ s6', forL (tgN 6) B_forged_1 ((List.range' n m).map fun i : Nat => D.int (i : Int)) [.val k.D, s1, .val (.int a), s3, s4, .val (.dct (eK (rcE k a x n)) (eV (rcE k a x n))), s6, .no] = .nx [.val k.D, s1, .val (.int a), s3, s4, .val (.dct (eK (rcE k a x (n + m))) (eV (rcE k a x (n + m)))), s6', .no]
  | 0, n, s1, s3, s4, s6, _ => ⟨s6, by simp⟩
  | m + 1, n, s1, s3, s4, s6, h => by
    obtain ⟨s6', e⟩ := f_forged hx m (n + 1) s1 s3 s4 (.val (.int n)) (by omega)
    have g := rcE_good k a x n
    have hr := e_reached_next k (a := a / 2 ^ n) (es := rcE k a x n) (fun p hp => ⟨good_ok k g hx p hp, by rw [(g.all p hp).1]; omega⟩)
    have hs : okShr (a : Int) (n : Int) = true := by simp [okShr]
    have hsh : (a : Int) / 2 ^ n = ((a / 2 ^ n : Nat) : Int) := by push_cast; rfl
    have hb : B_forged_1 [.val k.D, s1, .val (.int a), s3, s4, .val (.dct (eK (rcE k a x n)) (eV (rcE k a x n))), .val (.int n), .no] = .nx [.val k.D, s1, .val (.int a), s3, s4, .val (.dct (eK (rcE k a x (n + 1))) (eV (rcE k a x (n + 1)))), .val (.int n), .no] := by
      have hbit : Builtin.bitAnd ((a : Int) / 2 ^ n) 1 = (((a / 2 ^ n) % 2 : Nat) : Int) := by rw [hsh, bitAnd1]
      simp only [B_forged_1]
      simp [hs, hbit, -Int.natCast_emod, hr, rcE]
    refine ⟨s6', ?_⟩
    rw [List.range'_succ, List.map_cons, x_forL_nx rfl hb, e, show n + 1 + m = n + (m + 1) by omega]

theorem lvs_len : ∀ (n : Nat) (l : List Int), (lvs k n l).length = n + 1
  | 0, l => rfl
  | n + 1, l => by simp [lvs, lvs_len n]
def frg (l : List Int) (a : Nat) (x : Int) (n : Nat) : Option (List Int) := ((rcE k a x n).find? fun p => decide (p.1 = rt k n l)).map Prod.snd
theorem e_forged {n : Nat} {l : List Int} {a : Nat} {x : Int} (hl : l.length = 2 ^ n) (ha : a < 2 ^ n) (hn : n ≤ 4) (ho : ∀ x ∈ l, k.Ok x) (hx : k.Ok x) : fd_forged [.v k.D, .v (tI l), .v (.int a), .v (.int x)] = if x = ig l a then .exc "InvalidNumber" ["value"] [.int x] [] else match frg k l a x n with | none => .exc "Undefined" ["what"] [.str "path"] [] | some p => .ret (tI p) [] := by
  obtain ⟨s6, e⟩ := f_forged k (a := a) hx n 0 (.val (tI l)) (.val (.int x)) (.val (.lst ((lvs k n l).map tI))) .no (by omega)
  rw [← List.range_eq_range', Nat.zero_add] at e
  simp only [rcE, eK, eV, tI, List.map_cons, List.map_nil] at e
  have hb : (0 : Int) ≤ a ∧ (a : Int) < (l.length : Int) := by rw [hl]; omega
  have hi := atMap (l := l) (i := a) (by omega)
  have hs := small_of (n := n) (by omega)
  have hll : (((lvs k n l).length : Int) - 1) = (n : Int) := by rw [lvs_len]; omega
  by_cases h : x = ig l a
  · simp [fd_forged, fb_forged, e_check_leaves k hl hn ho, e_is_below, hb.1, hb.2, hx.1, hx.2, hi, h]
  · have hv := val_E (rcE k a x n) (rt k n l)
    have hpre : fd_forged [.v k.D, .v (tI l), .v (.int a), .v (.int x)] = fd_forged [.v k.D, .v (tI l), .v (.int a), .v (.int x)] := rfl
    simp only [eK, eV] at hv
    cases hf : (rcE k a x n).find? (fun p => decide (p.1 = rt k n l)) with
    | none =>
      rw [hf] at hv
      simp only [Option.map_none] at hv
      simp [fd_forged, fb_forged, e_check_leaves k hl hn ho, e_is_below, hb.1, hb.2, hx.1, hx.2, hi, h, e_rows_up k hl hn ho, keyD, hll, hs, rngNat, e, at_last, topr_eq k hl, gNotIn, isIn, hv, frg, hf]
    | some p =>
      rw [hf] at hv
      simp only [Option.map_some] at hv
      simp [fd_forged, fb_forged, e_check_leaves k hl hn ho, e_is_below, hb.1, hb.2, hx.1, hx.2, hi, h, e_rows_up k hl hn ho, keyD, hll, hs, rngNat, e, at_last, topr_eq k hl, gNotIn, isIn, hv, frg, hf]
theorem frg_some {n : Nat} {l : List Int} {a : Nat} {x : Int} {p : List Int} (h : frg k l a x n = some p) : Rch k n a x (rt k n l) p := by
  simp only [frg, Option.map_eq_some_iff] at h
  obtain ⟨q, hq, rfl⟩ := h
  have h1 := List.find?_some hq
  have h2 := List.mem_of_find?_eq_some hq
  have := (rcE_good k a x n).all q h2
  simp at h1
  rw [h1] at this
  exact this
theorem frg_none {n : Nat} {l : List Int} {a : Nat} {x : Int} (h : frg k l a x n = none) {p : List Int} : ¬ Rch k n a x (rt k n l) p := by
  intro hp
  have := (rcE_good k a x n).keys _ _ hp
  obtain ⟨q, hq, h1⟩ := List.mem_map.mp this
  simp only [frg, Option.map_eq_none_iff, List.find?_eq_none] at h
  have := h q hq
  simp [h1] at this
mutual
def nb : DL.D → Bool
  | .tup l => nbL l
  | .str _ => true
  | .non => true
  | .int _ => true
  | _ => false
def nbL : List DL.D → Bool
  | [] => true
  | d :: l => nb d && nbL l
end
mutual
def dep : DL.D → Nat
  | .tup l => depL l + 1
  | _ => 0
def depL : List DL.D → Nat
  | [] => 0
  | d :: l => max (dep d) (depL l)
end
mutual
def pyD : DL.D → PyData
  | .tup l => .tuple (pyDL l)
  | .str x => .str x
  | .int i => .int i
  | _ => .none
def pyDL : List DL.D → List PyData
  | [] => []
  | d :: l => pyD d :: pyDL l
end
mutual
theorem toPy_nb : ∀ d, nb d = true → toPy d = some (pyD d) ∧ (pyD d).plain = true
  | .tup l, h => by
    obtain ⟨h1, h2⟩ := toPyL_nb l (by simpa [nb] using h)
    simp [toPy, pyD, h1, PyData.plain, h2]
  | .str _, _ => by simp [toPy, pyD, PyData.plain]
  | .non, _ => by simp [toPy, pyD, PyData.plain]
  | .int _, _ => by simp [toPy, pyD, PyData.plain]
  | .bl _, h | .lst _, h | .frl _, h | .ty _, h | .cl _, h | .dct _ _, h | .obj _ _ _, h | .exc _ _ _, h => by simp [nb] at h
theorem toPyL_nb : ∀ l, nbL l = true → toPyL l = some (pyDL l) ∧ PyData.plainAll (pyDL l) = true
  | [], _ => by simp [toPyL, pyDL, PyData.plainAll]
  | d :: l, h => by
    simp [nbL] at h
    obtain ⟨h1, h2⟩ := toPy_nb d h.1
    obtain ⟨h3, h4⟩ := toPyL_nb l h.2
    simp [toPyL, pyDL, h1, h3, PyData.plainAll, h2, h4]
end
mutual
theorem dep_nb : ∀ d, nb d = true → (pyD d).depth = dep d
  | .tup l, h => by
    have h1 := depL_nb l (by simpa [nb] using h)
    simp [pyD, PyData.depth, h1, dep]
  | .str _, _ => by simp [pyD, PyData.depth, dep]
  | .non, _ => by simp [pyD, PyData.depth, dep]
  | .int _, _ => by simp [pyD, PyData.depth, dep]
  | .bl _, h | .lst _, h | .frl _, h | .ty _, h | .cl _, h | .dct _ _, h | .obj _ _ _, h | .exc _ _ _, h => by simp [nb] at h
theorem depL_nb : ∀ l, nbL l = true → PyData.depthAll (pyDL l) = depL l
  | [], _ => by simp [pyDL, PyData.depthAll, depL]
  | d :: l, h => by
    simp [nbL] at h
    simp [pyDL, PyData.depthAll, dep_nb d h.1, depL_nb l h.2, depL]
end
mutual
theorem eqv_nb : ∀ (t d : DL.D), nb t = true → nb d = true → PyData.eqv (pyD t) (pyD d) = sm t d
  | .tup ts, .tup ds, h, g => by
    have := eqvL_nb ts ds (by simpa [nb] using h) (by simpa [nb] using g)
    simp [pyD, PyData.eqv, this, sm]
  | .int a, .int b, _, _ => by by_cases h : a = b <;> simp [pyD, PyData.eqv, sm, h]
  | .str a, .str b, _, _ => by by_cases h : a = b <;> simp [pyD, PyData.eqv, sm, h]
  | .non, .non, _, _ => by simp [pyD, PyData.eqv, sm]
  | .tup _, .int _, _, _ | .tup _, .str _, _, _ | .tup _, .non, _, _ => by simp [pyD, PyData.eqv, sm]
  | .int _, .tup _, _, _ | .int _, .str _, _, _ | .int _, .non, _, _ => by simp [pyD, PyData.eqv, sm]
  | .str _, .tup _, _, _ | .str _, .int _, _, _ | .str _, .non, _, _ => by simp [pyD, PyData.eqv, sm]
  | .non, .tup _, _, _ | .non, .int _, _, _ | .non, .str _, _, _ => by simp [pyD, PyData.eqv, sm]
  | .bl _, _, h, _ | .lst _, _, h, _ | .frl _, _, h, _ | .ty _, _, h, _ | .cl _, _, h, _ | .dct _ _, _, h, _ | .obj _ _ _, _, h, _ | .exc _ _ _, _, h, _ => by simp [nb] at h
  | _, .bl _, _, h | _, .lst _, _, h | _, .frl _, _, h | _, .ty _, _, h | _, .cl _, _, h | _, .dct _ _, _, h | _, .obj _ _ _, _, h | _, .exc _ _ _, _, h => by simp [nb] at h
theorem eqvL_nb : ∀ (ts ds : List DL.D), nbL ts = true → nbL ds = true → PyData.eqvAll (pyDL ts) (pyDL ds) = (decide (ts.length = ds.length) && smL ts ds)
  | [], [], _, _ => by simp [pyDL, PyData.eqvAll, smL]
  | [], _ :: _, _, _ => by simp [pyDL, PyData.eqvAll, smL]
  | _ :: _, [], _, _ => by simp [pyDL, PyData.eqvAll, smL]
  | t :: ts, d :: ds, h, g => by
    simp [nbL] at h g
    have e1 := eqv_nb t d h.1 g.1
    have e2 := eqvL_nb ts ds h.2 g.2
    simp only [pyDL, PyData.eqvAll, e1, e2, smL, List.length_cons, Nat.add_right_cancel_iff]
    cases sm t d <;> cases smL ts ds <;> simp
end
theorem eq_nb {t d : DL.D} (ht : nb t = true) (hd : nb d = true) (hz : dep t ≤ 60) : gEq t d = some (.bl (sm t d)) := by
  obtain ⟨h1, h2⟩ := toPy_nb t ht
  obtain ⟨h3, h4⟩ := toPy_nb d hd
  have h5 : decide (min (pyD t).depth (pyD d).depth ≤ 60) = true := by rw [dep_nb t ht, decide_eq_true_eq]; omega
  simp only [gEq, h1, h3, eqOk, h2, h4, h5, eqv_nb t d ht hd, Bool.and_self, if_true]
theorem ne_nb {t d : DL.D} (ht : nb t = true) (hd : nb d = true) (hz : dep t ≤ 60) : gNe t d = some (.bl (!sm t d)) := by
  obtain ⟨h1, h2⟩ := toPy_nb t ht
  obtain ⟨h3, h4⟩ := toPy_nb d hd
  have h5 : decide (min (pyD t).depth (pyD d).depth ≤ 60) = true := by rw [dep_nb t ht, decide_eq_true_eq]; omega
  simp only [gNe, h1, h3, eqOk, h2, h4, h5, eqv_nb t d ht hd, Bool.and_self, if_true]
theorem smL_I : ∀ (a b : List Int), a.length = b.length → smL (a.map D.int) (b.map D.int) = decide (a = b)
  | [], [], _ => by simp [smL]
  | [], _ :: _, h => by simp at h
  | _ :: _, [], h => by simp at h
  | x :: a, y :: b, h => by
    simp [smL, sm, smL_I a b (by simpa using h)]
theorem sm_tI (a b : List Int) : sm (tI a) (tI b) = decide (a = b) := by
  by_cases h : a.length = b.length
  · simp only [tI, sm, smL_I a b h]; simp [h]
  · have : ¬ a = b := fun z => h (by rw [z])
    simp [tI, sm, h, this]
theorem nbL_I : ∀ l : List Int, nbL (l.map D.int) = true
  | [] => by simp [nbL]
  | x :: l => by simp [nbL, nb, nbL_I l]
theorem okDL_I : ∀ l : List Int, okDL (l.map D.int) = true
  | [] => by simp [okDL]
  | x :: l => by simp [okDL, okD, okDL_I l]
theorem depL_I : ∀ l : List Int, depL (l.map D.int) = 0
  | [] => by simp [depL]
  | x :: l => by simp [depL, dep, depL_I l]
theorem dszL_I : ∀ l : List Int, dszL (l.map D.int) = l.length
  | [] => by simp [dszL]
  | x :: l => by simp [dszL, dsz, dszL_I l]; omega
theorem in_I (y : Int) (l : List Int) : gNotIn (.int y) (lI l) = some (.bl (!decide (y ∈ l))) := by
  have h1 := toPyL_nb (l.map D.int) (nbL_I l)
  have h2 := depL_nb (l.map D.int) (nbL_I l)
  have h3 : ∀ l : List Int, (pyDL (l.map D.int)).any (fun z => PyData.eqv z (.int y)) = decide (y ∈ l) := by
    intro l
    induction l with
    | nil => simp [pyDL]
    | cons x l ih =>
      simp only [List.map_cons, pyDL, List.any_cons, ih, pyD, PyData.eqv, List.mem_cons]
      by_cases h : x = y
      · subst h; simp
      · have : ¬ y = x := fun z => h z.symm
        simp [h, this]
  simp [gNotIn, isIn, isInL, toPy, h1.1, inOk, h1.2, h2, depL_I, PyData.plain, h3]
theorem sm_dP (p q : Int × Int) : sm (dP p) (dP q) = decide (p = q) := by
  obtain ⟨a, b⟩ := p
  obtain ⟨c, d⟩ := q
  simp [dP, sm, smL]
theorem nb_dP (p : Int × Int) : nb (dP p) = true ∧ dep (dP p) ≤ 60 := by simp [dP, nb, nbL, dep, depL]
theorem ne_dP (p q : Int × Int) : gNe (dP p) (dP q) = some (.bl (!decide (p = q))) := by rw [ne_nb (nb_dP p).1 (nb_dP q).1 (nb_dP p).2, sm_dP]
theorem eq_dP (p q : Int × Int) : gEq (dP p) (dP q) = some (.bl (decide (p = q))) := by rw [eq_nb (nb_dP p).1 (nb_dP q).1 (nb_dP p).2, sm_dP]
theorem eq_pf (x y : Int) (ps qs : List Int) : gEq (pf x ps) (pf y qs) = some (.bl (decide (x = y ∧ ps = qs))) := by
  rw [eq_nb (by simp [pf, nb, nbL, nbL_I]) (by simp [pf, nb, nbL, nbL_I]) (by simp [pf, dep, depL, depL_I])]
  have := sm_tI ps qs
  simp only [tI, sm, List.length_map] at this
  simp [pf, sm, smL, this]
def ld1 (acc : DL.D) (p : (Int × Int) × (Int × Int)) : DL.D := if p.1 = p.2 then acc else .tup [dP p.1, dP p.2]
def ld (l : List ((Int × Int) × (Int × Int))) (acc : DL.D) : DL.D := l.foldl ld1 acc
theorem f_same : ∀ (l m : List (Int × Int)) (acc : DL.D) (a b c d e s6 s7 : Sl), ∃ s6' s7', forL (tgTup 2 (tgCons (tgN 6) (tgCons (tgN 7) (tgNil)))) B_same_marks_1 (zipD (l.map dP) (m.map dP)) [a, b, c, d, e, .val acc, s6, s7] = .nx [a, b, c, d, e, .val (ld (l.zip m) acc), s6', s7']
  | [], m, acc, a, b, c, d, e, s6, s7 => ⟨s6, s7, by simp [zipD, ld]⟩
  | _ :: _, [], acc, a, b, c, d, e, s6, s7 => ⟨s6, s7, by simp [zipD, ld]⟩
  | p :: l, q :: m, acc, a, b, c, d, e, s6, s7 => by
    obtain ⟨s6', s7', ih⟩ := f_same l m (ld1 acc (p, q)) a b c d e (.val (dP p)) (.val (dP q))
    refine ⟨s6', s7', ?_⟩
    have hz : zipD ((p :: l).map dP) ((q :: m).map dP) = .tup [dP p, dP q] :: zipD (l.map dP) (m.map dP) := rfl
    have hb : B_same_marks_1 [a, b, c, d, e, .val acc, .val (dP p), .val (dP q)] = .nx [a, b, c, d, e, .val (ld1 acc (p, q)), .val (dP p), .val (dP q)] := by
      by_cases h : p = q <;> simp [B_same_marks_1, ne_dP, h, ld1]
    rw [hz, x_forL_nx (by simp) hb, ih]
    rfl
theorem ld_good : ∀ (p1 p2 : List Int) (a : Nat) (x1 x2 : Int) (acc : DL.D), p1.length = p2.length → (∀ q ∈ p1, k.Ok q) → (∀ q ∈ p2, k.Ok q) → k.Ok x1 → k.Ok x2 → clm k p1 a x1 = clm k p2 a x2 → (∃ p q : Int × Int, ld ((prs k p1 a x1).zip (prs k p2 a x2)) acc = .tup [dP p, dP q] ∧ p ≠ q ∧ k.mrk p.1 p.2 = k.mrk q.1 q.2 ∧ (k.Ok p.1 ∧ k.Ok p.2) ∧ (k.Ok q.1 ∧ k.Ok q.2)) ∨ (ld ((prs k p1 a x1).zip (prs k p2 a x2)) acc = acc ∧ prs k p1 a x1 = prs k p2 a x2 ∧ x1 = x2)
  | [], [], a, x1, x2, acc, _, _, _, _, _, h => .inr ⟨by simp [prs, ld], by simp [prs], by simpa [clm] using h⟩
  | [], _ :: _, _, _, _, _, h, _, _, _, _, _ => by simp at h
  | _ :: _, [], _, _, _, _, h, _, _, _, _, _ => by simp at h
  | c1 :: p1, c2 :: p2, a, x1, x2, acc, hl, o1, o2, ox1, ox2, h => by
    have oc1 := o1 c1 (by simp)
    have oc2 := o2 c2 (by simp)
    generalize hh1 : (if a % 2 = 0 then (x1, c1) else (c1, x1)) = h1
    generalize hh2 : (if a % 2 = 0 then (x2, c2) else (c2, x2)) = h2
    have m1 : stp k a x1 c1 = k.mrk h1.1 h1.2 := by subst hh1; unfold stp; split <;> rfl
    have m2 : stp k a x2 c2 = k.mrk h2.1 h2.2 := by subst hh2; unfold stp; split <;> rfl
    have k1 : k.Ok h1.1 ∧ k.Ok h1.2 := by subst hh1; split; exact ⟨ox1, oc1⟩; exact ⟨oc1, ox1⟩
    have k2 : k.Ok h2.1 ∧ k.Ok h2.2 := by subst hh2; split; exact ⟨ox2, oc2⟩; exact ⟨oc2, ox2⟩
    have ih := ld_good p1 p2 (a / 2) (stp k a x1 c1) (stp k a x2 c2) (ld1 acc (h1, h2)) (by simpa using hl) (fun q hq => o1 q (by simp [hq])) (fun q hq => o2 q (by simp [hq])) (stp_ok k _ _ _) (stp_ok k _ _ _) h
    have e : ld ((prs k (c1 :: p1) a x1).zip (prs k (c2 :: p2) a x2)) acc = ld ((prs k p1 (a / 2) (stp k a x1 c1)).zip (prs k p2 (a / 2) (stp k a x2 c2))) (ld1 acc (h1, h2)) := by
      simp only [prs, hh1, hh2, List.zip_cons_cons, ld, List.foldl_cons]
    rcases ih with ⟨p, q, e1, e2, e3, e4⟩ | ⟨e1, e2, e3⟩
    · exact .inl ⟨p, q, by rw [e, e1], e2, e3, e4⟩
    · by_cases hq : h1 = h2
      · right
        refine ⟨by rw [e, e1, ld1]; simp [hq], by simp only [prs, hh1, hh2, hq, e2], ?_⟩
        rw [← hh1, ← hh2] at hq
        split at hq
        · exact (Prod.mk.inj hq).1
        · exact (Prod.mk.inj hq).2
      · left
        refine ⟨h1, h2, by rw [e, e1, ld1]; simp [hq], hq, by rw [← m1, ← m2, e3], k1, k2⟩
@[simp] theorem x_sTry {δ : List Sl} {b : SS} {hs : List HdD} : sTry b hs δ = (match b δ with | .exc c ns vs δ1 => handle hs c ns vs δ1 | r => r) := (rfl)
theorem val_map (x : Key) (d : DL.D) (j : Key) : ∀ (ks : List Key) (vs : List DL.D), valD ks ((ks.zip vs).map fun p => if p.1 = x then d else p.2) j = if x = j then (valD ks vs j).map (fun _ => d) else valD ks vs j
  | [], vs => by simp [valD]
  | _ :: _, [] => by simp [valD]
  | a :: ks, v :: vs => by
    have ih := val_map x d j ks vs
    simp only [List.zip_cons_cons, List.map_cons, valD, ih]
    by_cases h : a = j
    · subst h
      by_cases h2 : x = a
      · subst h2; simp
      · have : ¬ a = x := fun z => h2 z.symm
        simp [h2, this]
    · simp [h]
theorem val_app (x : Key) (d : DL.D) (j : Key) : ∀ (ks : List Key) (vs : List DL.D), ks.length = vs.length → valD (ks ++ [x]) (vs ++ [d]) j = match valD ks vs j with | some e => some e | none => if x = j then some d else none
  | [], [], _ => by simp [valD]
  | [], _ :: _, h => by simp at h
  | _ :: _, [], h => by simp at h
  | a :: ks, v :: vs, h => by
    have ih := val_app x d j ks vs (by simpa using h)
    simp only [List.cons_append, valD, ih]
    by_cases h : a = j <;> simp [h]
theorem hasK_val (x : Key) : ∀ (ks : List Key) (vs : List DL.D), ks.length = vs.length → hasK ks x = (valD ks vs x).isSome
  | [], [], _ => by simp [hasK, valD]
  | [], _ :: _, h => by simp at h
  | _ :: _, [], h => by simp at h
  | a :: ks, v :: vs, h => by
    have ih := hasK_val x ks vs (by simpa using h)
    simp only [hasK, List.any_cons, valD] at *
    by_cases h : a = x <;> simp [h, ih]
theorem val_put {ks : List Key} {vs : List DL.D} (h : ks.length = vs.length) (x : Key) (d : DL.D) (j : Key) : valD (putKs ks x) (putVs ks vs x d) j = if x = j then some d else valD ks vs j := by
  have hh := hasK_val x ks vs h
  unfold putKs putVs
  cases e : hasK ks x with
  | true =>
    rw [e] at hh
    simp only [if_true]
    rw [val_map]
    by_cases z : x = j
    · subst z
      cases e2 : valD ks vs x with
      | none => rw [e2] at hh; simp at hh
      | some w => simp
    · simp [z]
  | false =>
    rw [e] at hh
    simp only [Bool.false_eq_true, if_false]
    rw [val_app _ _ _ _ _ h]
    by_cases z : x = j
    · subst z
      cases e2 : valD ks vs x with
      | none => simp
      | some w => rw [e2] at hh; simp at hh
    · cases valD ks vs j <;> simp [z]
theorem put_len {ks : List Key} {vs : List DL.D} (h : ks.length = vs.length) (x : Key) (d : DL.D) : (putKs ks x).length = (putVs ks vs x d).length ∧ (putKs ks x).length ≤ ks.length + 1 := by
  unfold putKs putVs
  split
  · simp [h]
  · simp [h]
def mN : Nat := k.m.toNat
def fM (n : Nat) : Int := k.mrk ((n / mN k : Nat) : Int) ((n % mN k : Nat) : Int)
def MM' : Nat := mN k * mN k
def pD (n : Nat) : DL.D := dP (((n / mN k : Nat) : Int), ((n % mN k : Nat) : Int))
def from' (i : Nat) : List Nat := List.range' i (MM' k - i)
def fl (n : Nat) : Option Nat := (from' k (n + 1)).find? fun j => decide (fM k j = fM k n)
def fc : List Nat → Option (Nat × Nat)
  | [] => none
  | n :: ns => match fl k n with
    | some j => some (n, j)
    | none => fc ns
def fD' : Option (Nat × Nat) → DL.D
  | some (n, j) => .tup [pD k n, pD k j]
  | none => .non
def fnd (i : Nat) : DL.D := fD' k (fc k (from' k i))
theorem from_cons {i : Nat} (h : i < MM' k) : from' k i = i :: from' k (i + 1) := by
  unfold from'
  obtain ⟨c, hc⟩ : ∃ c, MM' k - i = c + 1 := ⟨MM' k - i - 1, by omega⟩
  rw [hc, List.range'_succ, show MM' k - (i + 1) = c by omega]
theorem mN_m : ((mN k : Nat) : Int) = k.m := m_nat k
theorem mN2 : 2 ≤ mN k ∧ mN k ≤ 97 := by have := mN_m k; have := k.m2; have := k.m97; omega
theorem okDig (n : Nat) (h : n < MM' k) : k.Ok ((n / mN k : Nat) : Int) ∧ k.Ok ((n % mN k : Nat) : Int) := by
  have h1 := mN_m k
  obtain ⟨h2, _⟩ := mN2 k
  have h3 : n / mN k < mN k := Nat.div_lt_of_lt_mul h
  have h4 : n % mN k < mN k := Nat.mod_lt _ (by omega)
  refine ⟨⟨Int.natCast_nonneg _, ?_⟩, ⟨Int.natCast_nonneg _, ?_⟩⟩ <;> rw [← h1] <;> exact Int.ofNat_lt.mpr (by assumption)
structure InvC (i : Nat) (ks : List Key) (vs : List DL.D) : Prop where
  len : ks.length = vs.length
  small : ks.length ≤ MM' k - i
  val : ∀ y : Int, valD ks vs (.inl y) = ((from' k i).find? fun j => decide (fM k j = y)).map (pD k)
theorem inv_step {i : Nat} {ks : List Key} {vs : List DL.D} (h : i < MM' k) (I : InvC k (i + 1) ks vs) : InvC k i (putKs ks (.inl (fM k i))) (putVs ks vs (.inl (fM k i)) (pD k i)) := by
  obtain ⟨p1, p2⟩ := put_len I.len (.inl (fM k i)) (pD k i)
  refine ⟨p1, by have := I.small; omega, ?_⟩
  intro y
  rw [val_put I.len, I.val, from_cons k h, List.find?_cons]
  by_cases z : fM k i = y
  · simp [z]
  · have : ¬ (Sum.inl (fM k i) : Key) = Sum.inl y := fun w => z (Sum.inl.inj w)
    simp [z, this]
theorem b_coll {x y : Nat} (hx : x < mN k) (hy : y < mN k) {ks : List Key} {vs : List DL.D} (I : InvC k (x * mN k + y + 1) ks vs) {s5 : Sl} : B_collision_1 [.val k.D, .val (fnd k (x * mN k + y + 1)), .own (.dk ks vs), .val (.int x), .val (.int y), s5] = .nx [.val k.D, .val (fnd k (x * mN k + y)), .own (.dk (putKs ks (.inl (fM k (x * mN k + y)))) (putVs ks vs (.inl (fM k (x * mN k + y))) (pD k (x * mN k + y)))), .val (.int x), .val (.int y), .val (.int (fM k (x * mN k + y)))] := by
  obtain ⟨h2, h97⟩ := mN2 k
  have hd : (x * mN k + y) / mN k = x := by rw [Nat.mul_comm, Nat.mul_add_div (by omega), Nat.div_eq_of_lt hy]; rfl
  have hm : (x * mN k + y) % mN k = y := by rw [Nat.mul_comm, Nat.mul_add_mod, Nat.mod_eq_of_lt hy]
  have hlt : x * mN k + y < MM' k := by
    unfold MM'
    calc x * mN k + y < x * mN k + mN k := by omega
      _ = (x + 1) * mN k := by rw [Nat.add_mul]; omega
      _ ≤ mN k * mN k := Nat.mul_le_mul_right _ hx
  have hok := okDig k _ hlt
  rw [hd, hm] at hok
  have hf : fM k (x * mN k + y) = k.mrk x y := by unfold fM; rw [hd, hm]
  have hp : pD k (x * mN k + y) = .tup [.int x, .int y] := by unfold pD; rw [hd, hm]; rfl
  have hmk := e_made_mark k hok.1 hok.2
  rw [← hf] at hmk
  have hv := I.val (fM k (x * mN k + y))
  have hlim : ks.length ≤ lim := lim_of (by
    have := I.small
    have : MM' k ≤ 97 * 97 := Nat.mul_le_mul h97 h97
    omega)
  have hfl : fl k (x * mN k + y) = (from' k (x * mN k + y + 1)).find? fun j => decide (fM k j = fM k (x * mN k + y)) := rfl
  rw [← hfl] at hv
  have hfc : fnd k (x * mN k + y) = fD' k (match fl k (x * mN k + y) with | some j => some (x * mN k + y, j) | none => fc k (from' k (x * mN k + y + 1))) := by
    unfold fnd
    rw [from_cons k hlt, fc]
  generalize x * mN k + y = i at *
  cases hj : fl k i with
  | none =>
    rw [hj] at hv hfc
    simp only [Option.map_none] at hv hfc
    have h9 : fD' k (fc k (from' k (i + 1))) = fnd k (i + 1) := rfl
    rw [h9] at hfc
    simp [B_collision_1, hmk, gIn, isIn, keyD, hv, hlim, hfc, hp]
  | some j =>
    rw [hj] at hv hfc
    simp only [Option.map_some] at hv hfc
    simp [B_collision_1, hmk, gIn, isIn, keyD, hv, hlim, hfc, hp, fD']
theorem rev_succ (c : Nat) : nI (List.range (c + 1)).reverse = .int (c : Nat) :: nI (List.range c).reverse := by simp [List.range_succ, nI]
theorem f_in {x : Nat} (hx : x < mN k) : ∀ (c : Nat) (ks : List Key) (vs : List DL.D) (s4 s5 : Sl), c ≤ mN k → InvC k (x * mN k + c) ks vs → ∃ ks' vs' s4' s5', InvC k (x * mN k) ks' vs' ∧ forL (tgN 4) B_collision_1 (nI (List.range c).reverse) [.val k.D, .val (fnd k (x * mN k + c)), .own (.dk ks vs), .val (.int x), s4, s5] = .nx [.val k.D, .val (fnd k (x * mN k)), .own (.dk ks' vs'), .val (.int x), s4', s5']
  | 0, ks, vs, s4, s5, _, I => ⟨ks, vs, s4, s5, I, by simp [nI]⟩
  | c + 1, ks, vs, s4, s5, h, I => by
    have hlt : x * mN k + c < MM' k := by
      unfold MM'
      calc x * mN k + c < x * mN k + mN k := by omega
        _ = (x + 1) * mN k := by rw [Nat.add_mul]; omega
        _ ≤ mN k * mN k := Nat.mul_le_mul_right _ hx
    obtain ⟨ks', vs', s4', s5', I', e⟩ := f_in hx c _ _ (.val (.int c)) (.val (.int (fM k (x * mN k + c)))) (by omega) (inv_step k hlt I)
    refine ⟨ks', vs', s4', s5', I', ?_⟩
    rw [rev_succ, x_forL_nx rfl (b_coll k hx (by omega) I), e]
theorem f_out : ∀ (c : Nat) (ks : List Key) (vs : List DL.D) (s3 s4 s5 : Sl), c ≤ mN k → InvC k (c * mN k) ks vs → ∃ ks' vs' s3' s4' s5', InvC k 0 ks' vs' ∧ forL (tgN 3) B_collision_2 (nI (List.range c).reverse) [.val k.D, .val (fnd k (c * mN k)), .own (.dk ks vs), s3, s4, s5] = .nx [.val k.D, .val (fnd k 0), .own (.dk ks' vs'), s3', s4', s5']
  | 0, ks, vs, s3, s4, s5, _, I => ⟨ks, vs, s3, s4, s5, by simpa using I, by simp [nI]⟩
  | c + 1, ks, vs, s3, s4, s5, h, I => by
    rw [Nat.add_mul, Nat.one_mul] at I
    obtain ⟨ks1, vs1, s41, s51, I1, e1⟩ := f_in k (x := c) (by omega) (mN k) ks vs s4 s5 (Nat.le_refl _) I
    obtain ⟨ks', vs', s3', s4', s5', I', e⟩ := f_out c ks1 vs1 (.val (.int c)) s41 s51 (by omega) I1
    refine ⟨ks', vs', s3', s4', s5', I', ?_⟩
    have hs := small_of (n := mN k) (by have := mN2 k; omega)
    rw [mN_m] at hs
    have hr : rngD (k.m - 1) (-1) k.m.toNat = nI (List.range (mN k)).reverse := by
      apply List.ext_getElem
      · simp [rngD, nI, mN]
      · intro i h1 h2
        have hi : i < mN k := by simpa [nI] using h2
        have := mN_m k
        simp [rngD, nI]
        omega
    have hmx : max k.m 0 = k.m := by have := k.m2; omega
    have hb : B_collision_2 [.val k.D, .val (fnd k (c * mN k + mN k)), .own (.dk ks vs), .val (.int c), s4, s5] = .nx [.val k.D, .val (fnd k (c * mN k)), .own (.dk ks1 vs1), .val (.int c), s41, s51] := by
      simp only [B_collision_2, x_sFor, x_iRevR1, x_eBin, x_eVar]
      simp [hs, hmx, hr, e1]
    rw [rev_succ, Nat.add_mul, Nat.one_mul, x_forL_nx rfl hb, e]
theorem e_collision : fd_collision [.v k.D] = .ret (fnd k 0) [] := by
  have I : InvC k (mN k * mN k) [] [] := by
    refine ⟨rfl, by simp, ?_⟩
    intro y
    simp [valD, from', MM']
  have h0 : fnd k (mN k * mN k) = .non := by simp [fnd, from', MM', fc, fD']
  obtain ⟨ks', vs', s3', s4', s5', _, e⟩ := f_out k (mN k) [] [] .no .no .no (Nat.le_refl _) I
  rw [h0] at e
  have hs := small_of (n := mN k) (by have := mN2 k; omega)
  rw [mN_m] at hs
  have hmx : max k.m 0 = k.m := by have := k.m2; omega
  have hr : rngD (k.m - 1) (-1) k.m.toNat = nI (List.range (mN k)).reverse := by
    apply List.ext_getElem
    · simp [rngD, nI, mN]
    · intro i h1 h2
      have hi : i < mN k := by simpa [nI] using h2
      have := mN_m k
      simp [rngD, nI]
      omega
  simp [fd_collision, fb_collision, e_check_numbers0, hs, hmx, hr, e]
theorem h_dm (n : Nat) (h : n < MM' k) : okDiv (n : Int) k.m = true ∧ okMod (n : Int) k.m = true ∧ (n : Int).fdiv k.m = ((n / mN k : Nat) : Int) ∧ (n : Int).fmod k.m = ((n % mN k : Nat) : Int) := by
  have h1 := mN_m k
  have h2 := k.m2
  have h3 := k.m97
  refine ⟨by simp only [okDiv, Bool.and_eq_true, decide_eq_true_eq]; omega, okMod_s (by omega), ?_, ?_⟩
  · rw [Int.fdiv_eq_ediv_of_nonneg _ (by omega), ← h1]; rfl
  · rw [Int.fmod_eq_emod_of_nonneg _ (by omega), ← h1]; rfl
theorem fc_none : ∀ (ns : List Nat), fc k ns = none → ∀ n ∈ ns, fl k n = none
  | [], _ => by simp
  | n :: ns, h => by
    simp only [fc] at h
    cases hj : fl k n with
    | some j => rw [hj] at h; simp at h
    | none =>
      rw [hj] at h
      intro q hq
      simp at hq
      rcases hq with rfl | hq
      · exact hj
      · exact fc_none ns h q hq
theorem fc_some : fc k (from' k 0) ≠ none := by
  intro h
  have h1 := fc_none k _ h
  obtain ⟨h2, h97⟩ := mN2 k
  have hnd : ((List.range (MM' k)).map fun n => (fM k n).toNat).Nodup := by
    refine List.pairwise_map.mpr (List.Pairwise.imp_of_mem ?_ (List.pairwise_lt_range))
    intro a b ha hb hab he
    have ha := List.mem_range.mp ha
    have hb := List.mem_range.mp hb
    have := h1 a (by simp [from', List.mem_range'_1]; exact ha)
    simp only [fl, List.find?_eq_none] at this
    have h3 := this b (by simp [from', List.mem_range'_1]; omega)
    have oa : k.Ok (fM k a) := k.mrk_ok _ _
    have ob : k.Ok (fM k b) := k.mrk_ok _ _
    have : fM k b = fM k a := by have := oa.1; have := ob.1; omega
    simp [this] at h3
  have := nodup_len (mN k) _ hnd (by
    intro x hx
    obtain ⟨n, _, rfl⟩ := List.mem_map.mp hx
    have oa : k.Ok (fM k n) := k.mrk_ok _ _
    have := oa.1; have := oa.2; have := mN_m k
    omega)
  simp only [List.length_map, List.length_range, MM'] at this
  have h4 : mN k * 2 ≤ mN k * mN k := Nat.mul_le_mul_left _ h2
  omega
theorem fnd_ok : okD (fnd k 0) = true ∧ dsz (fnd k 0) ≤ 100000 := by
  unfold fnd
  cases fc k (from' k 0) with
  | none => simp [fD', okD, dsz]
  | some p => obtain ⟨n, j⟩ := p; simp [fD', pD, dP, okD, okDL, dsz, dszL]

def leads (r : Int) (a : Nat) (x : Int) (ps : List Int) : Bool := decide (clm k ps a x = r) && decide (a < 2 ^ ps.length)
theorem e_same_marks {r x1 x2 : Int} {a : Nat} {p1 p2 : List Int} (hr : k.Ok r) (h1 : k.Ok x1) (h2 : k.Ok x2) (o1 : ∀ q ∈ p1, k.Ok q) (o2 : ∀ q ∈ p2, k.Ok q) (l1 : p1.length ≤ 900) (l2 : p2.length ≤ 900) : fd_same_marks [.v k.D, .v (.int r), .v (.int a), .v (pf x1 p1), .v (pf x2 p2)] = if leads k r a x1 p1 = false then .exc "InvalidPaper" ["place", "part"] [.int 0, .str "one"] [] else if leads k r a x2 p2 = false ∨ p2.length ≠ p1.length ∨ (x2 = x1 ∧ p2 = p1) then .exc "InvalidPaper" ["place", "part"] [.int 0, .str "other"] [] else .ret (ld ((prs k p1 a x1).zip (prs k p2 a x2)) .non) [] := by
  have c1 := e_check_numbers k (l := [r]) (by simpa using hr)
  simp only [List.map_cons, List.map_nil] at c1
  have i1 := e_is_proof k (a := a) (r := r) o1 h1 l1
  have i2 := e_is_proof k (a := a) (r := r) o2 h2 l2
  have q1 := e_pairs_up k (a := a) o1 h1 l1
  have q2 := e_pairs_up k (a := a) o2 h2 l2
  obtain ⟨s6', s7', e⟩ := f_same (prs k p1 a x1) (prs k p2 a x2) .non (.val k.D) (.val (.int r)) (.val (.int a)) (.val (pf x1 p1)) (.val (pf x2 p2)) .no .no
  have hne := eq_pf x2 x1 p2 p1
  have hix1 : gIx (pf x1 p1) (.int 0) = some (.int x1) := by simp [pf]
  have hix2 : gIx (pf x2 p2) (.int 0) = some (.int x2) := by simp [pf]
  have hjx1 : gIx (pf x1 p1) (.int 1) = some (tI p1) := by simp [pf]
  have hjx2 : gIx (pf x2 p2) (.int 1) = some (tI p2) := by simp [pf]
  change _ = RF.ret (.bl (leads k r a x1 p1)) [] at i1
  change _ = RF.ret (.bl (leads k r a x2 p2)) [] at i2
  cases hL1 : leads k r a x1 p1 with
  | false =>
    rw [hL1] at i1
    simp [fd_same_marks, fb_same_marks, c1, e_check_place, i1]
  | true =>
    rw [hL1] at i1
    cases hL2 : leads k r a x2 p2 with
    | false =>
      rw [hL2] at i2
      simp [fd_same_marks, fb_same_marks, c1, e_check_place, i1, i2]
    | true =>
      rw [hL2] at i2
      by_cases hl : p2.length = p1.length
      · have hl' : ((p2.length : Int) = (p1.length : Int)) := by omega
        by_cases hq : x2 = x1 ∧ p2 = p1
        · have hne2 := hne
          rw [decide_eq_true hq] at hne2
          obtain ⟨rfl, rfl⟩ := hq
          simp [fd_same_marks, fb_same_marks, c1, e_check_place, i1, i2, hix1, hix2, hjx1, hjx2, hl, hne2]
        · have hne2 := hne
          rw [decide_eq_false hq] at hne2
          simp only [Bool.true_eq_false, if_false, hl, ne_eq, not_true_eq_false, hq, or_self]
          simp [fd_same_marks, fb_same_marks, c1, e_check_place, i1, i2, hix1, hix2, hjx1, hjx2, hl, hne2, q1, q2, e]
      · have hl' : ¬ ((p2.length : Int) = (p1.length : Int)) := by omega
        simp [fd_same_marks, fb_same_marks, c1, e_check_place, i1, i2, hix1, hix2, hjx1, hjx2, hl, hl']
theorem e_mark_of {x y : Int} (hx : k.Ok x) (hy : k.Ok y) : fd_mark_of [.v k.D, .v (.int x), .v (.int y)] = .ret (.int (k.mrk x y)) [] := by
  have h1 := e_check_numbers k (l := [x, y]) (by intro z hz; simp at hz; rcases hz with rfl | rfl; exact hx; exact hy)
  simp only [List.map_cons, List.map_nil] at h1
  simp [fd_mark_of, fb_mark_of, h1, e_made_mark k hx hy]
/-! ### the true path -/
theorem up_ig {l : List Int} {j : Nat} (h : j < l.length / 2) : ig (up k l) j = k.mrk (ig l (2 * j)) (ig l (2 * j + 1)) := by
  simp [ig, up, h]
theorem climb_true : ∀ (n : Nat) (l : List Int) (a : Nat), l.length = 2 ^ n → a < 2 ^ n → clm k (pth k n l a) a (ig l a) = rt k n l
  | 0, l, a, hl, ha => by
    have : a = 0 := by omega
    subst this
    rfl
  | n + 1, l, a, hl, ha => by
    have h2 : l.length = 2 * 2 ^ n := by rw [hl, Nat.pow_succ]; omega
    have ih := climb_true n (up k l) (a / 2) (by rw [up_len]; omega) (by omega)
    have hs : stp k a (ig l a) (ig l (sib a)) = ig (up k l) (a / 2) := by
      rw [up_ig k (by omega)]
      unfold stp sib
      rcases Nat.mod_two_eq_zero_or_one a with h | h
      · rw [if_pos h, h, show 2 * (a / 2) = a by omega, show a + 1 - 2 * 0 = a + 1 by omega]
      · rw [if_neg (by omega), h, show 2 * (a / 2) = a - 1 by omega, show a + 1 - 2 * 1 = a - 1 by omega, show a - 1 + 1 = a by omega]
    simp only [pth, clm, hs, ih]
    rfl
theorem seq_nx {s r : SS} {δ δ' : List Sl} (h : s δ = .nx δ') : sSeq s r δ = r δ' := by simp only [x_sSeq, h, x_then_nx]
theorem seq_fin {s r : SS} {δ δ' : List Sl} {as : List Ar} {x : RF} (h : s δ = .nx δ') (h2 : DL.finish as (r δ') = x) : DL.finish as (sSeq s r δ) = x := by rw [seq_nx h, h2]
theorem handle_t {h : HdD} {r : List HdD} {c : Str} {ns : List Str} {vs : List DL.D} {δ : List Sl} {x : RS} (ht : h.test c = some true) (hx : ∀ a dx, unset h.at_ (h.suite a dx c (setIn h.at_ a dx c ns vs δ)) = x) : handle (h :: r) c ns vs δ = x := by
  simp only [handle, ht]
  rw [if_pos (fun a dx => by rw [hx, hx]), hx]
theorem handle_f {h : HdD} {r : List HdD} {c : Str} {ns : List Str} {vs : List DL.D} {δ : List Sl} (ht : h.test c = some false) : handle (h :: r) c ns vs δ = handle r c ns vs δ := by
  simp only [handle, ht]
end Pg
set_option Elab.async false
set_option linter.all false
set_option maxRecDepth 100000
set_option maxHeartbeats 1000000
namespace Pg
open PySem PySem.Spec L2 DL
open PyProof.Rows hiding St
/-! ### drawn numbers -/
structure Stt where
  ns : List Int
  at_ : Nat
  sto : Int
  lft : Int
  seed : Int
  l0 : 0 ≤ seed
  l1 : seed < 2147483647
def Stt.L (s : Stt) : List DL.D := [.lst (s.ns.map D.int), .int s.at_, .int s.sto, .int s.lft, .int s.seed]
@[simp] theorem x_gPow {a b : Int} : gPow (.int a) (.int b) = (if okPow a b then some (.int (a ^ b.toNat)) else none) := (rfl)
theorem fmodR {a m : Int} (h : 0 < m) : 0 ≤ a.fmod m ∧ a.fmod m < m := ⟨Int.fmod_nonneg_of_pos _ h, Int.fmod_lt_of_pos _ h⟩
noncomputable def T1 : SS := sIf (bAnd (bV (eBin gEq (eBin gIx (eVar 0) (eC (.int 3))) (eC (.int 0)))) (bV (eBin gLtA (eBin gIx (eVar 0) (eC (.int 1))) (eCB gLen1 (aCons (eBin gIx (eVar 0) (eC (.int 0))) (aNil)))))) (sSeq (sAsg 2 (eCB gAbs (aCons (eCB gInt (aCons (eBin gIx (eBin gIx (eVar 0) (eC (.int 0))) (eBin gIx (eVar 0) (eC (.int 1)))) (aNil))) (aNil)))) (sSeq (sSetI 0 (eC (.int 1)) (eBin gAdd (eBin gIx (eVar 0) (eC (.int 1))) (eC (.int 1)))) (sSeq (sSetI 0 (eC (.int 3)) (eC (.int 4))) (sSeq (sSetI 0 (eC (.int 4)) (eBin gMod (eCB gInt (aCons (eBin gAdd (eBin gAdd (eBin gMul1 (eBin gIx (eVar 0) (eC (.int 4))) (eC (.int 48271))) (eBin gMod (eCB gInt (aCons (eVar 2) (aNil))) (eC (.int 2147483629)))) (eBin gIx (eVar 0) (eC (.int 1)))) (aNil))) (eC (.int 2147483647)))) (sIf (bV (eBin gGe (eVar 2) (eBin gPow (eC (.int 10)) (eC (.int 18))))) (sSeq (sSetI 0 (eC (.int 2)) (eBin gMod (eCB gInt (aCons (eVar 2) (aNil))) (eBin gPow (eC (.int 10)) (eC (.int 64))))) (sSetI 0 (eC (.int 3)) (eC (.int 60)))) (sNext)))))) (sNext)
@[simp] theorem at2 {a b c d e : DL.D} : atI [a, b, c, d, e] 2 = some c := rfl
@[simp] theorem at3 {a b c d e : DL.D} : atI [a, b, c, d, e] 3 = some d := rfl
@[simp] theorem at4 {a b c d e : DL.D} : atI [a, b, c, d, e] 4 = some e := rfl
@[simp] theorem ixn {a b c d e : DL.D} {i : Int} (h0 : 0 ≤ i) (h : i < 5) : ixN [a, b, c, d, e].length i = some i.toNat := by
  have : i < ((5 : Nat) : Int) := by omega
  simp [ixN, h0, h]
theorem t1_ok (s : Stt) (m : DL.D) (s2 s3 s4 : Sl) : ∃ (s' : Stt) (s2' : Sl), T1 [.io 0 (.lst s.L), .val m, s2, s3, s4] = .nx [.io 0 (.lst s'.L), .val m, s2', s3, s4] := by
  obtain ⟨ns, at_, sto, lft, seed, h0, h1⟩ := s
  have h48 : ∀ i, okMul i 48271 = true := fun i => okMul_s' (by decide) (by decide)
  have hm1 : ∀ i, okMod i 2147483629 = true := fun i => okMod_s (by decide)
  have hm2 : ∀ i, okMod i 2147483647 = true := fun i => okMod_s (by decide)
  have hp1 : okPow 10 18 = true := by decide
  have hp2 : okPow 10 64 = true := by decide
  have hm3 : ∀ i, okMod i (10 ^ 64) = true := fun i => okMod_s (by decide)
  have t18 : (18 : Int).toNat = 18 := rfl
  have t64 : (64 : Int).toNat = 64 := rfl
  by_cases hl : lft = 0
  · by_cases ha : at_ < ns.length
    · have hi := atMap ha
      generalize hcell : (if ig ns at_ < 0 then -ig ns at_ else ig ns at_) = cell
      have r1 := fmodR (a := seed * 48271 + cell.fmod 2147483629 + ((at_ : Int) + 1)) (m := 2147483647) (by decide)
      by_cases hc : (10 : Int) ^ 18 ≤ cell
      · refine ⟨⟨ns, at_ + 1, cell.fmod (10 ^ 64), 60, _, r1.1, r1.2⟩, .val (.int cell), ?_⟩
        simp only [T1]
        simp [Stt.L, hl, ha, hi, gAbs, hcell, h48, hm1, hm2, hp1, hp2, t18, t64, hm3, hc, ixN, -Int.reducePow]
      · refine ⟨⟨ns, at_ + 1, sto, 4, _, r1.1, r1.2⟩, .val (.int cell), ?_⟩
        simp only [T1]
        simp [Stt.L, hl, ha, hi, gAbs, hcell, h48, hm1, hm2, hp1, hp2, t18, t64, hm3, hc, ixN, -Int.reducePow]
    · exact ⟨⟨ns, at_, sto, lft, seed, h0, h1⟩, s2, by simp [T1, Stt.L, hl, ha]⟩
  · exact ⟨⟨ns, at_, sto, lft, seed, h0, h1⟩, s2, by simp [T1, Stt.L, hl]⟩
theorem ex_draw (s : Stt) {m : Int} (h : 0 < m) (h2 : m < 1000000) : ∃ (r : Int) (s' : Stt), 0 ≤ r ∧ r < m ∧ fd__law_draw [.io (.lst s.L), .v (.int m)] = .ret (.int r) [.lst s'.L] := by
  obtain ⟨s1, s2', e⟩ := t1_ok s (.int m) .no .no .no
  have hmm : ∀ i, okMod i m = true := fun i => okMod_s (by omega)
  have hdm : ∀ i, okDiv i m = true := fun i => by simp only [okDiv, Bool.and_eq_true, decide_eq_true_eq]; omega
  obtain ⟨ns, at_, sto, lft, seed, h0, h1⟩ := s1
  have h16 : ∀ i, okMul i 16807 = true := fun i => okMul_s' (by decide) (by decide)
  have hm2 : ∀ i, okMod i 2147483647 = true := fun i => okMod_s (by decide)
  have hm3 : ∀ i, okMod i 1000003 = true := fun i => okMod_s (by decide)
  have hm4 : ∀ i, okMod i 2147483399 = true := fun i => okMod_s (by decide)
  have hd9 : ∀ i, okDiv i 1009 = true := fun i => by simp [okDiv]
  have hl : [Ar.io (.lst s.L), .v (.int m)].length = 2 := rfl
  have hsl : slots 5 [Ar.io (.lst s.L), .v (.int m)] = [.io 0 (.lst s.L), .val (.int m), .no, .no, .no] := rfl
  by_cases hs : 0 < sto
  · obtain ⟨r0, r1⟩ := fmodR (a := sto) h
    by_cases hz : sto.fdiv m = 0
    · refine ⟨sto.fmod m, ⟨ns, at_, 0, 0, seed, h0, h1⟩, r0, r1, ?_⟩
      simp only [fd__law_draw, x_fD, if_pos hl, hsl]
      refine seq_fin (s := T1) e ?_
      simp [Stt.L, hs, hmm, hdm, hz, gMax2, ixN]
    · by_cases hz2 : lft ≤ 1 ∨ lft - 1 = 0
      · refine ⟨sto.fmod m, ⟨ns, at_, 0, 0, seed, h0, h1⟩, r0, r1, ?_⟩
        simp only [fd__law_draw, x_fD, if_pos hl, hsl]
        refine seq_fin (s := T1) e ?_
        simp [Stt.L, hs, hmm, hdm, hz, hz2, gMax2, ixN]
      · refine ⟨sto.fmod m, ⟨ns, at_, sto.fdiv m, (if 1 < lft then lft - 1 else 0), seed, h0, h1⟩, r0, r1, ?_⟩
        simp only [fd__law_draw, x_fD, if_pos hl, hsl]
        refine seq_fin (s := T1) e ?_
        simp [Stt.L, hs, hmm, hdm, hz, hz2, gMax2, ixN]
  · have r1 := fmodR (a := seed * 16807 + 12345) (m := 2147483647) (by decide)
    generalize hsd : (seed * 16807 + 12345).fmod 2147483647 = sd at r1
    have hsq : okMul sd sd = true := okMul_s' (by omega) (by omega)
    have r2 := fmodR (a := sd * sd + 271) (m := 1000003) (by decide)
    generalize hmx : (sd * sd + 271).fmod 1000003 = mx at r2
    have hmq : okMul mx mx = true := okMul_s' (by omega) (by omega)
    obtain ⟨q0, q1⟩ := fmodR (a := (mx * mx + sd.fdiv 1009).fmod 2147483399) h
    refine ⟨_, ⟨ns, at_, sto, (if 1 < lft then lft - 1 else 0), sd, r1.1, r1.2⟩, q0, q1, ?_⟩
    simp only [fd__law_draw, x_fD, if_pos hl, hsl]
    refine seq_fin (s := T1) e ?_
    simp [Stt.L, hs, h16, hm2, hsd, hsq, hm3, hmx, hmq, hd9, hm4, hmm, gMax2, ixN]
noncomputable def dR (s : Stt) (m : Int) : Int := open Classical in if h : 0 < m ∧ m < 1000000 then (ex_draw s h.1 h.2).choose else 0
noncomputable def dS (s : Stt) (m : Int) : Stt := open Classical in if h : 0 < m ∧ m < 1000000 then (ex_draw s h.1 h.2).choose_spec.choose else s
theorem dR_lt {s : Stt} {m : Int} (h : 0 < m) (h2 : m < 1000000) : 0 ≤ dR s m ∧ dR s m < m := by
  have := (ex_draw s h h2).choose_spec.choose_spec
  unfold dR
  rw [dif_pos ⟨h, h2⟩]
  exact ⟨this.1, this.2.1⟩
theorem e_draw {s : Stt} {m : Int} (h : 0 < m) (h2 : m < 1000000) : fd__law_draw [.io (.lst s.L), .v (.int m)] = .ret (.int (dR s m)) [.lst (dS s m).L] := by
  have := (ex_draw s h h2).choose_spec.choose_spec
  unfold dR dS
  rw [dif_pos ⟨h, h2⟩, dif_pos ⟨h, h2⟩]
  exact this.2.2
theorem e_start {ns : List Int} : fd__law_start [.v (.frl (ns.map D.int))] = .new (.lst (Stt.L ⟨ns, 0, 0, 0, 7, by decide, by decide⟩)) [] := by
  simp [fd__law_start, fb__law_start, Stt.L]
theorem e_pick {s : Stt} {l : List DL.D} (h : 0 < l.length) (h2 : l.length < 1000000) : ∃ d ∈ l, fd__law_pick [.io (.lst s.L), .v (.lst l)] = .ret d [.lst (dS s (l.length : Nat)).L] := by
  have hl : (0 : Int) < (l.length : Nat) := by omega
  have hl2 : ((l.length : Nat) : Int) < 1000000 := by omega
  obtain ⟨r0, r1⟩ := dR_lt (s := s) hl hl2
  refine ⟨l[(dR s (l.length : Nat)).toNat]'(by omega), List.getElem_mem _, ?_⟩
  have e := e_draw (s := s) hl hl2
  have hi := DL.x_atI (l := l) r0 (by exact_mod_cast r1)
  simp [fd__law_pick, fb__law_pick, e, hi]
/-! ### small tests -/
theorem e_num {a b : Int} : fd__law_number [.v (.int a), .v (.int b)] = .ret (.bl (decide (a = b))) [] := by simp [fd__law_number, fb__law_number]
theorem eq_bl {a b : Bool} : gEq (.bl a) (.bl b) = some (.bl (decide (a = b))) := by
  cases a <;> cases b <;> simp [gEq, toPy, eqOk, PyData.plain, PyData.depth, PyData.eqv]
theorem e_truth {a b : Bool} : fd__law_truth [.v (.bl a), .v (.bl b)] = .ret (.bl (decide (a = b))) [] := by simp [fd__law_truth, fb__law_truth, eq_bl]
theorem rngNat' {n : Nat} : rngD 0 1 n = (List.range n).map fun i : Nat => D.int (i : Int) := rngNat
theorem e_view {a b : List Int} (hl : a.length ≤ 1000) (h : a = b) : fd__law_view [.v (tI a), .v (tI b)] = .ret (.bl true) [] := by
  subst h
  have hs := small_of (n := a.length) (by omega)
  have hlim : a.length ≤ lim := lim_of (by omega)
  have hc := x_compLf (γ := tgN 2) (cond := C__law_view_1) (elt := L__law_view_1) (g := fun i : Nat => D.int (i : Int)) (p := fun _ => false) (f := fun i : Nat => D.int (i : Int)) (δ := [.val (tI a), .val (tI a), .no]) (vs := [2]) (List.range a.length) [] (by
    intro i hi
    have hi := List.mem_range.mp hi
    have e := atMap hi
    refine ⟨[.val (tI a), .val (tI a), .val (.int i)], [.val (tI a), .val (tI a), .val (.int i)], [.val (tI a), .val (tI a), .val (.int i)], rfl, ?_, rfl, fun h => by simp at h⟩
    simp [C__law_view_1, e, e_num])
  simp [fd__law_view, fb__law_view, hs, rngNat, hlim, hc]
end Pg
set_option Elab.async false
set_option linter.all false
set_option maxRecDepth 100000
set_option maxHeartbeats 2000000
namespace Pg
open PySem PySem.Spec L2 DL
open PyProof.Rows hiding St
variable (k : Ky)
@[simp] theorem Ky.ix1 : gIx k.D (.int 1) = some (.int k.a) := by simp [Ky.D]
@[simp] theorem Ky.ix2 : gIx k.D (.int 2) = some (.int k.b) := by simp [Ky.D, atI, ixN]
@[simp] theorem Ky.ix3 : gIx k.D (.int 3) = some (.int k.c) := by simp [Ky.D, atI, ixN]
theorem e_law_mark {x y : Int} (hx : k.Ok x) (hy : k.Ok y) : fd__law_mark [.v k.D, .v (.int x), .v (.int y)] = .ret (.int (k.mrk x y)) [] := by
  have m2 := k.m2
  have m97 := k.m97
  obtain ⟨hx0, hx1⟩ := hx
  obtain ⟨hy0, hy1⟩ := hy
  have h1 : okMul k.a x = true := okMul_s hx0 (by omega)
  have h2 : okMul k.b y = true := okMul_s hy0 (by omega)
  have h3 : okMul k.c x = true := okMul_s hx0 (by omega)
  have h4 : okMul (k.c * x) y = true := okMul_s hy0 (by omega)
  have h5 : ∀ i, okMod i k.m = true := fun i => okMod_s (by omega)
  simp [fd__law_mark, fb__law_mark, h1, h2, h3, h4, h5, Ky.mrk, Int.fmod_eq_emod_of_nonneg _ (show 0 ≤ k.m by omega)]
/-! ### a key is drawn -/
theorem b_key {s : Stt} {m : Int} (h2 : 2 ≤ m) (h97 : m ≤ 97) {l : List Int} {j : Nat} (hj : j < l.length) (hz : l.length ≤ 5) (ho : ∀ i, 0 < i → i < l.length → 0 ≤ ig l i ∧ ig l i < m) {s4 s5 : Sl} : ∃ (p : Int) (s' : Stt) (s4' s5' : Sl), 0 ≤ p ∧ p < m ∧ B__law_key_1 [.io 0 (.lst s.L), .val (.int m), .val (tI l), .val (.int (j : Nat)), s4, s5] = .nx [.io 0 (.lst s'.L), .val (.int m), .val (tI (l ++ [p])), .val (.int (j : Nat)), s4', s5'] := by
  have e5 := e_draw (s := s) (m := 5) (by decide) (by decide)
  have em := e_draw (s := dS s 5) (m := m) (by omega) (by omega)
  obtain ⟨r0, r1⟩ := dR_lt (s := dS s 5) (m := m) (by omega) (by omega)
  have hl : l.length + 1 ≤ lim := lim_of (by omega)
  by_cases h0 : dR s 5 = 0
  · exact ⟨0, _, _, _, Int.le_refl _, by omega, by simp [B__law_key_1, e5, em, h0, gAdd, hl]; exact ⟨rfl, rfl, rfl⟩⟩
  · by_cases h1 : dR s 5 = 1
    · exact ⟨m - 1, _, _, _, by omega, by omega, by simp [B__law_key_1, e5, em, h1, gAdd, hl]; exact ⟨rfl, rfl, rfl⟩⟩
    · by_cases h3 : dR s 5 = 2
      · by_cases hj0 : 0 < j
        · have hi := atMap hj
          obtain ⟨q0, q1⟩ := ho j hj0 hj
          exact ⟨ig l j, _, _, _, q0, q1, by simp [B__law_key_1, e5, em, h3, gAdd, hl, hj0, hi]; exact ⟨rfl, rfl, rfl⟩⟩
        · exact ⟨_, _, _, _, r0, r1, by simp [B__law_key_1, e5, em, h3, gAdd, hl, hj0]; exact ⟨rfl, rfl, rfl⟩⟩
      · exact ⟨_, _, _, _, r0, r1, by simp [B__law_key_1, e5, em, h0, h1, h3, gAdd, hl]; exact ⟨rfl, rfl, rfl⟩⟩
theorem ex_key (s : Stt) : ∃ (k : Ky) (s' : Stt), fd__law_key [.io (.lst s.L)] = .ret k.D [.lst s'.L] := by
  have e12 := e_draw (s := s) (m := 12) (by decide) (by decide)
  obtain ⟨a0, a1⟩ := dR_lt (s := s) (m := 12) (by decide) (by decide)
  have e3 := e_draw (s := dS s 12) (m := 3) (by decide) (by decide)
  obtain ⟨m, s1, h2, h97, e⟩ : ∃ (m : Int) (s1 : Stt), 2 ≤ m ∧ m ≤ 97 ∧ sIf (bV (eBin gEq (eCall fd__law_draw (aCons (eVar 0) (aCons (eC (.int 3)) (aNil)))) (eC (.int 0)))) (sAsg 1 (eBin gAdd (eC (.int 2)) (eCall fd__law_draw (aCons (eVar 0) (aCons (eC (.int 96)) (aNil)))))) (sNext) [.io 0 (.lst (dS s 12).L), .val (.int (2 + dR s 12)), .no, .no, .no, .no] = .nx [.io 0 (.lst s1.L), .val (.int m), .no, .no, .no, .no] := by
    by_cases hz : dR (dS s 12) 3 = 0
    · have e96 := e_draw (s := dS (dS s 12) 3) (m := 96) (by decide) (by decide)
      obtain ⟨b0, b1⟩ := dR_lt (s := dS (dS s 12) 3) (m := 96) (by decide) (by decide)
      exact ⟨2 + dR (dS (dS s 12) 3) 96, dS (dS (dS s 12) 3) 96, by omega, by omega, by simp [e3, hz, e96]⟩
    · exact ⟨2 + dR s 12, dS (dS s 12) 3, by omega, by omega, by simp [e3, hz]⟩
  obtain ⟨p1, s2, x4, x5, q0, q1, f1⟩ := b_key (s := s1) h2 h97 (l := [m]) (j := 0) (by simp) (by simp) (by intro i h1 h2; simp at h2; omega) (s4 := .no) (s5 := .no)
  obtain ⟨p2, s3, y4, y5, u0, u1, f2⟩ := b_key (s := s2) h2 h97 (l := [m, p1]) (j := 1) (by simp) (by simp) (by
    intro i h1 h2
    simp at h2
    have : i = 1 := by omega
    subst this
    exact ⟨q0, q1⟩) (s4 := x4) (s5 := x5)
  obtain ⟨p3, s4, z4, z5, v0, v1, f3⟩ := b_key (s := s3) h2 h97 (l := [m, p1, p2]) (j := 2) (by simp) (by simp) (by
    intro i h1 h2
    simp at h2
    have : i = 1 ∨ i = 2 := by omega
    rcases this with rfl | rfl
    · exact ⟨q0, q1⟩
    · exact ⟨u0, u1⟩) (s4 := y4) (s5 := y5)
  refine ⟨⟨m, p1, p2, p3, h2, h97, q0, q1, u0, u1, v0, v1⟩, s4, ?_⟩
  have hl : [Ar.io (.lst s.L)].length = 1 := rfl
  have hsl : slots 6 [Ar.io (.lst s.L)] = [.io 0 (.lst s.L), .no, .no, .no, .no, .no] := rfl
  simp only [fd__law_key, x_fD, if_pos hl, hsl]
  refine seq_fin (δ' := [.io 0 (.lst (dS s 12).L), .val (.int (2 + dR s 12)), .no, .no, .no, .no]) (by simp [e12]) ?_
  refine seq_fin e ?_
  refine seq_fin (δ' := [.io 0 (.lst s1.L), .val (.int m), .val (tI [m]), .no, .no, .no]) (by simp) ?_
  refine seq_fin (δ' := [.io 0 (.lst s4.L), .val (.int m), .val (tI [m, p1, p2, p3]), .val (.int 2), z4, z5]) ?_ ?_
  · have hr : rngD 0 1 3 = [.int ((0 : Nat) : Int), .int ((1 : Nat) : Int), .int ((2 : Nat) : Int)] := rfl
    simp only [List.singleton_append, List.cons_append, List.nil_append] at f1 f2 f3
    have hs : small62 3 = true := by decide
    have h3 : (3 : Int).toNat = 3 := rfl
    simp only [x_sFor, x_iRng1, x_aCons, x_aNil, x_eC, x_bind_ok, hs, if_true, x_bindS_ok, h3, hr]
    rw [x_forL_nx (by rfl) f1, x_forL_nx (by rfl) f2, x_forL_nx (by rfl) f3]
    rfl
  · simp [Ky.D]
noncomputable def kS (s : Stt) : Ky := (ex_key s).choose
noncomputable def kT (s : Stt) : Stt := (ex_key s).choose_spec.choose
theorem e_key (s : Stt) : fd__law_key [.io (.lst s.L)] = .ret (kS s).D [.lst (kT s).L] := (ex_key s).choose_spec.choose_spec
/-! ### a world -/
def wD (n : Nat) (l : List Int) : DL.D := .dct [.inr "key", .inr "high", .inr "rows", .inr "leaves", .inr "root"] [k.D, .int n, .lst ((lvs k n l).map lI), tI l, .int (rt k n l)]
@[simp] theorem w_key {n : Nat} {l : List Int} : gIx (wD k n l) (.str "key") = some k.D := (rfl)
@[simp] theorem w_high {n : Nat} {l : List Int} : gIx (wD k n l) (.str "high") = some (.int n) := (rfl)
@[simp] theorem w_rows' {n : Nat} {l : List Int} : gIx (wD k n l) (.str "rows") = some (.lst ((lvs k n l).map lI)) := (rfl)
@[simp] theorem w_leaves {n : Nat} {l : List Int} : gIx (wD k n l) (.str "leaves") = some (tI l) := (rfl)
@[simp] theorem w_root {n : Nat} {l : List Int} : gIx (wD k n l) (.str "root") = some (.int (rt k n l)) := (rfl)
theorem c_draw {m : Int} (hm : 0 < m) (hm2 : m < 1000000) {s1 s2 s4 s6 s7 : Sl} : ∀ (items acc : List DL.D) (s : Stt), ∃ (l : List Int) (s' : Stt), l.length = items.length ∧ (∀ x ∈ l, 0 ≤ x ∧ x < m) ∧ compL [] [5] (tgN 5) bTrue L__law_world_1 items acc [.io 0 (.lst s.L), s1, s2, .val (.int m), s4, .no, s6, s7] = .ok (acc ++ l.map D.int) [.io 0 (.lst s'.L), s1, s2, .val (.int m), s4, .no, s6, s7]
  | [], acc, s => ⟨[], s, rfl, by simp, by simp [compL, gOk_nil]⟩
  | it :: items, acc, s => by
    obtain ⟨l, s', h1, h2, e⟩ := c_draw hm hm2 items (acc ++ [.int (dR s m)]) (dS s m) (s1 := s1) (s2 := s2) (s4 := s4) (s6 := s6) (s7 := s7)
    refine ⟨dR s m :: l, s', by simp [h1], ?_, ?_⟩
    · intro x hx
      simp at hx
      rcases hx with rfl | hx
      · exact dR_lt hm hm2
      · exact h2 x hx
    · have hL : L__law_world_1 [.io 0 (.lst s.L), s1, s2, .val (.int m), s4, .val it, s6, s7] = .ok (.v (.int (dR s m))) [.io 0 (.lst (dS s m).L), s1, s2, .val (.int m), s4, .val it, s6, s7] := by
        simp [L__law_world_1, e_draw hm hm2]
      simp only [compL, gOk_nil, if_true, x_tgN, List.set_cons_succ, List.set_cons_zero, x_bTrue, x_bind_ok, hL, x_wipe_cons, x_wipe_nil, e]
      simp
theorem lvs_snoc : ∀ (n : Nat) (l : List Int), lvs k (n + 1) l = lvs k n l ++ [up k (topr k n l)]
  | 0, l => rfl
  | n + 1, l => by
    have := lvs_snoc n (up k l)
    rw [lvs, this, lvs]
    rfl
theorem lvs_last {n : Nat} {l : List Int} {g : List Int → DL.D} : ((lvs k n l).map g)[n]? = some (g (topr k n l)) := by
  rw [lvs_eq, List.map_append, List.getElem?_append_right (by rw [List.length_map]; have := lvs_len k n l; rw [lvs_eq] at this; simp at this; omega)]
  have : (ilv k n l).length = n := by have := lvs_len k n l; rw [lvs_eq] at this; simp at this; omega
  simp [this]
theorem topr_len' : ∀ (n m : Nat) (l : List Int), l.length = 2 ^ (n + m) → (topr k n l).length = 2 ^ m
  | 0, m, l, h => by simpa [topr] using h
  | n + 1, m, l, h => topr_len' n m _ (by rw [up_len, h, show n + 1 + m = (n + m) + 1 by omega, Nat.pow_succ]; omega)
theorem c_world {row : List Int} {q : Nat} (hq : row.length = 2 * q) (h : ∀ x ∈ row, k.Ok x) {s0 s2 s3 s4 s5 : Sl} : compL [] [7] (tgN 7) bTrue L__law_world_2 ((List.range q).map fun i : Nat => D.int (i : Int)) [] [s0, .val k.D, s2, s3, s4, s5, .val (lI row), .no] = .ok ((up k row).map D.int) [s0, .val k.D, s2, s3, s4, s5, .val (lI row), .no] := by
  rw [x_compL (f := fun i => .int (k.mrk (ig row (2 * i)) (ig row (2 * i + 1))))]
  · have : row.length / 2 = q := by omega
    simp [up, this, Function.comp_def]
  · intro i hi
    have hi := List.mem_range.mp hi
    have e1 := atMap (l := row) (i := 2 * i) (by omega)
    have e2 := atMap (l := row) (i := 2 * i + 1) (by omega)
    have o1 := okGet k h (i := 2 * i) (by omega)
    have o2 := okGet k h (i := 2 * i + 1) (by omega)
    have e3 : okMul 2 (i : Int) = true := by simp [okMul]
    push_cast at e1 e2
    exact ⟨_, _, rfl, by simp [L__law_world_2, e1, e2, e3, e_law_mark k o1 o2]; rfl, by simp⟩
theorem f_world {n : Nat} {l : List Int} (hl : l.length = 2 ^ n) (hn : n ≤ 4) (ho : ∀ x ∈ l, k.Ok x) {s0 s2 s3 : Sl} : ∀ (m j : Nat) (s5 s6 : Sl), j + m = n → ∃ s5' s6', forL (tgN 5) B__law_world_1 ((List.range' j m).map fun i : Nat => D.int (i : Int)) [s0, .val k.D, s2, s3, .val (.lst ((lvs k j l).map lI)), s5, s6, .no] = .nx [s0, .val k.D, s2, s3, .val (.lst ((lvs k n l).map lI)), s5', s6', .no]
  | 0, j, s5, s6, h => ⟨s5, s6, by simp at h; subst h; simp⟩
  | m + 1, j, s5, s6, h => by
    obtain ⟨s5', s6', e⟩ := f_world hl hn ho m (j + 1) (.val (.int j)) (.val (lI (topr k j l))) (by omega)
    have h16 : 2 ^ n ≤ 2 ^ 4 := Nat.pow_le_pow_right (by decide) hn
    have hlen := topr_len' k j (m + 1) l (by rw [hl, ← h])
    have hm : 2 ^ m ≤ 2 ^ n := Nat.pow_le_pow_right (by decide) (by omega)
    have hq : (topr k j l).length = 2 * 2 ^ m := by rw [hlen, Nat.pow_succ]; omega
    have hc := c_world k hq (topr_ok k j l ho) (s0 := s0) (s2 := s2) (s3 := s3) (s4 := .val (.lst ((lvs k j l).map lI))) (s5 := .val (.int j))
    have hi : atI ((lvs k j l).map lI) (j : Int) = some (lI (topr k j l)) := by
      have := lvs_last k (n := j) (l := l) (g := lI)
      have hll := lvs_len k j l
      rw [x_atN (by rw [List.length_map, hll]; omega)]
      rw [List.getElem?_eq_getElem (by rw [List.length_map, hll]; omega)] at this
      exact this
    have hd : okDiv ((topr k j l).length : Int) 2 = true := by simp [okDiv]
    have hf : (((topr k j l).length : Int).fdiv 2) = ((2 ^ m : Nat) : Int) := by rw [Int.fdiv_eq_ediv_of_nonneg _ (by decide), hq]; push_cast; omega
    have hs := small_of (n := 2 ^ m) (by omega)
    have hlim : 2 ^ m ≤ lim := lim_of (by omega)
    have hll := lvs_len k j l
    have hlim2 : (lvs k j l).length + 1 ≤ lim := lim_of (by omega)
    have hb : B__law_world_1 [s0, .val k.D, s2, s3, .val (.lst ((lvs k j l).map lI)), .val (.int j), s6, .no] = .nx [s0, .val k.D, s2, s3, .val (.lst ((lvs k (j + 1) l).map lI)), .val (.int j), .val (lI (topr k j l)), .no] := by
      rw [lvs_snoc]
      generalize 2 ^ m = q at *
      simp [B__law_world_1, hi, hd, hf, hs, rngNat, hlim, hc, gAdd, hlim2]
    refine ⟨s5', s6', ?_⟩
    rw [List.range'_succ, List.map_cons, x_forL_nx rfl hb, e]
theorem ex_world (s : Stt) : ∃ (k : Ky) (n : Nat) (l : List Int) (s' : Stt), n ≤ 4 ∧ l.length = 2 ^ n ∧ (∀ x ∈ l, k.Ok x) ∧ fd__law_world [.io (.lst s.L)] = .new (.dk [.inr "key", .inr "high", .inr "rows", .inr "leaves", .inr "root"] [k.D, .int n, .lst ((lvs k n l).map lI), tI l, .int (rt k n l)]) [.lst s'.L] := by
  have ek := e_key s
  generalize kS s = k at ek
  generalize kT s = s1 at ek
  have e5 := e_draw (s := s1) (m := 5) (by decide) (by decide)
  obtain ⟨a0, a1⟩ := dR_lt (s := s1) (m := 5) (by decide) (by decide)
  obtain ⟨n, hn⟩ : ∃ n : Nat, dR s1 5 = n := ⟨(dR s1 5).toNat, by omega⟩
  rw [hn] at e5 a1
  generalize dS s1 5 = s2 at e5
  obtain ⟨d, hd, ep⟩ := e_pick (s := s2) (l := [.int 2, .int 97]) (by decide) (by decide)
  obtain ⟨few, f0, f1, em⟩ : ∃ few : Int, 0 < few ∧ few ≤ k.m ∧ ∃ q, d = .int q ∧ gMin2 [.int k.m, .int q] = some (.int few) := by
    have := k.m2
    have := k.m97
    simp at hd
    rcases hd with rfl | rfl
    · by_cases h : k.m ≤ 2
      · exact ⟨k.m, by omega, by omega, 2, rfl, by simp [gMin2]; omega⟩
      · exact ⟨2, by omega, by omega, 2, rfl, by simp [gMin2]; omega⟩
    · exact ⟨k.m, by omega, by omega, 97, rfl, by simp [gMin2]; omega⟩
  obtain ⟨q, rfl, em⟩ := em
  generalize dS s2 _ = s3 at ep
  have hp : okPow 1 (n : Int) = true := by simp [okPow]; omega
  have h16 : 2 ^ n ≤ 2 ^ 4 := Nat.pow_le_pow_right (by decide) (by omega)
  have h1 : 0 < 2 ^ n := Nat.pow_pos (by decide)
  have h97 := k.m97
  obtain ⟨l, s4, ln, lo, ec⟩ := c_draw (m := few) f0 (by omega) (s1 := .val k.D) (s2 := .val (.int n)) (s4 := .no) (s6 := .no) (s7 := .no) (rngD 0 1 (2 ^ n)) [] s3
  have hl : l.length = 2 ^ n := by rw [ln]; simp [rngD]
  have ho : ∀ x ∈ l, k.Ok x := fun x hx => ⟨(lo x hx).1, by have := (lo x hx).2; omega⟩
  refine ⟨k, n, l, s4, by omega, hl, ho, ?_⟩
  obtain ⟨s5', s6', ef⟩ := f_world k hl (by omega) ho (s0 := .io 0 (.lst s4.L)) (s2 := .val (.int n)) (s3 := .val (.int few)) n 0 .no .no (by omega)
  rw [← List.range_eq_range'] at ef
  have hs := small_of (n := 2 ^ n) (by omega)
  have hsn := small_of (n := n) (by omega)
  have hlim : (rngD 0 1 (2 ^ n)).length ≤ lim := lim_of (by simp [rngD]; omega)
  have hsh : (1 : Int) * 2 ^ n = ((2 ^ n : Nat) : Int) := by push_cast; omega
  have has : [Ar.io (.lst s.L)].length = 1 := rfl
  have hsl : slots 8 [Ar.io (.lst s.L)] = [.io 0 (.lst s.L), .no, .no, .no, .no, .no, .no, .no] := rfl
  simp only [fd__law_world, x_fD, if_pos has, hsl]
  refine seq_fin (δ' := [.io 0 (.lst s1.L), .val k.D, .no, .no, .no, .no, .no, .no]) (by simp [ek]) ?_
  refine seq_fin (δ' := [.io 0 (.lst s2.L), .val k.D, .val (.int n), .no, .no, .no, .no, .no]) (by simp [e5]) ?_
  refine seq_fin (δ' := [.io 0 (.lst s3.L), .val k.D, .val (.int n), .val (.int few), .no, .no, .no, .no]) (by simp [ep, em]) ?_
  simp only [List.nil_append] at ec
  refine seq_fin (δ' := [.io 0 (.lst s4.L), .val k.D, .val (.int n), .val (.int few), .val (.lst [lI l]), .no, .no, .no]) (by
    generalize 2 ^ n = N at *
    have hsh' : (2 : Int) ^ n = (N : Int) := by omega
    simp [hp, hsh', hs, hlim, ec]) ?_
  refine seq_fin (δ' := [.io 0 (.lst s4.L), .val k.D, .val (.int n), .val (.int few), .val (.lst ((lvs k n l).map lI)), s5', s6', .no]) (by
    simp only [lvs, List.map_cons, List.map_nil] at ef
    simp [hsn, rngNat, ef]) ?_
  have hi0 : atI ((lvs k n l).map lI) 0 = some (lI l) := by cases n <;> simp [lvs]
  have hin : atI ((lvs k n l).map lI) (n : Int) = some (lI (topr k n l)) := by
    have := lvs_last k (n := n) (l := l) (g := lI)
    have hll := lvs_len k n l
    rw [x_atN (by rw [List.length_map, hll]; omega)]
    rw [List.getElem?_eq_getElem (by rw [List.length_map, hll]; omega)] at this
    exact this
  simp [hi0, hin, topr_eq k hl]
noncomputable def wK (s : Stt) : Ky := (ex_world s).choose
noncomputable def wN (s : Stt) : Nat := (ex_world s).choose_spec.choose
noncomputable def wL (s : Stt) : List Int := (ex_world s).choose_spec.choose_spec.choose
noncomputable def wS (s : Stt) : Stt := (ex_world s).choose_spec.choose_spec.choose_spec.choose
theorem w_spec (s : Stt) : wN s ≤ 4 ∧ (wL s).length = 2 ^ wN s ∧ (∀ x ∈ wL s, (wK s).Ok x) ∧ fd__law_world [.io (.lst s.L)] = .new (.dk [.inr "key", .inr "high", .inr "rows", .inr "leaves", .inr "root"] [(wK s).D, .int (wN s), .lst ((lvs (wK s) (wN s) (wL s)).map lI), tI (wL s), .int (rt (wK s) (wN s) (wL s))]) [.lst (wS s).L] := (ex_world s).choose_spec.choose_spec.choose_spec.choose_spec
/-! ### paths, climbing -/
theorem pth_get : ∀ (n : Nat) (l : List Int) (a j : Nat), j < n → ig (pth k n l a) j = ig (topr k j l) (sib (a / 2 ^ j))
  | 0, _, _, _, h => by omega
  | n + 1, l, a, 0, h => by simp [pth, ig, topr]
  | n + 1, l, a, j + 1, h => by
    have := pth_get n (up k l) (a / 2) j (by omega)
    rw [Nat.div_div_eq_div_mul, ← Nat.pow_succ'] at this
    simp only [topr]
    rw [← this]
    simp [pth, ig]
theorem lvs_get {g : List Int → DL.D} : ∀ {n j : Nat} {l : List Int}, j ≤ n → atI ((lvs k n l).map g) (j : Int) = some (g (topr k j l)) := by
  intro n j l h
  have hll := lvs_len k n l
  rw [x_atN (by rw [List.length_map, hll]; omega)]
  have key : ∀ (n j : Nat) (l : List Int), j ≤ n → ((lvs k n l).map g)[j]? = some (g (topr k j l)) := by
    intro n
    induction n with
    | zero => intro j l h; have : j = 0 := by omega
              subst this; simp [lvs, topr]
    | succ n ih =>
      intro j l h
      cases j with
      | zero => simp [lvs, topr]
      | succ j => simp only [lvs, List.map_cons, List.getElem?_cons_succ, topr]; exact ih j (up k l) (by omega)
  have := key n j l h
  rw [List.getElem?_eq_getElem (by rw [List.length_map, hll]; omega)] at this
  exact this
theorem e_law_path {n : Nat} {l : List Int} {a : Nat} (hl : l.length = 2 ^ n) (ha : a < 2 ^ n) (hn : n ≤ 4) : fd__law_path [.v (wD k n l), .v (.int a)] = .ret (tI (pth k n l a)) [] := by
  have hs := small_of (n := n) (by omega)
  have hlim : n ≤ lim := lim_of (by omega)
  have hc := x_compL (γ := tgN 2) (elt := L__law_path_1) (g := fun i : Nat => D.int (i : Int)) (f := fun j => .int (ig (pth k n l a) j)) (δ := [.val (wD k n l), .val (.int a), .no]) (vs := [2]) (List.range n) [] (by
    intro j hj
    have hj := List.mem_range.mp hj
    have h1 := lvs_get k (g := lI) (n := n) (j := j) (l := l) (by omega)
    have hlen := topr_len' k j (n - j) l (by rw [hl, show j + (n - j) = n by omega])
    have hdiv : a / 2 ^ j < 2 ^ (n - j) := by
      apply Nat.div_lt_of_lt_mul
      rw [← Nat.pow_add, show j + (n - j) = n by omega]
      exact ha
    obtain ⟨q, hq⟩ : ∃ q, 2 ^ (n - j) = 2 * q := ⟨2 ^ (n - j - 1), by rw [← Nat.pow_succ', show (n - j - 1).succ = n - j by omega]⟩
    have h2 := atMap (l := topr k j l) (i := sib (a / 2 ^ j)) (by rw [hlen, hq]; exact sib_lt (by omega))
    have hsr : okShr (a : Int) (j : Int) = true := by simp [okShr]
    have hsh : (a : Int) / 2 ^ j = ((a / 2 ^ j : Nat) : Int) := by push_cast; rfl
    have hx : Builtin.bitXor ((a : Int) / 2 ^ j) 1 = (sib (a / 2 ^ j) : Int) := by rw [hsh, bitXor1]
    rw [pth_get k n l a j hj]
    refine ⟨_, [.val (wD k n l), .val (.int a), .val (.int j)], rfl, ?_, rfl⟩
    simp only [L__law_path_1]
    simp [h1, hsr, hx, h2])
  have hp : ((List.range n).map fun j => D.int (ig (pth k n l a) j)) = (pth k n l a).map D.int := by
    have hlp : (pth k n l a).length = n := pth_len k
    apply List.ext_getElem
    · simp [hlp]
    · intro i h1 h2
      simp at h1 h2
      simp [ig, h2]
  rw [hp] at hc
  simp [fd__law_path, fb__law_path, hs, rngNat, hlim, hc]
/-- t: a tuple, or a list -/
def sq (t : Bool) (l : List Int) : DL.D := if t then tI l else lI l
theorem sq_len {t : Bool} {l : List Int} : gLen1 [sq t l] = some (.int l.length) := by cases t <;> simp [sq]
theorem sq_ix {t : Bool} {l : List Int} {i : Nat} (h : i < l.length) : gIx (sq t l) (.int i) = some (.int (ig l i)) := by cases t <;> simp [sq, atMap h]
theorem clm_take {ps : List Int} {a : Nat} {x : Int} {j : Nat} (h : j < ps.length) : clm k (ps.take (j + 1)) a x = stp k (a / 2 ^ j) (clm k (ps.take j) a x) (ig ps j) := by
  have : ps.take (j + 1) = ps.take j ++ [ig ps j] := by simp [ig, h]
  rw [this, clm_app, List.length_take, Nat.min_eq_left (by omega)]
theorem f_top {t : Bool} {ps : List Int} {a : Nat} {x : Int} (ho : ∀ p ∈ ps, k.Ok p) (hx : k.Ok x) {s2 : Sl} : ∀ (m j : Nat) (s5 : Sl), j + m = ps.length → ∃ s5', forL (tgN 5) B__law_top_1 ((List.range' j m).map fun i : Nat => D.int (i : Int)) [.val k.D, .val (.int a), s2, .val (sq t ps), .val (.int (clm k (ps.take j) a x)), s5] = .nx [.val k.D, .val (.int a), s2, .val (sq t ps), .val (.int (clm k ps a x)), s5']
  | 0, j, s5, h => ⟨s5, by simp at h; subst h; simp⟩
  | m + 1, j, s5, h => by
    obtain ⟨s5', e⟩ := f_top ho hx m (j + 1) (.val (.int j)) (by omega) (t := t) (s2 := s2)
    have hi := sq_ix (t := t) (l := ps) (i := j) (by omega)
    have op : k.Ok (ig ps j) := okGet k ho (by omega)
    have oc : k.Ok (clm k (ps.take j) a x) := clm_ok k _ _ hx
    have hsr : okShr (a : Int) (j : Int) = true := by simp [okShr]
    have hsh : (a : Int) / 2 ^ j = ((a / 2 ^ j : Nat) : Int) := by push_cast; rfl
    have h3 : ∀ i, okMod i 2 = true := fun i => okMod_s (by decide)
    have hb : B__law_top_1 [.val k.D, .val (.int a), s2, .val (sq t ps), .val (.int (clm k (ps.take j) a x)), .val (.int j)] = .nx [.val k.D, .val (.int a), s2, .val (sq t ps), .val (.int (clm k (ps.take (j + 1)) a x)), .val (.int j)] := by
      rw [clm_take k (by omega)]
      generalize hA : a / 2 ^ j = A at *
      have hm := h_mod2 A
      rcases Nat.mod_two_eq_zero_or_one A with h | h
      · rw [h] at hm
        have hne : ¬ ((0 : Int) = 1) := by decide
        simp [B__law_top_1, hsr, hsh, h3, hm, hi, e_law_mark k oc op, stp, h]
      · rw [h] at hm
        simp [B__law_top_1, hsr, hsh, h3, hm, hi, e_law_mark k op oc, stp, h]
    refine ⟨s5', ?_⟩
    rw [List.range'_succ, List.map_cons, x_forL_nx rfl hb, e]
theorem e_law_top {t : Bool} {ps : List Int} {a : Nat} {x : Int} (ho : ∀ p ∈ ps, k.Ok p) (hx : k.Ok x) (hl : ps.length ≤ 900) : fd__law_top [.v k.D, .v (.int a), .v (.int x), .v (sq t ps)] = .ret (.int (clm k ps a x)) [] := by
  obtain ⟨s5, e⟩ := f_top k ho hx (t := t) (a := a) (s2 := .val (.int x)) ps.length 0 .no (by omega)
  rw [← List.range_eq_range'] at e
  simp only [List.take_zero, clm] at e
  have hs := small_of (n := ps.length) (by omega)
  simp [fd__law_top, fb__law_top, sq_len, hs, rngNat, e]
end Pg
set_option Elab.async false
set_option linter.all false
set_option maxRecDepth 100000
set_option maxHeartbeats 2000000
namespace Pg
open PySem PySem.Spec L2 DL
open PyProof.Rows hiding St
variable (k : Ky)
/-! ### greatest common parts -/
def prt : Nat → Nat → Nat → Nat
  | 0, _, y => y
  | n + 1, x, y => if x = 0 then y else prt n (y % x) x
theorem prt_gcd_all : ∀ x < 98, ∀ y < 98, prt 40 x y = Nat.gcd x y := by decide +kernel
theorem f_part : ∀ (n : Nat) (items : List DL.D) (x y : Nat) (s2 : Sl), items.length = n → ∃ x' s2', forL (tgN 2) B__law_part_1 items [.val (.int x), .val (.int y), s2] = .nx [x', .val (.int (prt n x y)), s2']
  | 0, [], x, y, s2, _ => ⟨.val (.int x), s2, by simp [prt]⟩
  | 0, _ :: _, _, _, _, h => by simp at h
  | n + 1, [], _, _, _, h => by simp at h
  | n + 1, it :: items, x, y, s2, h => by
    by_cases hx : x = 0
    · subst hx
      have hb : B__law_part_1 [.val (.int ((0 : Nat) : Int)), .val (.int y), .val it] = .bk [.val (.int ((0 : Nat) : Int)), .val (.int y), .val it] := by simp [B__law_part_1]
      exact ⟨.val (.int ((0 : Nat) : Int)), .val it, by simp only [forL, x_tgN, List.set_cons_succ, List.set_cons_zero, hb]; simp [prt]⟩
    · obtain ⟨x', s2', e⟩ := f_part n items (y % x) x (.val it) (by simpa using h)
      have hxi : ¬ ((x : Int) = 0) := by omega
      have h3 : okMod (y : Int) (x : Int) = true := okMod_s hxi
      have hm : (y : Int).fmod x = ((y % x : Nat) : Int) := by rw [Int.fmod_eq_emod_of_nonneg _ (by omega)]; rfl
      have hb : B__law_part_1 [.val (.int x), .val (.int y), .val it] = .nx [.val (.int ((y % x : Nat) : Int)), .val (.int x), .val it] := by
        simp only [B__law_part_1]
        simp [hxi, sPar, h3, hm, hx, -Int.natCast_emod]
      exact ⟨x', s2', by rw [x_forL_nx rfl hb, e]; simp [prt, hx]⟩
theorem e_part {x y : Nat} (hx : x < 98) (hy : y < 98) : fd__law_part [.v (.int x), .v (.int y)] = .ret (.int (Nat.gcd x y : Nat)) [] := by
  obtain ⟨x', s2', e⟩ := f_part 40 (rngD 0 1 40) x y .no (by simp [rngD])
  rw [prt_gcd_all x hx y hy] at e
  have hs : small62 40 = true := by decide
  have h4 : (40 : Int).toNat = 40 := rfl
  simp [fd__law_part, fb__law_part, hs, h4, e]
theorem bez : ∀ (x y : Nat), ∃ u v : Int, u * x + v * y = (Nat.gcd x y : Nat) := by
  intro x y
  induction x, y using Nat.gcd.induction with
  | H0 n => exact ⟨0, 1, by simp⟩
  | H1 m n hm ih =>
    obtain ⟨u, v, e⟩ := ih
    refine ⟨v - u * (n / m : Nat), u, ?_⟩
    rw [Nat.gcd_rec, ← e]
    have h1 : (n : Int) = m * (n / m : Nat) + (n % m : Nat) := by exact_mod_cast (Nat.div_add_mod n m).symm
    generalize (n / m : Nat) = q at *
    generalize (n % m : Nat) = r at *
    rw [h1]
    grind
/-- the same numbers by the step and by the greatest part -/
theorem step_set {m : Nat} (hm : 0 < m) (f : Int) (s : Nat) (y : Int) (hy : 0 ≤ y ∧ y < m) : (∃ q : Nat, q < m ∧ (f + s * q) % m = y) ↔ ∃ t : Nat, t < m / Nat.gcd s m ∧ (f + t * (Nat.gcd s m : Nat)) % m = y := by
  have hg : 0 < Nat.gcd s m := Nat.gcd_pos_of_pos_right _ hm
  obtain ⟨c, hc⟩ := Nat.gcd_dvd_right s m
  obtain ⟨d, hd⟩ := Nat.gcd_dvd_left s m
  obtain ⟨u, v, hb⟩ := bez s m
  generalize Nat.gcd s m = g at *
  have hc0 : 0 < c := by
    rcases Nat.eq_zero_or_pos c with h | h
    · subst h; simp at hc; omega
    · exact h
  have hdiv : m / g = c := by rw [hc, Nat.mul_div_cancel_left _ hg]
  rw [hdiv]
  have hmI : (m : Int) = g * c := by rw [hc]; push_cast; rfl
  have hsI : (s : Int) = g * d := by rw [hd]; push_cast; rfl
  constructor
  · rintro ⟨q, _, e⟩
    refine ⟨(d * q) % c, Nat.mod_lt _ hc0, ?_⟩
    rw [← e, hsI, hmI]
    have h1 : ((d * q : Nat) : Int) = c * ((d * q / c : Nat) : Int) + ((d * q % c : Nat) : Int) := by exact_mod_cast (Nat.div_add_mod (d * q) c).symm
    have h2 : f + (g : Int) * d * q = (f + ((d * q % c : Nat) : Int) * g) + (g * c) * ((d * q / c : Nat) : Int) := by
      push_cast at h1 ⊢
      have : (g : Int) * d * q = g * (d * q) := by grind
      rw [this, h1]
      grind
    rw [h2, Int.add_mul_emod_self_left]
  · rintro ⟨t, _, e⟩
    have hmp : (0 : Int) < m := by omega
    have hq0 : 0 ≤ (u * t) % m := Int.emod_nonneg _ (by omega)
    have hq1 : (u * t) % m < m := Int.emod_lt_of_pos _ hmp
    refine ⟨((u * t) % m).toNat, by omega, ?_⟩
    rw [← e]
    have h3 : ((((u * t) % m).toNat : Nat) : Int) = (u * t) % m := Int.toNat_of_nonneg hq0
    rw [h3]
    have h4 : u * t = m * (u * t / m) + (u * t) % m := (Int.mul_ediv_add_emod (u * t) m).symm
    have h5 : f + (s : Int) * ((u * t) % m) = (f + t * g) + m * (-(s * (u * t / m)) - v * t) := by
      have : (u * t) % m = u * t - m * (u * t / m) := by omega
      rw [this]
      grind
    rw [h5, Int.add_mul_emod_self_left]
end Pg
set_option Elab.async false
set_option linter.all false
set_option maxRecDepth 100000
set_option maxHeartbeats 2000000
namespace Pg
open PySem PySem.Spec L2 DL
open PyProof.Rows hiding St
variable (k : Ky)
/-! ### what is reached, by flags -/
theorem ig_set {l : List Int} {i j : Nat} {v : Int} (hi : i < l.length) : ig (l.set i v) j = if i = j then v else ig l j := by
  unfold ig
  by_cases h : i = j
  · subst h; simp [hi]
  · simp [h, List.getElem?_set]
theorem modR (x : Int) : 0 ≤ x % k.m ∧ x % k.m < k.m := by
  have := k.m2
  exact ⟨Int.emod_nonneg _ (by omega), Int.emod_lt_of_pos _ (by omega)⟩
theorem f_marks {first : Int} {g : Nat} (hg : g ≤ 1000) {s0 s1 s2 s3 s5 s6 s7 s8 s9 s11 s12 s13 s15 : Sl} : ∀ (ts : List Nat) (gr : List Int) (s17 : Sl), gr.length = mN k → (∀ t ∈ ts, t ≤ 1000) →
    ∃ (gr' : List Int) (s17' : Sl), gr'.length = mN k ∧ (∀ y : Nat, y < mN k → (ig gr' y = 1 ↔ ig gr y = 1 ∨ ∃ t ∈ ts, (first + (t : Nat) * (g : Nat)) % k.m = y)) ∧
      forL (tgN 17) B__law_reached_1 (nI ts) [s0, s1, s2, s3, .val (.int k.m), s5, s6, s7, s8, s9, .own (.lst (gr.map D.int)), s11, s12, s13, .val (.int first), s15, .val (.int g), s17] = .nx [s0, s1, s2, s3, .val (.int k.m), s5, s6, s7, s8, s9, .own (.lst (gr'.map D.int)), s11, s12, s13, .val (.int first), s15, .val (.int g), s17']
  | [], gr, s17, hl, _ => ⟨gr, s17, hl, by simp, by simp [nI]⟩
  | t :: ts, gr, s17, hl, ht => by
    have hm := mN_m k
    obtain ⟨r0, r1⟩ := modR k (first + (t : Nat) * (g : Nat))
    obtain ⟨i, hi⟩ : ∃ i : Nat, (first + (t : Nat) * (g : Nat)) % k.m = i := ⟨((first + (t : Nat) * (g : Nat)) % k.m).toNat, by omega⟩
    have hil : i < gr.length := by omega
    obtain ⟨gr', s17', h1, h2, e⟩ := f_marks hg ts (gr.set i 1) (.val (.int t)) (by simpa using hl) (fun q hq => ht q (by simp [hq])) (first := first) (s0 := s0) (s1 := s1) (s2 := s2) (s3 := s3) (s5 := s5) (s6 := s6) (s7 := s7) (s8 := s8) (s9 := s9) (s11 := s11) (s12 := s12) (s13 := s13) (s15 := s15)
    have ht1 := ht t (by simp)
    have hk : okMul (t : Int) (g : Int) = true := okMul_s' (by omega) (by omega)
    have hmd : ∀ i, okMod i k.m = true := fun i => okMod_s (by have := k.m2; omega)
    have hfm : (first + (t : Int) * (g : Int)).fmod k.m = (i : Int) := by rw [Int.fmod_eq_emod_of_nonneg _ (by have := k.m2; omega)]; exact hi
    have hix : ixN gr.length (i : Int) = some i := by simp [ixN, hil]
    have hb : B__law_reached_1 [s0, s1, s2, s3, .val (.int k.m), s5, s6, s7, s8, s9, .own (.lst (gr.map D.int)), s11, s12, s13, .val (.int first), s15, .val (.int g), .val (.int t)] = .nx [s0, s1, s2, s3, .val (.int k.m), s5, s6, s7, s8, s9, .own (.lst ((gr.set i 1).map D.int)), s11, s12, s13, .val (.int first), s15, .val (.int g), .val (.int t)] := by
      simp [B__law_reached_1, hk, hmd, hfm, hix, List.map_set]
    refine ⟨gr', s17', h1, fun y hy => ?_, ?_⟩
    · rw [h2 y hy, ig_set hil]
      by_cases hy2 : i = y
      · subst hy2
        simp only [if_true, true_or, true_iff]
        right
        exact ⟨t, by simp, hi⟩
      · simp only [hy2, if_false, List.mem_cons, exists_eq_or_imp]
        have : ¬ (first + (t : Nat) * (g : Nat)) % k.m = (y : Int) := by rw [hi]; omega
        simp only [this, false_or]
    · rw [nI, List.map_cons, x_forL_nx rfl hb]
      exact e
def first (a : Nat) (v : Int) : Int := if a % 2 = 0 then k.a * v + 1 else k.b * v + 1
def stepN (a : Nat) (v : Int) : Int := if a % 2 = 0 then k.b + k.c * v else k.a + k.c * v
theorem stp_fs (a : Nat) (v q : Int) : stp k a v q = (first k a v + stepN k a v * q) % k.m := by
  unfold stp first stepN Ky.mrk
  split
  · congr 1; grind
  · congr 1; grind
theorem modmul (f s m : Int) (q : Int) : (f + s % m * q) % m = (f + s * q) % m := by
  have h := (Int.mul_ediv_add_emod s m).symm
  generalize hr : s % m = r at *
  generalize s / m = d at *
  rw [h]
  have : f + (m * d + r) * q = (f + r * q) + m * (d * q) := by grind
  rw [this, Int.add_mul_emod_self_left]
theorem stp_iff (a : Nat) (v : Int) (y : Int) (hy : 0 ≤ y ∧ y < k.m) : (∃ q : Nat, q < mN k ∧ stp k a v q = y) ↔ ∃ t : Nat, t < mN k / Nat.gcd (stepN k a v % k.m).toNat (mN k) ∧ (first k a v + t * (Nat.gcd (stepN k a v % k.m).toNat (mN k) : Nat)) % k.m = y := by
  obtain ⟨h2, _⟩ := mN2 k
  have hm := mN_m k
  obtain ⟨r0, r1⟩ := modR k (stepN k a v)
  have := step_set (m := mN k) (by omega) (first k a v) (stepN k a v % k.m).toNat y (by rw [hm]; exact hy)
  rw [hm] at this
  rw [← this]
  have hs : (((stepN k a v % k.m).toNat : Nat) : Int) = stepN k a v % k.m := Int.toNat_of_nonneg r0
  constructor
  · rintro ⟨q, h1, h3⟩
    refine ⟨q, h1, ?_⟩
    rw [hs, ← h3, stp_fs, modmul]
  · rintro ⟨q, h1, h3⟩
    refine ⟨q, h1, ?_⟩
    rw [← h3, hs, stp_fs, modmul]
theorem full_all (a : Nat) (v : Int) (h : Nat.gcd (stepN k a v % k.m).toNat (mN k) = 1) (y : Int) (hy : 0 ≤ y ∧ y < k.m) : ∃ q : Nat, q < mN k ∧ stp k a v q = y := by
  rw [stp_iff k a v y hy, h]
  have hm := mN_m k
  obtain ⟨r0, r1⟩ := modR k (y - first k a v)
  refine ⟨((y - first k a v) % k.m).toNat, by rw [Nat.div_one]; omega, ?_⟩
  have : ((((y - first k a v) % k.m).toNat : Nat) : Int) = (y - first k a v) % k.m := Int.toNat_of_nonneg r0
  rw [this]
  simp only [Int.natCast_one, Int.mul_one]
  rw [Int.add_emod, Int.emod_emod_of_dvd _ (Int.dvd_refl _), ← Int.add_emod]
  have : first k a v + (y - first k a v) = y := by omega
  rw [this]
  exact Int.emod_eq_of_lt hy.1 hy.2
/-- what stands in the flags: those reached from the first w marks -/
def Jw (a : Nat) (now : List Int) (w : Nat) (gr : List Int) : Prop := ∀ y : Nat, y < mN k → (ig gr y = 1 ↔ ∃ v : Nat, v < w ∧ ig now v = 1 ∧ ∃ q : Nat, q < mN k ∧ stp k a v q = y)
theorem b_reached {a j w : Nat} {now gr : List Int} {fu : Bool} (hw : w < mN k) (hn : now.length = mN k) (hg : gr.length = mN k) (hJ : Jw k (a / 2 ^ j) now w gr) (hf : fu = true → ∀ y : Nat, y < mN k → ig gr y = 1) {s2 s3 s11 s14 s15 s16 s17 : Sl} :
    ∃ (gr' : List Int) (fu' : Bool) (s14' s15' s16' s17' : Sl), gr'.length = mN k ∧ Jw k (a / 2 ^ j) now (w + 1) gr' ∧ (fu' = true → ∀ y : Nat, y < mN k → ig gr' y = 1) ∧
      B__law_reached_2 [.val k.D, .val (.int a), s2, s3, .val (.int k.m), .val (.int k.a), .val (.int k.b), .val (.int k.c), .val (lI now), .val (.int j), .own (.lst (gr.map D.int)), s11, .val (.bl fu), .val (.int w), s14, s15, s16, s17] = .nx [.val k.D, .val (.int a), s2, s3, .val (.int k.m), .val (.int k.a), .val (.int k.b), .val (.int k.c), .val (lI now), .val (.int j), .own (.lst (gr'.map D.int)), s11, .val (.bl fu'), .val (.int w), s14', s15', s16', s17'] := by
  obtain ⟨h2, h97⟩ := mN2 k
  have hm := mN_m k
  have hi := atMap (l := now) (i := w) (by omega)
  have J1 : ∀ gr', (∀ y : Nat, y < mN k → (ig gr' y = 1 ↔ ig gr y = 1 ∨ (ig now w = 1 ∧ ∃ q : Nat, q < mN k ∧ stp k (a / 2 ^ j) w q = y))) → Jw k (a / 2 ^ j) now (w + 1) gr' := by
    intro gr' h y hy
    rw [h y hy, hJ y hy]
    constructor
    · rintro (⟨v, h1, h3, h4⟩ | ⟨h1, h3⟩)
      · exact ⟨v, by omega, h3, h4⟩
      · exact ⟨w, by omega, h1, h3⟩
    · rintro ⟨v, h1, h3, h4⟩
      by_cases hv : v = w
      · subst hv; exact .inr ⟨h3, h4⟩
      · exact .inl ⟨v, by omega, h3, h4⟩
  by_cases h1 : ig now w = 1
  · cases fu with
    | true =>
      refine ⟨gr, true, s14, s15, s16, s17, hg, J1 gr (fun y hy => ?_), hf, by simp [B__law_reached_2, hi, h1]⟩
      have := hf rfl y hy
      simp [this]
    | false =>
      generalize hA : a / 2 ^ j = A at *
      obtain ⟨r0, r1⟩ := modR k (stepN k A w)
      have hgl : Nat.gcd (stepN k A w % k.m).toNat (mN k) ≤ mN k := Nat.gcd_le_right _ (by omega)
      have hgp : 0 < Nat.gcd (stepN k A w % k.m).toNat (mN k) := Nat.gcd_pos_of_pos_right _ (by omega)
      have hit := stp_iff k A w
      have hful := full_all k A w
      have ep := e_part (x := (stepN k A w % k.m).toNat) (y := mN k) (by omega) (by omega)
      rw [Int.toNat_of_nonneg r0, hm] at ep
      generalize hG : Nat.gcd (stepN k A w % k.m).toNat (mN k) = g at *
      have hgq : mN k / g ≤ mN k := Nat.div_le_self _ _
      obtain ⟨gr', s17', q1, q2, e⟩ := f_marks k (first := first k A w) (g := g) (by omega) (List.range (mN k / g)) gr s17 hg (by intro t ht; have := List.mem_range.mp ht; omega) (s0 := .val k.D) (s1 := .val (.int a)) (s2 := s2) (s3 := s3) (s5 := .val (.int k.a)) (s6 := .val (.int k.b)) (s7 := .val (.int k.c)) (s8 := .val (lI now)) (s9 := .val (.int j)) (s11 := s11) (s12 := .val (.bl (decide (g = 1)))) (s13 := .val (.int w)) (s15 := .val (.int (stepN k A w)))
      have hq2 : ∀ y : Nat, y < mN k → (ig gr' y = 1 ↔ ig gr y = 1 ∨ (ig now w = 1 ∧ ∃ q : Nat, q < mN k ∧ stp k A w q = y)) := by
        intro y hy
        rw [q2 y hy, hit y ⟨by omega, by omega⟩]
        simp only [List.mem_range, h1, true_and]
      refine ⟨gr', decide (g = 1), .val (.int (first k A w)), .val (.int (stepN k A w)), .val (.int g), s17', q1, J1 gr' hq2, ?_, ?_⟩
      · intro hd y hy
        have hd := of_decide_eq_true hd
        rw [hq2 y hy]
        exact .inr ⟨h1, hful (by rw [← hd]) y ⟨by omega, by omega⟩⟩
      · have m1 : okMul k.a (w : Int) = true := okMul_s (by omega) (by omega)
        have m2 : okMul k.b (w : Int) = true := okMul_s (by omega) (by omega)
        have m3 : okMul k.c (w : Int) = true := okMul_s (by omega) (by omega)
        have hsr : okShr (a : Int) (j : Int) = true := by simp [okShr]
        have hsh : (a : Int) / 2 ^ j = ((A : Nat) : Int) := by rw [← hA]; push_cast; rfl
        have h3 : ∀ i, okMod i 2 = true := fun i => okMod_s (by decide)
        have hmd : ∀ i, okMod i k.m = true := fun i => okMod_s (by have := k.m2; omega)
        have hfm : ∀ i : Int, i.fmod k.m = i % k.m := fun i => Int.fmod_eq_emod_of_nonneg _ (by have := k.m2; omega)
        have hdv : okDiv k.m (g : Int) = true := by simp only [okDiv, Bool.and_eq_true, decide_eq_true_eq]; omega
        have hfd : k.m.fdiv (g : Int) = ((mN k / g : Nat) : Int) := by rw [Int.fdiv_eq_ediv_of_nonneg _ (by omega), ← hm]; rfl
        have hs := small_of (n := mN k / g) (by omega)
        have hgd : (((g : Nat) : Int) = 1) = (g = 1) := by apply propext; omega
        have hr : rngD 0 1 (mN k / g) = nI (List.range (mN k / g)) := rngNat
        have hmA := h_mod2 A
        generalize hQ : mN k / g = Q at *
        rcases Nat.mod_two_eq_zero_or_one A with h | h
        · have hF : first k A w = k.a * w + 1 := by simp [first, h]
          have hS : stepN k A w = k.b + k.c * w := by simp [stepN, h]
          rw [hF, hS] at e
          rw [hS] at ep
          rw [hF, hS]
          rw [h] at hmA
          have hmA' : (A : Int).fmod 2 = 0 := by simpa using hmA
          simp [B__law_reached_2, hi, h1, sPar, m1, m2, m3, hsr, hsh, h3, hmA', hmd, hfm, ep, hdv, hfd, hs, hr, e, hgd]
        · have hF : first k A w = k.b * w + 1 := by simp [first, h]
          have hS : stepN k A w = k.a + k.c * w := by simp [stepN, h]
          rw [hF, hS] at e
          rw [hS] at ep
          rw [hF, hS]
          rw [h] at hmA
          have hmA' : (A : Int).fmod 2 = 1 := by simpa using hmA
          simp [B__law_reached_2, hi, h1, sPar, m1, m2, m3, hsr, hsh, h3, hmA', hmd, hfm, ep, hdv, hfd, hs, hr, e, hgd]
  · refine ⟨gr, fu, s14, s15, s16, s17, hg, J1 gr (fun y hy => ?_), hf, by simp [B__law_reached_2, hi, h1]⟩
    simp [h1]

theorem f_v {a j : Nat} {now : List Int} (hn : now.length = mN k) {s2 s3 s11 : Sl} : ∀ (c w : Nat) (gr : List Int) (fu : Bool) (s13 s14 s15 s16 s17 : Sl), w + c = mN k → gr.length = mN k → Jw k (a / 2 ^ j) now w gr → (fu = true → ∀ y : Nat, y < mN k → ig gr y = 1) →
    ∃ (gr' : List Int) (s12' s13' s14' s15' s16' s17' : Sl), gr'.length = mN k ∧ Jw k (a / 2 ^ j) now (mN k) gr' ∧
      forL (tgN 13) B__law_reached_2 ((List.range' w c).map fun i : Nat => D.int (i : Int)) [.val k.D, .val (.int a), s2, s3, .val (.int k.m), .val (.int k.a), .val (.int k.b), .val (.int k.c), .val (lI now), .val (.int j), .own (.lst (gr.map D.int)), s11, .val (.bl fu), s13, s14, s15, s16, s17] = .nx [.val k.D, .val (.int a), s2, s3, .val (.int k.m), .val (.int k.a), .val (.int k.b), .val (.int k.c), .val (lI now), .val (.int j), .own (.lst (gr'.map D.int)), s11, s12', s13', s14', s15', s16', s17']
  | 0, w, gr, fu, s13, s14, s15, s16, s17, h, hg, hJ, _ => ⟨gr, .val (.bl fu), s13, s14, s15, s16, s17, hg, by simp at h; subst h; exact hJ, by simp⟩
  | c + 1, w, gr, fu, s13, s14, s15, s16, s17, h, hg, hJ, hf => by
    obtain ⟨gr1, fu1, t14, t15, t16, t17, g1, J1, F1, e1⟩ := b_reached k (a := a) (j := j) (w := w) (by omega) hn hg hJ hf (s2 := s2) (s3 := s3) (s11 := s11) (s14 := s14) (s15 := s15) (s16 := s16) (s17 := s17)
    obtain ⟨gr', u12, u13, u14, u15, u16, u17, g2, J2, e2⟩ := f_v hn c (w + 1) gr1 fu1 (.val (.int w)) t14 t15 t16 t17 (by omega) g1 J1 F1 (a := a) (j := j) (s2 := s2) (s3 := s3) (s11 := s11)
    refine ⟨gr', u12, u13, u14, u15, u16, u17, g2, J2, ?_⟩
    rw [List.range'_succ, List.map_cons, x_forL_nx rfl e1, e2]
def NowOk (a : Nat) (x : Int) (j : Nat) (now : List Int) : Prop := now.length = mN k ∧ ∀ y : Nat, y < mN k → (ig now y = 1 ↔ ∃ p, Rch k j a x y p)
theorem now_succ {a j : Nat} {x : Int} (hx : k.Ok x) {now gr : List Int} (h : NowOk k a x j now) (hg : gr.length = mN k) (hJ : Jw k (a / 2 ^ j) now (mN k) gr) : NowOk k a x (j + 1) gr := by
  have hm := mN_m k
  refine ⟨hg, fun y hy => ?_⟩
  rw [hJ y hy]
  constructor
  · rintro ⟨v, hv, h1, q, hq, e⟩
    obtain ⟨p, h2, h3, h4⟩ := (h.2 v hv).mp h1
    refine ⟨p ++ [(q : Int)], by simp [h2], ?_, by rw [clm_app, h2, h4, e]⟩
    intro z hz
    simp at hz
    rcases hz with hz | rfl
    · exact h3 z hz
    · exact ⟨by omega, by omega⟩
  · rintro ⟨p, h1, h2, h3⟩
    have hp : p ≠ [] := by intro z; subst z; simp at h1
    obtain ⟨p', c, rfl⟩ : ∃ p' c, p = p' ++ [c] := ⟨p.dropLast, p.getLast hp, (List.dropLast_concat_getLast hp).symm⟩
    have hl : p'.length = j := by simpa using h1
    have oc : k.Ok (clm k p' a x) := clm_ok k _ _ hx
    obtain ⟨v, hv⟩ : ∃ v : Nat, clm k p' a x = v := ⟨(clm k p' a x).toNat, by have := oc.1; omega⟩
    have hvm : v < mN k := by have := oc.2; omega
    have oq := h2 c (by simp)
    refine ⟨v, hvm, (h.2 v hvm).mpr ⟨p', hl, fun q hq => h2 q (by simp [hq]), hv⟩, c.toNat, by have := oq.1; have := oq.2; omega, ?_⟩
    have hc : ((c.toNat : Nat) : Int) = c := Int.toNat_of_nonneg oq.1
    rw [hc, ← h3, clm_app, hl, hv]
theorem b_lev {a j : Nat} {x : Int} (hx : k.Ok x) {now : List Int} (h : NowOk k a x j now) {s2 s3 s10 s12 s13 s14 s15 s16 s17 : Sl} (h10 : s10 = .no ∨ ∃ d, s10 = .val d) : ∃ (gr : List Int) (s12' s13' s14' s15' s16' s17' : Sl), NowOk k a x (j + 1) gr ∧ B__law_reached_3 [.val k.D, .val (.int a), s2, s3, .val (.int k.m), .val (.int k.a), .val (.int k.b), .val (.int k.c), .val (lI now), .val (.int j), s10, .no, s12, s13, s14, s15, s16, s17] = .nx [.val k.D, .val (.int a), s2, s3, .val (.int k.m), .val (.int k.a), .val (.int k.b), .val (.int k.c), .val (lI gr), .val (.int j), .val (lI gr), .no, s12', s13', s14', s15', s16', s17'] := by
  obtain ⟨h2, h97⟩ := mN2 k
  have hm := mN_m k
  have hJ0 : Jw k (a / 2 ^ j) now 0 (List.replicate (mN k) 0) := by
    intro y hy
    simp [ig, hy]
  obtain ⟨gr, t12, t13, t14, t15, t16, t17, g1, J1, e⟩ := f_v k h.1 (mN k) 0 (List.replicate (mN k) 0) false s13 s14 s15 s16 s17 (by omega) (by simp) hJ0 (by simp) (a := a) (j := j) (s2 := s2) (s3 := s3) (s11 := .no)
  rw [← List.range_eq_range'] at e
  refine ⟨gr, t12, t13, t14, t15, t16, t17, now_succ k hx h g1 J1, ?_⟩
  have hs := small_of (n := mN k) (by omega)
  rw [hm] at hs
  have hlim : mN k ≤ lim := lim_of (by omega)
  have hr : rngD 0 1 k.m.toNat = (List.range (mN k)).map fun i : Nat => D.int (i : Int) := rngNat
  have hc := x_compL (γ := tgN 11) (elt := L__law_reached_2) (g := fun i : Nat => D.int (i : Int)) (f := fun _ => .int 0) (δ := [.val k.D, .val (.int a), s2, s3, .val (.int k.m), .val (.int k.a), .val (.int k.b), .val (.int k.c), .val (lI now), .val (.int j), s10, .no, s12, s13, s14, s15, s16, s17]) (vs := [11]) (List.range (mN k)) [] (by
    intro i hi
    exact ⟨_, [.val k.D, .val (.int a), s2, s3, .val (.int k.m), .val (.int k.a), .val (.int k.b), .val (.int k.c), .val (lI now), .val (.int j), s10, .val (.int i), s12, s13, s14, s15, s16, s17], rfl, by simp [L__law_reached_2], rfl⟩)
  have hrep : ((List.range (mN k)).map fun _ => D.int 0) = (List.replicate (mN k) (0 : Int)).map D.int := by
    apply List.ext_getElem <;> simp
  rw [hrep, List.nil_append] at hc
  simp only [B__law_reached_3]
  simp [hs, hr, hlim, hc, e, -List.map_replicate]
theorem f_lev {a : Nat} {x : Int} (hx : k.Ok x) {s2 s3 : Sl} : ∀ (m j : Nat) (now : List Int) (s9 s10 s12 s13 s14 s15 s16 s17 : Sl), NowOk k a x j now → (s10 = .no ∨ ∃ d, s10 = .val d) → ∃ (now' : List Int) (s9' s10' s12' s13' s14' s15' s16' s17' : Sl), NowOk k a x (j + m) now' ∧ (s10' = .no ∨ ∃ d, s10' = .val d) ∧ forL (tgN 9) B__law_reached_3 ((List.range' j m).map fun i : Nat => D.int (i : Int)) [.val k.D, .val (.int a), s2, s3, .val (.int k.m), .val (.int k.a), .val (.int k.b), .val (.int k.c), .val (lI now), s9, s10, .no, s12, s13, s14, s15, s16, s17] = .nx [.val k.D, .val (.int a), s2, s3, .val (.int k.m), .val (.int k.a), .val (.int k.b), .val (.int k.c), .val (lI now'), s9', s10', .no, s12', s13', s14', s15', s16', s17']
  | 0, j, now, s9, s10, s12, s13, s14, s15, s16, s17, h, h10 => ⟨now, s9, s10, s12, s13, s14, s15, s16, s17, h, h10, by simp⟩
  | m + 1, j, now, s9, s10, s12, s13, s14, s15, s16, s17, h, h10 => by
    obtain ⟨gr, t12, t13, t14, t15, t16, t17, h1, e1⟩ := b_lev k hx h h10 (s2 := s2) (s3 := s3) (s12 := s12) (s13 := s13) (s14 := s14) (s15 := s15) (s16 := s16) (s17 := s17)
    obtain ⟨now', u9, u10, u12, u13, u14, u15, u16, u17, h2, h3, e2⟩ := f_lev hx m (j + 1) gr (.val (.int j)) (.val (lI gr)) t12 t13 t14 t15 t16 t17 h1 (.inr ⟨_, rfl⟩) (s2 := s2) (s3 := s3)
    refine ⟨now', u9, u10, u12, u13, u14, u15, u16, u17, by rw [show j + (m + 1) = j + 1 + m by omega]; exact h2, h3, ?_⟩
    rw [List.range'_succ, List.map_cons, x_forL_nx rfl e1, e2]
def fl0 (x : Int) : List Int := (List.range (mN k)).map fun i : Nat => if (i : Int) = x then (1 : Int) else 0
theorem e_law_reached {a n : Nat} {x : Int} (hx : k.Ok x) (hn : n ≤ 50) : ∃ now : List Int, NowOk k a x n now ∧ fd__law_reached [.v k.D, .v (.int a), .v (.int x), .v (.int n)] = .ret (lI now) [] := by
  obtain ⟨h2, h97⟩ := mN2 k
  have hm := mN_m k
  have h0 : NowOk k a x 0 (fl0 k x) := by
    refine ⟨by simp [fl0], fun y hy => ?_⟩
    have : ig (fl0 k x) y = if (y : Int) = x then 1 else 0 := by simp [fl0, ig, hy]
    rw [this]
    constructor
    · intro h
      by_cases hyx : (y : Int) = x
      · exact ⟨[], rfl, by simp, by simp [clm, hyx]⟩
      · simp [hyx] at h
    · rintro ⟨p, h1, _, h3⟩
      have : p = [] := List.eq_nil_of_length_eq_zero h1
      subst this
      simp [clm] at h3
      simp [h3]
  obtain ⟨now, u9, u10, u12, u13, u14, u15, u16, u17, h1, h3, e⟩ := f_lev k hx n 0 (fl0 k x) .no .no .no .no .no .no .no .no h0 (.inl rfl) (s2 := .val (.int x)) (s3 := .val (.int n))
  rw [← List.range_eq_range', ] at e
  rw [Nat.zero_add] at h1
  refine ⟨now, h1, ?_⟩
  have hs := small_of (n := mN k) (by omega)
  rw [hm] at hs
  have hsn := small_of (n := n) (by omega)
  have hlim : mN k ≤ lim := lim_of (by omega)
  have hr : rngD 0 1 k.m.toNat = (List.range (mN k)).map fun i : Nat => D.int (i : Int) := rngNat
  have hc := x_compL (γ := tgN 9) (elt := L__law_reached_1) (g := fun i : Nat => D.int (i : Int)) (f := fun i : Nat => .int (if (i : Int) = x then 1 else 0)) (δ := [.val k.D, .val (.int a), .val (.int x), .val (.int n), .val (.int k.m), .val (.int k.a), .val (.int k.b), .val (.int k.c), .no, .no, .no, .no, .no, .no, .no, .no, .no, .no]) (vs := [9]) (List.range (mN k)) [] (by
    intro i hi
    refine ⟨_, [.val k.D, .val (.int a), .val (.int x), .val (.int n), .val (.int k.m), .val (.int k.a), .val (.int k.b), .val (.int k.c), .no, .val (.int i), .no, .no, .no, .no, .no, .no, .no, .no], rfl, ?_, rfl⟩
    by_cases h : (i : Int) = x <;> simp [L__law_reached_1, h, gInt])
  have hmap : ((List.range (mN k)).map fun i : Nat => D.int (if (i : Int) = x then 1 else 0)) = (fl0 k x).map D.int := by simp [fl0, Function.comp_def]
  rw [hmap, List.nil_append] at hc
  have has : [Ar.v k.D, .v (.int (a : Int)), .v (.int x), .v (.int (n : Int))].length = 4 := rfl
  have hsl : slots 18 [Ar.v k.D, .v (.int (a : Int)), .v (.int x), .v (.int (n : Int))] = [.val k.D, .val (.int a), .val (.int x), .val (.int n), .no, .no, .no, .no, .no, .no, .no, .no, .no, .no, .no, .no, .no, .no] := rfl
  simp only [fd__law_reached, x_fD, if_pos has, hsl]
  refine seq_fin (δ' := [.val k.D, .val (.int a), .val (.int x), .val (.int n), .val (.int k.m), .val (.int k.a), .val (.int k.b), .val (.int k.c), .no, .no, .no, .no, .no, .no, .no, .no, .no, .no]) (by simp [Ky.D]) ?_
  refine seq_fin (δ' := [.val k.D, .val (.int a), .val (.int x), .val (.int n), .val (.int k.m), .val (.int k.a), .val (.int k.b), .val (.int k.c), .val (lI (fl0 k x)), .no, .no, .no, .no, .no, .no, .no, .no, .no]) (by simp only [x_sAsg, x_eN, x_nLc, x_iRng1, x_aCons, x_aNil, x_eVar]; simp [hs, hr, hlim, hc, -List.map_map]) ?_
  refine seq_fin (δ' := [.val k.D, .val (.int a), .val (.int x), .val (.int n), .val (.int k.m), .val (.int k.a), .val (.int k.b), .val (.int k.c), .val (lI now), u9, u10, .no, u12, u13, u14, u15, u16, u17]) (by rcases h3 with rfl | ⟨d, rfl⟩ <;> simp [hsn, rngNat, e, -List.map_map]) ?_
  simp
end Pg
set_option Elab.async false
set_option linter.all false
set_option maxRecDepth 100000
set_option maxHeartbeats 2000000
namespace Pg
open PySem PySem.Spec L2 DL
open PyProof.Rows hiding St
variable (k : Ky)
/-! ### the law's collision -/
structure Bst (i n j : Nat) : Prop where
  nj : n < j
  ji : j < i
  eq : fM k n = fM k j
  lj : ∀ j', n < j' → j' < j → fM k j' ≠ fM k n
  ln : ∀ n' j', n' < n → n' < j' → j' < i → fM k j' ≠ fM k n'
def BstO (i : Nat) : Option (Nat × Nat) → Prop
  | none => ∀ n j, n < j → j < i → fM k n ≠ fM k j
  | some (n, j) => Bst k i n j
def fo (i : Nat) (y : Int) : Option Nat := (List.range i).find? fun j => decide (fM k j = y)
theorem fo_none {i : Nat} {y : Int} (h : fo k i y = none) : ∀ j, j < i → fM k j ≠ y := by
  intro j hj e
  have := (List.find?_eq_none.mp h) j (List.mem_range.mpr hj)
  simp [e] at this
theorem fo_some {i : Nat} {y : Int} {f : Nat} (h : fo k i y = some f) : f < i ∧ fM k f = y ∧ ∀ j, j < f → fM k j ≠ y := by
  have h1 := List.mem_range.mp (List.mem_of_find?_eq_some h)
  have h2 := List.find?_some h
  simp at h2
  refine ⟨h1, h2, fun j hj e => ?_⟩
  have h3 := List.find?_range_eq_some.mp h
  have := h3.2.2 j hj
  simp [e] at this
theorem fo_succ (i : Nat) (y : Int) : fo k (i + 1) y = match fo k i y with | some f => some f | none => if fM k i = y then some i else none := by
  unfold fo
  rw [List.range_succ, List.find?_append]
  cases (List.range i).find? fun j => decide (fM k j = y) with
  | some f => rfl
  | none => by_cases h : fM k i = y <;> simp [h]
def nxB (i : Nat) (b : Option (Nat × Nat)) : Option (Nat × Nat) := match fo k i (fM k i) with
  | none => b
  | some f => match b with
    | none => some (f, i)
    | some (n, j) => if f < n then some (f, i) else some (n, j)
theorem bst_step {i : Nat} {b : Option (Nat × Nat)} (h : BstO k i b) : BstO k (i + 1) (nxB k i b) := by
  unfold nxB
  cases hf : fo k i (fM k i) with
  | none =>
    have h1 := fo_none k hf
    cases b with
    | none =>
      intro n j hn hj e
      by_cases hji : j = i
      · subst hji; exact h1 n hn e
      · exact h n j hn (by omega) e
    | some p =>
      obtain ⟨n, j⟩ := p
      obtain ⟨a1, a2, a3, a4, a5⟩ := h
      refine ⟨a1, by omega, a3, a4, fun n' j' q1 q2 q3 e => ?_⟩
      by_cases hji : j' = i
      · subst hji; exact h1 n' q2 e.symm
      · exact a5 n' j' q1 q2 (by omega) e
  | some f =>
    obtain ⟨f1, f2, f3⟩ := fo_some k hf
    cases b with
    | none =>
      refine ⟨f1, by omega, f2, fun j' q1 q2 e => h f j' q1 q2 e.symm, fun n' j' q1 q2 q3 e => ?_⟩
      by_cases hji : j' = i
      · subst hji; exact f3 n' q1 e.symm
      · exact h n' j' q2 (by omega) e.symm
    | some p =>
      obtain ⟨n, j⟩ := p
      obtain ⟨a1, a2, a3, a4, a5⟩ := h
      simp only
      by_cases hfn : f < n
      · rw [if_pos hfn]
        refine ⟨f1, by omega, f2, fun j' q1 q2 e => a5 f j' hfn q1 q2 e, fun n' j' q1 q2 q3 e => ?_⟩
        by_cases hji : j' = i
        · subst hji; exact f3 n' q1 e.symm
        · exact a5 n' j' (by omega) q2 (by omega) e
      · rw [if_neg hfn]
        refine ⟨a1, by omega, a3, a4, fun n' j' q1 q2 q3 e => ?_⟩
        by_cases hji : j' = i
        · subst hji
          exact f3 n' (by omega) e.symm
        · exact a5 n' j' q1 q2 (by omega) e
theorem bst_uniq {i n j n' j' : Nat} (h : Bst k i n j) (g : Bst k i n' j') : n = n' ∧ j = j' := by
  obtain ⟨a1, a2, a3, a4, a5⟩ := h
  obtain ⟨b1, b2, b3, b4, b5⟩ := g
  have hn : n = n' := by
    rcases Nat.lt_trichotomy n n' with q | q | q
    · exact absurd a3.symm (b5 n j q a1 a2)
    · exact q
    · exact absurd b3.symm (a5 n' j' q b1 b2)
  subst hn
  refine ⟨rfl, ?_⟩
  rcases Nat.lt_trichotomy j j' with q | q | q
  · exact absurd a3.symm (b4 j a1 q)
  · exact q
  · exact absurd b3.symm (a4 j' b1 q)
theorem fl_some {n j : Nat} (h : fl k n = some j) : n < j ∧ j < MM' k ∧ fM k j = fM k n ∧ ∀ j', n < j' → j' < j → fM k j' ≠ fM k n := by
  have h3 := List.find?_range'_eq_some.mp h
  obtain ⟨h1, h2, h4⟩ := h3
  have h2' := List.mem_range'_1.mp h2
  simp at h1
  refine ⟨by omega, by omega, h1, fun j' q1 q2 e => ?_⟩
  have := h4 j' (by omega) q2
  simp [e] at this
theorem fl_none {n : Nat} (h : fl k n = none) : ∀ j', n < j' → j' < MM' k → fM k j' ≠ fM k n := by
  intro j' q1 q2 e
  have := (List.find?_eq_none.mp h) j' (by rw [from', List.mem_range'_1]; omega)
  simp [e] at this
theorem fc_from : ∀ (c i : Nat), i + c = MM' k → ∀ n j, fc k (from' k i) = some (n, j) → i ≤ n ∧ fl k n = some j ∧ ∀ n', i ≤ n' → n' < n → fl k n' = none
  | 0, i, h, n, j, e => by
    have : from' k i = [] := by simp [from']; omega
    rw [this] at e
    simp [fc] at e
  | c + 1, i, h, n, j, e => by
    rw [from_cons k (by omega), fc] at e
    cases hf : fl k i with
    | some j' =>
      rw [hf] at e
      simp at e
      obtain ⟨rfl, rfl⟩ := e
      exact ⟨Nat.le_refl _, hf, fun n' q1 q2 => by omega⟩
    | none =>
      rw [hf] at e
      obtain ⟨h1, h2, h3⟩ := fc_from c (i + 1) (by omega) n j e
      refine ⟨by omega, h2, fun n' q1 q2 => ?_⟩
      by_cases hn : n' = i
      · subst hn; exact hf
      · exact h3 n' (by omega) q2
theorem fc_bst : ∃ n j, fc k (from' k 0) = some (n, j) ∧ Bst k (MM' k) n j := by
  cases h : fc k (from' k 0) with
  | none => exact absurd h (fc_some k)
  | some p =>
    obtain ⟨n, j⟩ := p
    obtain ⟨_, h2, h3⟩ := fc_from k (MM' k) 0 (by omega) n j h
    obtain ⟨a1, a2, a3, a4⟩ := fl_some k h2
    exact ⟨n, j, rfl, a1, a2, a3.symm, a4, fun n' j' q1 q2 q3 => fl_none k (h3 n' (Nat.zero_le _) q1) j' q2 q3⟩
def bD : Option (Nat × Nat) → DL.D
  | none => .tup []
  | some (n, j) => .tup [pD k n, pD k j]
theorem bst_end {b : Option (Nat × Nat)} (h : BstO k (MM' k) b) : bD k b = fnd k 0 := by
  obtain ⟨n, j, e, hb⟩ := fc_bst k
  cases b with
  | none => exact absurd hb.eq (h n j hb.nj hb.ji)
  | some p =>
    obtain ⟨n', j'⟩ := p
    obtain ⟨rfl, rfl⟩ := bst_uniq k hb h
    simp [bD, fnd, e, fD']
theorem bst_zero {i j : Nat} (h : Bst k i 0 j) (hi : i ≤ MM' k) : Bst k (MM' k) 0 j := ⟨h.nj, by have := h.ji; omega, h.eq, h.lj, fun n' j' q => by omega⟩
def FirstOk (i : Nat) (l : List DL.D) : Prop := l.length = mN k ∧ ∀ y : Nat, y < mN k → l[y]? = some (match fo k i y with | some j => pD k j | none => .tup [])
theorem nb_pD (n : Nat) : nb (pD k n) = true ∧ dep (pD k n) ≤ 60 := nb_dP _
theorem eq_pD0 (n : Nat) : gEq (pD k n) (.tup []) = some (.bl false) := by
  rw [eq_nb (nb_pD k n).1 (by simp [nb, nbL]) (nb_pD k n).2]; simp [pD, dP, sm]
theorem eq_00 : gEq (.tup []) (.tup []) = some (.bl true) := by
  rw [eq_nb (by simp [nb, nbL]) (by simp [nb, nbL]) (by simp [dep, depL])]; simp [sm, smL]
theorem nb_bD (b : Option (Nat × Nat)) : nb (bD k b) = true ∧ dep (bD k b) ≤ 60 := by
  cases b with
  | none => simp [bD, nb, nbL, dep, depL]
  | some p => simp [bD, nb, nbL, dep, depL, pD, dP]
theorem eq_bD (b : Option (Nat × Nat)) : gEq (bD k b) (.tup []) = some (.bl b.isNone) := by
  rw [eq_nb (nb_bD k b).1 (by simp [nb, nbL]) (nb_bD k b).2]
  cases b <;> simp [bD, sm, smL]
theorem ne_bD (b : Option (Nat × Nat)) : gNe (bD k b) (.tup []) = some (.bl b.isSome) := by
  rw [ne_nb (nb_bD k b).1 (by simp [nb, nbL]) (nb_bD k b).2]
  cases b <;> simp [bD, sm, smL]
theorem lt_pD (a b : Nat) : gLtA (pD k a) (pD k b) = some (.bl (decide (a < b))) := by
  have h2 := (mN2 k).1
  have : HT.lexLt [((a / mN k : Nat) : Int), ((a % mN k : Nat) : Int)] [((b / mN k : Nat) : Int), ((b % mN k : Nat) : Int)] = decide (a < b) := by
    have h3 := Nat.div_add_mod a (mN k)
    have h4 := Nat.div_add_mod b (mN k)
    have h5 := Nat.mod_lt a (show 0 < mN k by omega)
    have h6 := Nat.mod_lt b (show 0 < mN k by omega)
    generalize a / mN k = x1 at *
    generalize a % mN k = y1 at *
    generalize b / mN k = x2 at *
    generalize b % mN k = y2 at *
    rcases Nat.lt_trichotomy x1 x2 with h | h | h
    · have : mN k * (x1 + 1) ≤ mN k * x2 := Nat.mul_le_mul_left _ h
      have h7 : a < b := by rw [Nat.mul_add] at this; omega
      have h8 : ¬ ((x1 : Int) = x2) := by omega
      simp [HT.lexLt, h7, h8, h]
    · subst h
      have h8 : (a < b) = (y1 < y2) := by apply propext; omega
      by_cases h9 : y1 = y2
      · subst h9; simp [HT.lexLt, h8]
      · have h10 : ¬ ((y1 : Int) = y2) := by omega
        simp [HT.lexLt, h8, h10]
    · have : mN k * (x2 + 1) ≤ mN k * x1 := Nat.mul_le_mul_left _ h
      have h7 : ¬ a < b := by rw [Nat.mul_add] at this; omega
      have h8 : ¬ ((x1 : Int) = x2) := by omega
      have h9 : ¬ x1 < x2 := by omega
      simp [HT.lexLt, h7, h8, h9]
  simp only [pD, dP, gLtA, intsOf, this]

theorem dig {x y : Nat} (hx : x < mN k) (hy : y < mN k) : (x * mN k + y) / mN k = x ∧ (x * mN k + y) % mN k = y ∧ x * mN k + y < MM' k := by
  obtain ⟨h2, h97⟩ := mN2 k
  refine ⟨by rw [Nat.mul_comm, Nat.mul_add_div (by omega), Nat.div_eq_of_lt hy]; rfl, by rw [Nat.mul_comm, Nat.mul_add_mod, Nat.mod_eq_of_lt hy], ?_⟩
  unfold MM'
  calc x * mN k + y < x * mN k + mN k := by omega
    _ = (x + 1) * mN k := by rw [Nat.add_mul]; omega
    _ ≤ mN k * mN k := Nat.mul_le_mul_right _ hx
theorem b_lc {x y : Nat} (hx : x < mN k) (hy : y < mN k) {l : List DL.D} {b : Option (Nat × Nat)} (hl : FirstOk k (x * mN k + y) l) {s2 s6 : Sl} : ∃ l', FirstOk k (x * mN k + y + 1) l' ∧ B__law_collision_1 [.val k.D, .own (.lst l), s2, .val (bD k b), .val (.int x), .val (.int y), s6] = .nx [.val k.D, .own (.lst l'), s2, .val (bD k (nxB k (x * mN k + y) b)), .val (.int x), .val (.int y), .val (.int (fM k (x * mN k + y)))] := by
  obtain ⟨hd, hm, hlt⟩ := dig k hx hy
  have hok := okDig k _ hlt
  have hf : fM k (x * mN k + y) = k.mrk ((x * mN k + y) / mN k : Nat) ((x * mN k + y) % mN k : Nat) := rfl
  have hp : pD k (x * mN k + y) = .tup [.int x, .int y] := by unfold pD; rw [hd, hm]; rfl
  rw [hd, hm] at hok hf
  have hmk := e_law_mark k hok.1 hok.2
  rw [← hf] at hmk
  generalize x * mN k + y = i at *
  have of' : k.Ok (fM k i) := k.mrk_ok _ _
  obtain ⟨v, hv⟩ : ∃ v : Nat, fM k i = v := ⟨(fM k i).toNat, by have := of'.1; omega⟩
  have hvm : v < mN k := by have := of'.2; have := mN_m k; omega
  have hgv := hl.2 v hvm
  have hat : atI l (v : Int) = l[v]? := by
    have : v < l.length := by rw [hl.1]; exact hvm
    rw [x_atN this, List.getElem?_eq_getElem this]
  rw [hgv] at hat
  have hix : ixN l.length (v : Int) = some v := by
    have : v < l.length := by rw [hl.1]; exact hvm
    simp [ixN, this]
  have hfirst : ∀ l' : List DL.D, l'.length = mN k → (∀ y : Nat, y < mN k → l'[y]? = if y = v ∧ fo k i v = none then some (pD k i) else l[y]?) → FirstOk k (i + 1) l' := by
    intro l' h1 h2
    refine ⟨h1, fun y hy => ?_⟩
    rw [h2 y hy, fo_succ]
    by_cases hyv : y = v
    · subst hyv
      cases hfo : fo k i y with
      | none => simp [hv]
      | some f => rw [if_neg (by simp)]; rw [hl.2 y hy, hfo]
    · rw [if_neg (by simp [hyv]), hl.2 y hy]
      cases hfo : fo k i y with
      | none =>
        have : ¬ fM k i = (y : Int) := by rw [hv]; omega
        simp [this]
      | some f => rfl
  rw [hv] at hmk
  unfold nxB
  rw [hv]
  cases hfo : fo k i v with
  | none =>
    rw [hfo] at hat
    simp only at hat
    refine ⟨l.set v (pD k i), hfirst _ (by simp [hl.1]) (fun y hy => ?_), ?_⟩
    · by_cases hyv : y = v
      · subst hyv
        have : y < l.length := by rw [hl.1]; exact hy
        simp [hfo, this]
      · rw [if_neg (by simp [hyv]), List.getElem?_set_ne (by omega)]
    · simp [B__law_collision_1, hmk, hat, eq_00, hix, hp]
  | some f =>
    rw [hfo] at hat
    simp only at hat
    refine ⟨l, hfirst l hl.1 (fun y hy => by rw [if_neg (by rw [hfo]; simp)]), ?_⟩
    cases b with
    | none => simp [B__law_collision_1, hmk, hat, eq_pD0, eq_00, hp, bD]
    | some p =>
      obtain ⟨n, j⟩ := p
      have hb0 : gIx (bD k (some (n, j))) (.int 0) = some (pD k n) := by simp [bD]
      by_cases hfn : f < n
      · simp [B__law_collision_1, hmk, hat, eq_pD0, eq_bD, hb0, lt_pD, hfn, hp]
        simp [bD, hp]
      · simp [B__law_collision_1, hmk, hat, eq_pD0, eq_bD, hb0, lt_pD, hfn, hp]
theorem f_lci {x : Nat} (hx : x < mN k) {s2 : Sl} : ∀ (c y : Nat) (l : List DL.D) (b : Option (Nat × Nat)) (s5 s6 : Sl), y + c = mN k → FirstOk k (x * mN k + y) l → BstO k (x * mN k + y) b → ∃ (l' : List DL.D) (b' : Option (Nat × Nat)) (s5' s6' : Sl), FirstOk k (x * mN k + mN k) l' ∧ BstO k (x * mN k + mN k) b' ∧ forL (tgN 5) B__law_collision_1 ((List.range' y c).map fun i : Nat => D.int (i : Int)) [.val k.D, .own (.lst l), s2, .val (bD k b), .val (.int x), s5, s6] = .nx [.val k.D, .own (.lst l'), s2, .val (bD k b'), .val (.int x), s5', s6']
  | 0, y, l, b, s5, s6, h, h1, h2 => by
    have hy : y = mN k := by omega
    rw [hy] at h1 h2
    exact ⟨l, b, s5, s6, h1, h2, by simp⟩
  | c + 1, y, l, b, s5, s6, h, h1, h2 => by
    obtain ⟨l1, g1, e1⟩ := b_lc k hx (y := y) (by omega) h1 (b := b) (s2 := s2) (s6 := s6)
    obtain ⟨l', b', t5, t6, g2, g3, e2⟩ := f_lci hx c (y + 1) l1 (nxB k (x * mN k + y) b) (.val (.int y)) (.val (.int (fM k (x * mN k + y)))) (by omega) g1 (bst_step k h2) (s2 := s2)
    exact ⟨l', b', t5, t6, g2, g3, by rw [List.range'_succ, List.map_cons, x_forL_nx rfl e1, e2]⟩
theorem f_lco {s2 : Sl} : ∀ (c x : Nat) (l : List DL.D) (b : Option (Nat × Nat)) (s4 s5 s6 : Sl), x + c = mN k → FirstOk k (x * mN k) l → BstO k (x * mN k) b → ∃ (l' : List DL.D) (s3' s4' s5' s6' : Sl), (forL (tgN 4) B__law_collision_2 ((List.range' x c).map fun i : Nat => D.int (i : Int)) [.val k.D, .own (.lst l), s2, .val (bD k b), s4, s5, s6] = .rt (fnd k 0) [.val k.D, .own (.lst l'), s2, s3', s4', s5', s6'] ∨ (s3' = .val (fnd k 0) ∧ forL (tgN 4) B__law_collision_2 ((List.range' x c).map fun i : Nat => D.int (i : Int)) [.val k.D, .own (.lst l), s2, .val (bD k b), s4, s5, s6] = .nx [.val k.D, .own (.lst l'), s2, s3', s4', s5', s6']))
  | 0, x, l, b, s4, s5, s6, h, h1, h2 => by
    have hx : x = mN k := by omega
    subst hx
    have := bst_end k h2
    exact ⟨l, .val (fnd k 0), s4, s5, s6, .inr ⟨rfl, by simp [this]⟩⟩
  | c + 1, x, l, b, s4, s5, s6, h, h1, h2 => by
    obtain ⟨l1, b1, t5, t6, g1, g2, e1⟩ := f_lci k (x := x) (by omega) (mN k) 0 l b s5 s6 (by omega) h1 h2 (s2 := s2)
    rw [← List.range_eq_range'] at e1
    have hx1 : x * mN k + mN k = (x + 1) * mN k := by rw [Nat.add_mul, Nat.one_mul]
    rw [hx1] at g1 g2
    obtain ⟨hm2, h97⟩ := mN2 k
    have hs := small_of (n := mN k) (by omega)
    rw [mN_m] at hs
    have hr : rngD 0 1 k.m.toNat = (List.range (mN k)).map fun i : Nat => D.int (i : Int) := rngNat
    have hle : (x + 1) * mN k ≤ MM' k := Nat.mul_le_mul_right _ (by omega)
    by_cases hb : ∃ j, b1 = some (0, j)
    · obtain ⟨j, rfl⟩ := hb
      have hend := bst_end k (b := some (0, j)) (bst_zero k g2 hle)
      have hb0 : gIx (bD k (some (0, j))) (.int 0) = some (.tup [.int 0, .int 0]) := by simp [bD, pD, dP]
      have h00 : gEq (.tup [.int 0, .int 0]) (.tup [.int 0, .int 0]) = some (.bl true) := by
        rw [eq_nb (by simp [nb, nbL]) (by simp [nb, nbL]) (by simp [dep, depL])]; simp [sm, smL]
      have n1 : gNe (fnd k 0) (.tup []) = some (.bl true) := by rw [← hend]; exact ne_bD k _
      rw [hend] at hb0 e1
      have hbd : B__law_collision_2 [.val k.D, .own (.lst l), s2, .val (bD k b), .val (.int x), s5, s6] = .rt (fnd k 0) [.val k.D, .own (.lst l1), s2, .val (fnd k 0), .val (.int x), t5, t6] := by
        simp [B__law_collision_2, hs, hr, e1, n1, hb0, h00]
      exact ⟨l1, _, _, _, _, .inl (by rw [List.range'_succ, List.map_cons, x_forL_rt rfl hbd])⟩
    · have hbd : B__law_collision_2 [.val k.D, .own (.lst l), s2, .val (bD k b), .val (.int x), s5, s6] = .nx [.val k.D, .own (.lst l1), s2, .val (bD k b1), .val (.int x), t5, t6] := by
        cases b1 with
        | none => simp [B__law_collision_2, hs, hr, e1, ne_bD]
        | some p =>
          obtain ⟨n, j⟩ := p
          have hn : n ≠ 0 := fun z => hb ⟨j, by rw [z]⟩
          have hb0 : gIx (bD k (some (n, j))) (.int 0) = some (pD k n) := by simp [bD]
          have h00 : gEq (pD k n) (.tup [.int 0, .int 0]) = some (.bl false) := by
            have hj : (Bst k ((x + 1) * mN k) n j) := g2
            rw [eq_nb (nb_pD k n).1 (by simp [nb, nbL]) (nb_pD k n).2]
            have h3 := Nat.div_add_mod n (mN k)
            have : ¬ (n / mN k = 0 ∧ n % mN k = 0) := by rintro ⟨z1, z2⟩; rw [z1, z2] at h3; simp at h3; omega
            by_cases z1 : n / mN k = 0
            · have z2 : ¬ n % mN k = 0 := fun z => this ⟨z1, z⟩
              have z3 : ¬ ((n % mN k : Nat) : Int) = 0 := by omega
              have z4 : ((n / mN k : Nat) : Int) = 0 := by omega
              simp only [pD, dP, sm, smL, z4, z3]
              simp
            · have z3 : ¬ ((n / mN k : Nat) : Int) = 0 := by omega
              simp only [pD, dP, sm, smL, z3]
              simp
          simp [B__law_collision_2, hs, hr, e1, ne_bD, hb0, h00]
      obtain ⟨l', t3, t4, t5', t6', e⟩ := f_lco c (x + 1) l1 b1 (.val (.int x)) t5 t6 (by omega) g1 g2 (s2 := s2)
      refine ⟨l', t3, t4, t5', t6', ?_⟩
      rw [List.range'_succ, List.map_cons, x_forL_nx rfl hbd]
      exact e
theorem e_law_collision : fd__law_collision [.v k.D] = .ret (fnd k 0) [] := by
  obtain ⟨hm2, h97⟩ := mN2 k
  have hs := small_of (n := mN k) (by omega)
  rw [mN_m] at hs
  have hlim : mN k ≤ lim := lim_of (by omega)
  have hr : rngD 0 1 k.m.toNat = (List.range (mN k)).map fun i : Nat => D.int (i : Int) := rngNat
  have hc := x_compL (γ := tgN 2) (elt := L__law_collision_1) (g := fun i : Nat => D.int (i : Int)) (f := fun _ => .tup []) (δ := [.val k.D, .no, .no, .no, .no, .no, .no]) (vs := [2]) (List.range (mN k)) [] (by
    intro i hi
    exact ⟨_, [.val k.D, .no, .val (.int i), .no, .no, .no, .no], rfl, by simp [L__law_collision_1], rfl⟩)
  have h1 : FirstOk k (0 * mN k) ((List.range (mN k)).map fun _ => DL.D.tup []) := by
    refine ⟨by simp, fun y hy => ?_⟩
    simp [fo, hy]
  have h2 : BstO k (0 * mN k) none := by intro n j _ h; simp at h
  obtain ⟨l', t3, t4, t5, t6, e⟩ := f_lco k (mN k) 0 _ none .no .no .no (by omega) h1 h2 (s2 := .no)
  rw [← List.range_eq_range'] at e
  simp only [bD] at e
  rw [List.nil_append] at hc
  rcases e with e | ⟨rfl, e⟩
  · simp [fd__law_collision, fb__law_collision, hs, hr, hlim, hc, e, -List.map_const]
  · simp [fd__law_collision, fb__law_collision, hs, hr, hlim, hc, e, -List.map_const]
end Pg
set_option Elab.async false
set_option linter.all false
set_option maxRecDepth 100000
set_option maxHeartbeats 2000000
namespace Pg
open PySem PySem.Spec L2 DL
open PyProof.Rows hiding St
variable (k : Ky)
/-! ### two pairs -/
theorem e_law_two {p q : Int × Int} (hp : k.Ok p.1 ∧ k.Ok p.2) (hq : k.Ok q.1 ∧ k.Ok q.2) (hne : p ≠ q) (hm : k.mrk p.1 p.2 = k.mrk q.1 q.2) : fd__law_two [.v (.tup [dP p, dP q]), .v k.D] = .ret (.bl true) [] := by
  have hb : ∀ (r : Int × Int), (k.Ok r.1 ∧ k.Ok r.2) → ∀ s3 : Sl, B__law_two_1 [.val (.tup [dP p, dP q]), .val k.D, .val (dP r), .no, .no] = .nx [.val (.tup [dP p, dP q]), .val k.D, .val (dP r), .no, .no] := by
    intro r hr s3
    obtain ⟨⟨a0, a1⟩, ⟨b0, b1⟩⟩ := hr
    have n1 : ¬ r.1 < 0 := by omega
    have n2 : ¬ r.2 < 0 := by omega
    have n3 : ¬ k.m ≤ r.1 := by omega
    have n4 : ¬ k.m ≤ r.2 := by omega
    have hc1 := x_compLf (γ := tgN 3) (cond := C__law_two_1) (elt := L__law_two_1) (g := D.int) (p := fun _ => false) (f := D.int) (δ := [.val (.tup [dP p, dP q]), .val k.D, .val (dP r), .no, .no]) (vs := [3]) [r.1, r.2] [] (by
      intro d _
      exact ⟨_, [.val (.tup [dP p, dP q]), .val k.D, .val (dP r), .val (.int d), .no], [.val (.tup [dP p, dP q]), .val k.D, .val (dP r), .val (.int d), .no], rfl, by simp [C__law_two_1], rfl, fun h => by simp at h⟩)
    have hc2 := x_compLf (γ := tgN 3) (cond := C__law_two_2) (elt := L__law_two_2) (g := D.int) (p := fun _ => false) (f := D.int) (δ := [.val (.tup [dP p, dP q]), .val k.D, .val (dP r), .no, .no]) (vs := [3]) [r.1, r.2] [] (by
      intro d hd
      have hd' : ¬ d < 0 ∧ ¬ k.m ≤ d := by simp at hd; rcases hd with rfl | rfl; exact ⟨n1, n3⟩; exact ⟨n2, n4⟩
      exact ⟨_, [.val (.tup [dP p, dP q]), .val k.D, .val (dP r), .val (.int d), .no], [.val (.tup [dP p, dP q]), .val k.D, .val (dP r), .val (.int d), .no], rfl, by simp [C__law_two_2, hd'.1, hd'.2], rfl, fun h => by simp at h⟩)
    simp only [List.map_cons, List.map_nil, List.nil_append] at hc1 hc2
    have hlim : 2 ≤ lim := by decide
    have hdp : dP r = .tup [.int r.1, .int r.2] := rfl
    rw [hdp] at hc1 hc2 ⊢
    simp only [B__law_two_1]
    simp [hc1, hc2, hlim]
  have h1 : gIx (dP p) (.int 0) = some (.int p.1) := by simp [dP]
  have h2 : gIx (dP p) (.int 1) = some (.int p.2) := by simp [dP]
  have h3 : gIx (dP q) (.int 0) = some (.int q.1) := by simp [dP]
  have h4 : gIx (dP q) (.int 1) = some (.int q.2) := by simp [dP]
  have hf : forL (tgN 2) B__law_two_1 [dP p, dP q] [.val (.tup [dP p, dP q]), .val k.D, .no, .no, .no] = .nx [.val (.tup [dP p, dP q]), .val k.D, .val (dP q), .no, .no] := by
    rw [x_forL_nx rfl (hb p hp .no), x_forL_nx rfl (hb q hq .no)]; rfl
  have hne' : ¬ (p.1 = q.1 ∧ p.2 = q.2) := fun z => hne (Prod.ext z.1 z.2)
  by_cases e1 : p.1 = q.1
  · have e2 : ¬ p.2 = q.2 := fun z => hne' ⟨e1, z⟩
    have hi1 := e_law_mark k hp.1 hp.2
    rw [e1] at hi1 hm h1
    simp [fd__law_two, fb__law_two, hf, h1, h2, h3, h4, e2, hi1, e_law_mark k hq.1 hq.2, hm]
  · simp [fd__law_two, fb__law_two, hf, h1, h2, h3, h4, e1, e_law_mark k hp.1 hp.2, e_law_mark k hq.1 hq.2, hm]
theorem prs_inj : ∀ (p1 p2 : List Int) (a : Nat) (x : Int), prs k p1 a x = prs k p2 a x → p1 = p2
  | [], [], _, _, _ => rfl
  | [], _ :: _, _, _, h => by simp [prs] at h
  | _ :: _, [], _, _, h => by simp [prs] at h
  | c :: p1, d :: p2, a, x, h => by
    simp only [prs, List.cons.injEq] at h
    have hc : c = d := by
      have := h.1
      split at this
      · exact (Prod.mk.inj this).2
      · exact (Prod.mk.inj this).1
    subst hc
    rw [prs_inj p1 p2 _ _ h.2]
theorem e_law_same {n : Nat} {l : List Int} {a : Nat} {x1 x2 : Int} {p1 p2 : List Int} (hr : k.Ok (rt k n l)) (h1 : k.Ok x1) (h2 : k.Ok x2) (o1 : ∀ q ∈ p1, k.Ok q) (o2 : ∀ q ∈ p2, k.Ok q) (l1 : p1.length ≤ 900) (hl : p2.length = p1.length) (d1 : leads k (rt k n l) a x1 p1 = true) (d2 : leads k (rt k n l) a x2 p2 = true) (hne : ¬ (x1 = x2 ∧ p1 = p2)) : fd__law_same [.v (wD k n l), .v (.int a), .v (pf x1 p1), .v (pf x2 p2)] = .ret (.bl true) [] := by
  have e1 := e_same_marks k (a := a) hr h1 h2 o1 o2 l1 (by omega)
  have e2 := e_same_marks k (a := a) hr h2 h1 o2 o1 (by omega) (by omega)
  have hn1 : ¬ (x2 = x1 ∧ p2 = p1) := fun z => hne ⟨z.1.symm, z.2.symm⟩
  simp only [d1, d2, Bool.true_eq_false, if_false, hl, ne_eq, not_true_eq_false, hn1, hne, or_self] at e1 e2
  have c12 : clm k p1 a x1 = clm k p2 a x2 := by
    have q1 : clm k p1 a x1 = rt k n l := by simp [leads] at d1; exact d1.1
    have q2 : clm k p2 a x2 = rt k n l := by simp [leads] at d2; exact d2.1
    rw [q1, q2]
  have g1 := ld_good k p1 p2 a x1 x2 .non (by omega) o1 o2 h1 h2 c12
  have g2 := ld_good k p2 p1 a x2 x1 .non (by omega) o2 o1 h2 h1 c12.symm
  have g1' := g1.resolve_right (fun z => hne (by
    obtain ⟨_, z2, rfl⟩ := z
    exact ⟨rfl, prs_inj k p1 p2 a x1 z2⟩))
  have g2' := g2.resolve_right (fun z => hn1 (by
    obtain ⟨_, z2, rfl⟩ := z
    exact ⟨rfl, prs_inj k p2 p1 a x2 z2⟩))
  obtain ⟨p, q, z1, z2, z3, z4, z5⟩ := g1'
  obtain ⟨p', q', y1, y2, y3, y4, y5⟩ := g2'
  rw [z1] at e1
  rw [y1] at e2
  have t1 := e_law_two k z4 z5 z2 z3
  have t2 := e_law_two k y4 y5 y2 y3
  simp [fd__law_same, fb__law_same, e1, e2, t1, t2]
theorem tt_v : tst ts_ValueError "InvalidPaper" = some true := by decide
theorem tt_u : tst ts_Undefined "InvalidPaper" = some false := by decide
theorem tt_v2 : tst ts_ValueError "Undefined" = some true := by decide
theorem tt_p2 : tst ts_InvalidPaper "Undefined" = some false := by decide
theorem tst_ip : tst tl_InvalidPaper "InvalidPaper" = some true := by decide
theorem tst_u : tst tl_Undefined "Undefined" = some true := by decide
theorem s_pp : ¬ (Str.ofString "part" = Str.ofString "place") := by decide
theorem eq_str (a : Str) : gEq (.str a) (.str a) = some (.bl true) := by
  rw [eq_nb (by simp [nb]) (by simp [nb]) (by simp [dep])]; simp [sm]
@[simp] theorem x_eFld {a dx : Addr} {i : Nat} {f : Str} {δ : List Sl} : eFld a dx i f δ = (match δ[i]? with
  | some (.exn a' dx' _ ns vs) => if a' = a ∧ dx' = dx then opt (fld ns vs f) δ else .bad
  | _ => .bad) := (rfl)
@[simp] theorem x_eIsE {a dx : Addr} {c : Str} {i : Nat} {l : List (Str × Bool)} {δ : List Sl} : eIsE a dx c i l δ = (match δ[i]? with
  | some (.exn a' dx' c' _ _) => if a' = a ∧ dx' = dx ∧ c' = c then (match tst l c with
    | some b => .ok (.v (.bl b)) δ
    | none => .bad) else .bad
  | _ => .bad) := (rfl)
theorem wrong_core {n : Nat} {l : List Int} {a : Nat} {d1 d2 : DL.D} {part : Str} (e : fd_same_marks [.v k.D, .v (.int (rt k n l)), .v (.int a), .v d1, .v d2] = .exc "InvalidPaper" ["place", "part"] [.int 0, .str part] []) : fd__law_wrong [.v (wD k n l), .v (.int a), .v d1, .v d2, .v (.str part)] = .ret (.bl true) [] := by
  have has : [Ar.v (wD k n l), .v (.int (a : Int)), .v d1, .v d2, .v (.str part)].length = 5 := rfl
  have hsl : slots 6 [Ar.v (wD k n l), .v (.int (a : Int)), .v d1, .v d2, .v (.str part)] = [.val (wD k n l), .val (.int a), .val d1, .val d2, .val (.str part), .no] := rfl
  have hh : handle [hd__law_wrong_0] "InvalidPaper" ["place", "part"] [.int 0, .str part] [.val (wD k n l), .val (.int a), .val d1, .val d2, .val (.str part), .no] = .rt (.bl true) [.val (wD k n l), .val (.int a), .val d1, .val d2, .val (.str part), .no] := by
    refine handle_t tst_ip ?_
    intro aa dx
    simp [hd__law_wrong_0, setIn, unset, tt_v, tt_u, fld, s_pp, eq_str, e_num]
  simp only [fd__law_wrong, x_fD, if_pos has, hsl]
  simp [fb__law_wrong, e, hh]
theorem e_wrong_one {n : Nat} {l : List Int} {a : Nat} {x1 x2 : Int} {p1 p2 : List Int} (hr : k.Ok (rt k n l)) (h1 : k.Ok x1) (h2 : k.Ok x2) (o1 : ∀ q ∈ p1, k.Ok q) (o2 : ∀ q ∈ p2, k.Ok q) (l1 : p1.length ≤ 900) (l2 : p2.length ≤ 900) (hd : leads k (rt k n l) a x1 p1 = false) : fd__law_wrong [.v (wD k n l), .v (.int a), .v (pf x1 p1), .v (pf x2 p2), .v (.str "one")] = .ret (.bl true) [] := by
  have e1 := e_same_marks k (a := a) hr h1 h2 o1 o2 l1 l2
  rw [if_pos hd] at e1
  exact wrong_core k e1
theorem e_wrong_other {n : Nat} {l : List Int} {a : Nat} {x1 x2 : Int} {p1 p2 : List Int} (hr : k.Ok (rt k n l)) (h1 : k.Ok x1) (h2 : k.Ok x2) (o1 : ∀ q ∈ p1, k.Ok q) (o2 : ∀ q ∈ p2, k.Ok q) (l1 : p1.length ≤ 900) (l2 : p2.length ≤ 900) (hd : leads k (rt k n l) a x1 p1 = true) (hd2 : leads k (rt k n l) a x2 p2 = false ∨ p2.length ≠ p1.length ∨ (x2 = x1 ∧ p2 = p1)) : fd__law_wrong [.v (wD k n l), .v (.int a), .v (pf x1 p1), .v (pf x2 p2), .v (.str "other")] = .ret (.bl true) [] := by
  have e1 := e_same_marks k (a := a) hr h1 h2 o1 o2 l1 l2
  rw [if_neg (by rw [hd]; simp), if_pos hd2] at e1
  exact wrong_core k e1
/-! ### collided -/
theorem e_law_collided : fd__law_collided [.v k.D] = .ret (.bl true) [] := by
  obtain ⟨n, j, e, hb⟩ := fc_bst k
  have hn : n < MM' k := by have := hb.nj; have := hb.ji; omega
  obtain ⟨o1, o2⟩ := okDig k n hn
  obtain ⟨o3, o4⟩ := okDig k j hb.ji
  have hfd : fnd k 0 = .tup [pD k n, pD k j] := by simp [fnd, e, fD']
  have ec := e_collision k
  have el := e_law_collision k
  rw [hfd] at ec el
  have hne : (((n / mN k : Nat) : Int), ((n % mN k : Nat) : Int)) ≠ (((j / mN k : Nat) : Int), ((j % mN k : Nat) : Int)) := by
    intro z
    have z1 := (Prod.mk.inj z).1
    have z2 := (Prod.mk.inj z).2
    have h3 := Nat.div_add_mod n (mN k)
    have h4 := Nat.div_add_mod j (mN k)
    have := hb.nj
    have z1' : n / mN k = j / mN k := by omega
    have z2' : n % mN k = j % mN k := by omega
    rw [z1', z2'] at h3
    omega
  have hmk : k.mrk ((n / mN k : Nat) : Int) ((n % mN k : Nat) : Int) = k.mrk ((j / mN k : Nat) : Int) ((j % mN k : Nat) : Int) := hb.eq
  have t := e_law_two k (p := (((n / mN k : Nat) : Int), ((n % mN k : Nat) : Int))) (q := (((j / mN k : Nat) : Int), ((j % mN k : Nat) : Int))) ⟨o1, o2⟩ ⟨o3, o4⟩ hne hmk
  have v1 := e_view (a := [((n / mN k : Nat) : Int), ((n % mN k : Nat) : Int)]) (by simp) rfl
  have v2 := e_view (a := [((j / mN k : Nat) : Int), ((j % mN k : Nat) : Int)]) (by simp) rfl
  have m1 := e_law_mark k o1 o2
  have m2 := e_mark_of k o1 o2
  have m3 := e_mark_of k o3 o4
  rw [← hmk] at m3
  simp only [tI, List.map_cons, List.map_nil] at v1 v2
  simp only [pD, dP] at ec el t
  generalize ((n / mN k : Nat) : Int) = A at *
  generalize ((n % mN k : Nat) : Int) = B at *
  generalize ((j / mN k : Nat) : Int) = C at *
  generalize ((j % mN k : Nat) : Int) = E at *
  simp [fd__law_collided, fb__law_collided, ec, el, t, v1, v2, m1, m2, m3, e_num]
/-! ### forged -/
theorem e_law_forged {st : List DL.D} {n : Nat} {l : List Int} {a : Nat} {x : Int} (hl : l.length = 2 ^ n) (ha : a < 2 ^ n) (hn : n ≤ 4) (ho : ∀ x ∈ l, k.Ok x) (hx : k.Ok x) (hne : x ≠ ig l a) : fd__law_forged [.io (.lst st), .v (wD k n l), .v (.int a), .v (.int x)] = .ret (.bl true) [.lst st] := by
  have h16 : 2 ^ n ≤ 2 ^ 4 := Nat.pow_le_pow_right (by decide) hn
  have ef := e_forged k hl ha hn ho hx
  rw [if_neg hne] at ef
  obtain ⟨now, ⟨hnl, hnow⟩, er⟩ := e_law_reached k (a := a) (n := n) hx (by omega)
  have rok := rt_ok k hl ho
  obtain ⟨r, hr⟩ : ∃ r : Nat, rt k n l = r := ⟨(rt k n l).toNat, by have := rok.1; omega⟩
  have hrm : r < mN k := by have := rok.2; have := mN_m k; omega
  have hix := atMap (l := now) (i := r) (by omega)
  rw [← hr] at hix
  have hia := atMap (l := l) (i := a) (by omega)
  have hp := e_law_path k hl ha hn
  have has : [Ar.io (.lst st), .v (wD k n l), .v (.int (a : Int)), .v (.int x)].length = 4 := rfl
  have hsl : slots 12 [Ar.io (.lst st), .v (wD k n l), .v (.int (a : Int)), .v (.int x)] = [.io 0 (.lst st), .val (wD k n l), .val (.int a), .val (.int x), .no, .no, .no, .no, .no, .no, .no, .no] := rfl
  have oka := okGet k ho (i := a) (by omega)
  simp only [fd__law_forged, x_fD, if_pos has, hsl]
  refine seq_fin (δ' := [.io 0 (.lst st), .val (wD k n l), .val (.int a), .val (.int x), .val k.D, .no, .no, .no, .no, .no, .no, .no]) (by simp) ?_
  refine seq_fin (δ' := [.io 0 (.lst st), .val (wD k n l), .val (.int a), .val (.int x), .val k.D, .val (.int n), .no, .no, .no, .no, .no, .no]) (by simp) ?_
  refine seq_fin (δ' := [.io 0 (.lst st), .val (wD k n l), .val (.int a), .val (.int x), .val k.D, .val (.int n), .val (.bl (decide (ig now r = 1))), .no, .no, .no, .no, .no]) (by simp [er, hix]) ?_
  refine seq_fin (δ' := [.io 0 (.lst st), .val (wD k n l), .val (.int a), .val (.int x), .val k.D, .val (.int n), .val (.bl (decide (ig now r = 1))), .val (pf (ig l a) (pth k n l a)), .no, .no, .no, .no]) (by simp [hia, hp, pf]) ?_
  cases hf : frg k l a x n with
  | none =>
    rw [hf] at ef
    simp only at ef
    have hno : ¬ ig now r = 1 := by
      intro z
      obtain ⟨p, hp⟩ := (hnow r hrm).mp z
      rw [← hr] at hp
      exact frg_none k hf hp
    have hh : handle [hd__law_forged_0] "Undefined" ["what"] [.str "path"] [.io 0 (.lst st), .val (wD k n l), .val (.int a), .val (.int x), .val k.D, .val (.int n), .val (.bl false), .val (pf (ig l a) (pth k n l a)), .no, .no, .no, .no] = .rt (.bl true) [.io 0 (.lst st), .val (wD k n l), .val (.int a), .val (.int x), .val k.D, .val (.int n), .val (.bl false), .val (pf (ig l a) (pth k n l a)), .no, .no, .no, .no] := by
      refine handle_t tst_u ?_
      intro aa dx
      simp [hd__law_forged_0, setIn, unset, tt_v2, tt_p2, fld, eq_str]
    rw [decide_eq_false hno]
    simp [ef, hh]
  | some p =>
    rw [hf] at ef
    simp only at ef
    obtain ⟨r1, r2, r3⟩ := frg_some k hf
    have hyes : ig now r = 1 := by
      refine (hnow r hrm).mpr ⟨p, ?_⟩
      rw [← hr]
      exact ⟨r1, r2, r3⟩
    rw [decide_eq_true hyes]
    refine seq_fin (δ' := [.io 0 (.lst st), .val (wD k n l), .val (.int a), .val (.int x), .val k.D, .val (.int n), .val (.bl true), .val (pf (ig l a) (pth k n l a)), .val (tI p), .no, .no, .no]) (by simp [ef]) ?_
    refine seq_fin (δ' := [.io 0 (.lst st), .val (wD k n l), .val (.int a), .val (.int x), .val k.D, .val (.int n), .val (.bl true), .val (pf (ig l a) (pth k n l a)), .val (tI p), .no, .no, .no]) (by simp [r1]) ?_
    obtain ⟨δ2, e2, s, hs0, rfl⟩ := x_forL_inv (γ := tgN 10) (g := D.int) (b := B__law_forged_1) (fun _ δ => ∃ s, (s = .no ∨ ∃ d, s = .val d) ∧ δ = [.io 0 (.lst st), .val (wD k n l), .val (.int a), .val (.int x), .val k.D, .val (.int n), .val (.bl true), .val (pf (ig l a) (pth k n l a)), .val (tI p), .no, s, .no]) p 0 [.io 0 (.lst st), .val (wD k n l), .val (.int a), .val (.int x), .val k.D, .val (.int n), .val (.bl true), .val (pf (ig l a) (pth k n l a)), .val (tI p), .no, .no, .no] ⟨_, .inl rfl, rfl⟩ (by
      rintro j hj _ ⟨s, _, rfl⟩
      have := r2 (p[j]'(by simpa using hj)) (by simp)
      have h1 : ¬ p[j] < 0 := by have := this.1; omega
      have h2 : ¬ k.m ≤ p[j] := by have := this.2; omega
      exact ⟨_, [.io 0 (.lst st), .val (wD k n l), .val (.int a), .val (.int x), .val k.D, .val (.int n), .val (.bl true), .val (pf (ig l a) (pth k n l a)), .val (tI p), .no, .val (.int p[j]), .no], rfl, .inl (by simp [B__law_forged_1, h1, h2]), _, .inr ⟨_, rfl⟩, rfl⟩)
    refine seq_fin (δ' := [.io 0 (.lst st), .val (wD k n l), .val (.int a), .val (.int x), .val k.D, .val (.int n), .val (.bl true), .val (pf (ig l a) (pth k n l a)), .val (tI p), .no, s, .no]) (by simp [e2]) ?_
    have etop := e_law_top k (t := true) (a := a) r2 hx (by omega)
    simp only [sq, if_true, r3] at etop
    refine seq_fin (δ' := [.io 0 (.lst st), .val (wD k n l), .val (.int a), .val (.int x), .val k.D, .val (.int n), .val (.bl true), .val (pf (ig l a) (pth k n l a)), .val (tI p), .no, s, .no]) (by simp [etop]) ?_
    have hs : ∃ s', nLc (iSeq (eVar 8)) [10] (tgN 10) bTrue L__law_forged_1 [.io 0 (.lst st), .val (wD k n l), .val (.int a), .val (.int x), .val k.D, .val (.int n), .val (.bl true), .val (pf (ig l a) (pth k n l a)), .val (tI p), .no, s, .no] = .ok (.lst (p.map D.int)) [.io 0 (.lst st), .val (wD k n l), .val (.int a), .val (.int x), .val k.D, .val (.int n), .val (.bl true), .val (pf (ig l a) (pth k n l a)), .val (tI p), .no, s', .no] := by
      have hlim : p.length ≤ lim := lim_of (by omega)
      have hc := x_compL (γ := tgN 10) (elt := L__law_forged_1) (g := D.int) (f := D.int) (δ := [.io 0 (.lst st), .val (wD k n l), .val (.int a), .val (.int x), .val k.D, .val (.int n), .val (.bl true), .val (pf (ig l a) (pth k n l a)), .val (tI p), .no, .no, .no]) (vs := [10]) p [] (by
        intro d hd
        exact ⟨_, [.io 0 (.lst st), .val (wD k n l), .val (.int a), .val (.int x), .val k.D, .val (.int n), .val (.bl true), .val (pf (ig l a) (pth k n l a)), .val (tI p), .no, .val (.int d), .no], rfl, by simp [L__law_forged_1], rfl⟩)
      rw [List.nil_append] at hc
      refine ⟨s, ?_⟩
      rcases hs0 with rfl | ⟨d, rfl⟩ <;> simp [hlim, hc]
    obtain ⟨s', hs⟩ := hs
    refine seq_fin (δ' := [.io 0 (.lst st), .val (wD k n l), .val (.int a), .val (.int x), .val k.D, .val (.int n), .val (.bl true), .val (pf (ig l a) (pth k n l a)), .val (tI p), .no, s', .val (tI p)]) (by simp only [x_sAsg, x_eCB, x_aCons, x_eN, hs]; simp) ?_
    have ei := e_is_path k (a := a) (r := rt k n l) r2 hx rok (by omega)
    rw [r3, r1, decide_eq_true (rfl : rt k n l = rt k n l), decide_eq_true ha, Bool.and_self] at ei
    have et := e_truth (a := true) (b := true)
    refine seq_fin (δ' := [.io 0 (.lst st), .val (wD k n l), .val (.int a), .val (.int x), .val k.D, .val (.int n), .val (.bl true), .val (pf (ig l a) (pth k n l a)), .val (tI p), .no, s', .val (tI p)]) (by simp [ei, et]) ?_
    have d2 : leads k (rt k n l) a x p = true := by simp [leads, r3, r1, ha]
    have lnp : (pth k n l a).length = n := pth_len k
    have d1 : leads k (rt k n l) a (ig l a) (pth k n l a) = true := by simp [leads, climb_true k n l a hl ha, lnp, ha]
    have ew := e_wrong_other k (n := n) (l := l) (a := a) rok hx hx r2 r2 (by omega) (by omega) d2 (.inr (.inr ⟨rfl, rfl⟩))
    have es := e_law_same k (n := n) (l := l) (a := a) rok oka hx (pth_ok k hl ha ho) r2 (by omega) (by omega) d1 d2 (fun z => hne z.1.symm)
    simp only [pf] at ew
    refine seq_fin (δ' := [.io 0 (.lst st), .val (wD k n l), .val (.int a), .val (.int x), .val k.D, .val (.int n), .val (.bl true), .val (pf (ig l a) (pth k n l a)), .val (tI p), .no, s', .val (tI p)]) (by simp [ew]) ?_
    have hpf : pf x p = .tup [.int x, .tup (p.map D.int)] := rfl
    rw [hpf] at es
    simp [es]
end Pg
set_option Elab.async false
set_option linter.all false
set_option maxRecDepth 100000
set_option maxHeartbeats 2000000
namespace Pg
open PySem PySem.Spec L2 DL
open PyProof.Rows hiding St
variable (k : Ky)
/-! ### a path beside the true one -/
/-- what _law_twin gives: nothing, or such a path -/
def TwinOk (n : Nat) (l : List Int) (a : Nat) (t : List Int) : Prop := t = [] ∨ (t.length = n ∧ (∀ q ∈ t, k.Ok q) ∧ clm k t a (ig l a) = rt k n l ∧ t ≠ pth k n l a)
theorem twin_math {A : Nat} {v q : Int} (hq : k.Ok q) {g : Nat} (hg : Nat.gcd (stepN k A v % k.m).toNat (mN k) = g) (hg1 : g ≠ 1) : stp k A v ((q + (mN k / g : Nat)) % k.m) = stp k A v q ∧ (q + (mN k / g : Nat)) % k.m ≠ q ∧ k.Ok ((q + (mN k / g : Nat)) % k.m) := by
  obtain ⟨h2, h97⟩ := mN2 k
  have hm := mN_m k
  obtain ⟨r0, r1⟩ := modR k (stepN k A v)
  have hs : (((stepN k A v % k.m).toNat : Nat) : Int) = stepN k A v % k.m := Int.toNat_of_nonneg r0
  have hgp : 0 < g := by rw [← hg]; exact Nat.gcd_pos_of_pos_right _ (by omega)
  obtain ⟨c, hc⟩ : g ∣ mN k := by rw [← hg]; exact Nat.gcd_dvd_right _ _
  obtain ⟨d, hd⟩ : g ∣ (stepN k A v % k.m).toNat := by rw [← hg]; exact Nat.gcd_dvd_left _ _
  have hdiv : mN k / g = c := by rw [hc, Nat.mul_div_cancel_left _ hgp]
  rw [hdiv]
  have hg2 : 2 ≤ g := by omega
  have hc0 : 0 < c := by
    rcases Nat.eq_zero_or_pos c with h | h
    · subst h; simp at hc; omega
    · exact h
  have hcm : c < mN k := by
    have : 2 * c ≤ g * c := Nat.mul_le_mul_right _ hg2
    omega
  refine ⟨?_, ?_, modR k _⟩
  · have e1 : stp k A v ((q + (c : Nat)) % k.m) = stp k A v (q + (c : Nat)) := by
      rw [stp_fs, stp_fs]
      have := modmul (first k A v) (q + (c : Nat)) k.m 1
      have h3 := (Int.mul_ediv_add_emod (q + (c : Nat)) k.m).symm
      generalize hr : (q + (c : Nat)) % k.m = r at *
      generalize (q + (c : Nat)) / k.m = e at *
      rw [h3]
      have : first k A v + stepN k A v * (k.m * e + r) = (first k A v + stepN k A v * r) + k.m * (stepN k A v * e) := by grind
      rw [this, Int.add_mul_emod_self_left]
    rw [e1, stp_fs, stp_fs]
    rw [← modmul (first k A v) (stepN k A v), ← modmul (first k A v) (stepN k A v) k.m q, ← hs, hd, ← hm, hc]
    push_cast
    have : first k A v + (g : Int) * d * (q + c) = (first k A v + g * d * q) + (g * c) * d := by grind
    rw [this, Int.add_mul_emod_self_left]
  · intro e
    obtain ⟨q0, q1⟩ := hq
    by_cases hlt : q + (c : Nat) < k.m
    · rw [Int.emod_eq_of_lt (by omega) hlt] at e
      omega
    · have : (q + (c : Nat)) % k.m = q + (c : Nat) - k.m := by
        have h5 : q + (c : Nat) = (q + (c : Nat) - k.m) + k.m * 1 := by omega
        rw [h5, Int.add_mul_emod_self_left]
        have h6 : q + (c : Nat) - k.m + k.m * 1 - k.m = q + (c : Nat) - k.m := by omega
        rw [h6]
        exact Int.emod_eq_of_lt (by omega) (by omega)
      rw [this] at e
      omega
theorem eq_tI0 (t : List Int) : gEq (tI t) (.tup []) = some (.bl t.isEmpty) := by
  rw [eq_nb (by simp [tI, nb, nbL_I]) (by simp [nb, nbL]) (by simp [tI, dep, depL_I])]
  cases t <;> simp [tI, sm, smL]
theorem e_law_twin {n : Nat} {l : List Int} {a : Nat} (hl : l.length = 2 ^ n) (ha : a < 2 ^ n) (hn : n ≤ 4) (ho : ∀ x ∈ l, k.Ok x) : ∃ t, TwinOk k n l a t ∧ fd__law_twin [.v (wD k n l), .v (.int a)] = .ret (tI t) [] := by
  obtain ⟨h2, h97⟩ := mN2 k
  have hm := mN_m k
  have hp := e_law_path k hl ha hn
  have okp := pth_ok k hl ha ho
  have lnp : (pth k n l a).length = n := pth_len k
  have h16 : 2 ^ n ≤ 2 ^ 4 := Nat.pow_le_pow_right (by decide) hn
  have hia := atMap (l := l) (i := a) (by omega)
  have oka := okGet k ho (i := a) (by omega)
  have has : [Ar.v (wD k n l), .v (.int (a : Int))].length = 2 := rfl
  have hsl : slots 11 [Ar.v (wD k n l), .v (.int (a : Int))] = [.val (wD k n l), .val (.int a), .no, .no, .no, .no, .no, .no, .no, .no, .no] := rfl
  have hct := climb_true k n l a hl ha
  generalize hpq : pth k n l a = ps at *
  have e0 := eq_tI0 ps
  cases n with
  | zero =>
    have hp0 : ps = [] := List.eq_nil_of_length_eq_zero lnp
    subst hp0
    refine ⟨[], .inl rfl, ?_⟩
    simp only [fd__law_twin, x_fD, if_pos has, hsl]
    refine seq_fin (δ' := [.val (wD k 0 l), .val (.int a), .val (.int k.m), .val (.int k.a), .val (.int k.b), .val (.int k.c), .no, .no, .no, .no, .no]) (by simp [Ky.D]) ?_
    refine seq_fin (δ' := [.val (wD k 0 l), .val (.int a), .val (.int k.m), .val (.int k.a), .val (.int k.b), .val (.int k.c), .val (tI []), .no, .no, .no, .no]) (by simp [hp]) ?_
    simp [e0]
  | succ n =>
    have hps : ps ≠ [] := by intro z; subst z; simp at lnp
    have he : ps.isEmpty = false := by cases ps; exact absurd rfl hps; rfl
    rw [he] at e0
    have hlen : ((ps.length : Int) - 1) = (n : Int) := by omega
    have hcut : DL.cutD (ps.map D.int) none (some (n : Int)) = (ps.take n).map D.int := by
      have h1 : ¬ ((n : Int) < 0) := by omega
      have h2 : min n ps.length = n := by omega
      simp [DL.cutD, HT.sIx, h1]
    have hgs : gSl (tI ps) none (some (n : Int)) = some (tI (ps.take n)) := by simp only [gSl, tI, hcut]
    have otk : ∀ q ∈ ps.take n, k.Ok q := fun q hq => okp q (List.mem_of_mem_take hq)
    have etop := e_law_top k (t := true) (a := a) otk oka (by simp; omega)
    simp only [sq, if_true] at etop
    have okv := clm_ok k (ps.take n) a oka
    generalize hv : clm k (ps.take n) a (ig l a) = v at *
    have hsp : ps = ps.take n ++ [ig ps n] := by
      have : ps.take (n + 1) = ps.take n ++ [ig ps n] := by
        have hnl : n < ps.length := by omega
        simp [ig, hnl]
      rw [← this, List.take_of_length_le (by omega)]
    have oq := okGet k okp (i := n) (by omega)
    have hti : (ps.take n).length = n := by simp; omega
    have hrt : stp k (a / 2 ^ n) v (ig ps n) = rt k (n + 1) l := by
      rw [← hct]
      conv => rhs; rw [hsp, clm_app, hti, hv]
    have hin := atMap (l := ps) (i := n) (by omega)
    have hsr : okShr (a : Int) (n : Int) = true := by simp [okShr]
    generalize hA : a / 2 ^ n = A at *
    have hsh : (a : Int) / 2 ^ n = ((A : Nat) : Int) := by rw [← hA]; push_cast; rfl
    have h3 : ∀ i, okMod i 2 = true := fun i => okMod_s (by decide)
    have hmd : ∀ i, okMod i k.m = true := fun i => okMod_s (by have := k.m2; omega)
    have hfm : ∀ i : Int, i.fmod k.m = i % k.m := fun i => Int.fmod_eq_emod_of_nonneg _ (by have := k.m2; omega)
    have m3 : okMul k.c v = true := okMul_s okv.1 (by have := okv.2; have := k.m97; omega)
    obtain ⟨r0, r1⟩ := modR k (stepN k A v)
    have ep := e_part (x := (stepN k A v % k.m).toNat) (y := mN k) (by have := k.m97; omega) (by omega)
    rw [Int.toNat_of_nonneg r0, hm] at ep
    have hgl : Nat.gcd (stepN k A v % k.m).toNat (mN k) ≤ mN k := Nat.gcd_le_right _ (by omega)
    have hgp : 0 < Nat.gcd (stepN k A v % k.m).toNat (mN k) := Nat.gcd_pos_of_pos_right _ (by omega)
    have htm := fun h => twin_math k oq (A := A) (v := v) (g := Nat.gcd (stepN k A v % k.m).toNat (mN k)) rfl h
    generalize hG : Nat.gcd (stepN k A v % k.m).toNat (mN k) = g at *
    have hdv : okDiv k.m (g : Int) = true := by simp only [okDiv, Bool.and_eq_true, decide_eq_true_eq]; omega
    have hfd : k.m.fdiv (g : Int) = ((mN k / g : Nat) : Int) := by rw [Int.fdiv_eq_ediv_of_nonneg _ (by omega), ← hm]; rfl
    have hmA := h_mod2 A
    have hmA' : (A : Int).fmod 2 = 1 ↔ A % 2 = 1 := by rw [hmA]; omega
    have hlim : min n ps.length + 1 ≤ lim := lim_of (by omega)
    by_cases hg1 : g = 1
    · refine ⟨[], .inl rfl, ?_⟩
      simp only [fd__law_twin, x_fD, if_pos has, hsl]
      refine seq_fin (δ' := [.val (wD k (n + 1) l), .val (.int a), .val (.int k.m), .val (.int k.a), .val (.int k.b), .val (.int k.c), .no, .no, .no, .no, .no]) (by simp [Ky.D]) ?_
      refine seq_fin (δ' := [.val (wD k (n + 1) l), .val (.int a), .val (.int k.m), .val (.int k.a), .val (.int k.b), .val (.int k.c), .val (tI ps), .no, .no, .no, .no]) (by simp [hp]) ?_
      refine seq_fin (δ' := [.val (wD k (n + 1) l), .val (.int a), .val (.int k.m), .val (.int k.a), .val (.int k.b), .val (.int k.c), .val (tI ps), .no, .no, .no, .no]) (by simp [e0]) ?_
      refine seq_fin (δ' := [.val (wD k (n + 1) l), .val (.int a), .val (.int k.m), .val (.int k.a), .val (.int k.b), .val (.int k.c), .val (tI ps), .val (.int n), .no, .no, .no]) (by simp [hlen]) ?_
      refine seq_fin (δ' := [.val (wD k (n + 1) l), .val (.int a), .val (.int k.m), .val (.int k.a), .val (.int k.b), .val (.int k.c), .val (tI ps), .val (.int n), .val (.int v), .no, .no]) (by simp [hia, hgs, etop, -List.map_take]) ?_
      refine seq_fin (δ' := [.val (wD k (n + 1) l), .val (.int a), .val (.int k.m), .val (.int k.a), .val (.int k.b), .val (.int k.c), .val (tI ps), .val (.int n), .val (.int v), .val (.int (k.b + k.c * v)), .no]) (by simp [m3]) ?_
      refine seq_fin (δ' := [.val (wD k (n + 1) l), .val (.int a), .val (.int k.m), .val (.int k.a), .val (.int k.b), .val (.int k.c), .val (tI ps), .val (.int n), .val (.int v), .val (.int (stepN k A v)), .no]) (by
        rcases Nat.mod_two_eq_zero_or_one A with h | h
        · have h9 : ¬ (A : Int).fmod 2 = 1 := by rw [hmA']; omega
          simp [hsr, hsh, h3, h9, stepN, h]
        · have h9 : (A : Int).fmod 2 = 1 := by rw [hmA']; omega
          simp [hsr, hsh, h3, h9, stepN, h, m3]) ?_
      simp [hmd, hfm, ep, hg1]
    · obtain ⟨z1, z2, z3⟩ := htm hg1
      have hgi : ¬ ((g : Int) = 1) := by omega
      refine ⟨ps.take n ++ [(ig ps n + (mN k / g : Nat)) % k.m], .inr ⟨by simp; omega, ?_, ?_, ?_⟩, ?_⟩
      · intro q hq
        simp at hq
        rcases hq with hq | rfl
        · exact otk q hq
        · exact z3
      · rw [clm_app, hti, hv, hA, z1, hrt]
      · intro z
        have := List.append_cancel_left (z.trans (hpq.trans hsp))
        simp at this
        exact z2 this
      · generalize mN k / g = Q at *
        simp only [fd__law_twin, x_fD, if_pos has, hsl]
        refine seq_fin (δ' := [.val (wD k (n + 1) l), .val (.int a), .val (.int k.m), .val (.int k.a), .val (.int k.b), .val (.int k.c), .no, .no, .no, .no, .no]) (by simp [Ky.D]) ?_
        refine seq_fin (δ' := [.val (wD k (n + 1) l), .val (.int a), .val (.int k.m), .val (.int k.a), .val (.int k.b), .val (.int k.c), .val (tI ps), .no, .no, .no, .no]) (by simp [hp]) ?_
        refine seq_fin (δ' := [.val (wD k (n + 1) l), .val (.int a), .val (.int k.m), .val (.int k.a), .val (.int k.b), .val (.int k.c), .val (tI ps), .no, .no, .no, .no]) (by simp [e0]) ?_
        refine seq_fin (δ' := [.val (wD k (n + 1) l), .val (.int a), .val (.int k.m), .val (.int k.a), .val (.int k.b), .val (.int k.c), .val (tI ps), .val (.int n), .no, .no, .no]) (by simp [hlen]) ?_
        refine seq_fin (δ' := [.val (wD k (n + 1) l), .val (.int a), .val (.int k.m), .val (.int k.a), .val (.int k.b), .val (.int k.c), .val (tI ps), .val (.int n), .val (.int v), .no, .no]) (by simp [hia, hgs, etop, -List.map_take]) ?_
        refine seq_fin (δ' := [.val (wD k (n + 1) l), .val (.int a), .val (.int k.m), .val (.int k.a), .val (.int k.b), .val (.int k.c), .val (tI ps), .val (.int n), .val (.int v), .val (.int (k.b + k.c * v)), .no]) (by simp [m3]) ?_
        refine seq_fin (δ' := [.val (wD k (n + 1) l), .val (.int a), .val (.int k.m), .val (.int k.a), .val (.int k.b), .val (.int k.c), .val (tI ps), .val (.int n), .val (.int v), .val (.int (stepN k A v)), .no]) (by
          rcases Nat.mod_two_eq_zero_or_one A with h | h
          · have h9 : ¬ (A : Int).fmod 2 = 1 := by rw [hmA']; omega
            simp [hsr, hsh, h3, h9, stepN, h]
          · have h9 : (A : Int).fmod 2 = 1 := by rw [hmA']; omega
            simp [hsr, hsh, h3, h9, stepN, h, m3]) ?_
        simp [hmd, hfm, ep, hgi, hgs, hin, hdv, hfd, gAdd, hlim]
end Pg
set_option Elab.async false
set_option linter.all false
set_option maxRecDepth 100000
set_option maxHeartbeats 2000000
namespace Pg
open PySem PySem.Spec L2 DL
open PyProof.Rows hiding St
variable (k : Ky)
theorem ne_lI0 (l : List Int) : gNe (lI l) (.lst []) = some (.bl (!l.isEmpty)) := by
  have h1 := toPyL_nb (l.map D.int) (nbL_I l)
  have h2 := depL_nb (l.map D.int) (nbL_I l)
  have h3 : PyData.eqvAll (pyDL (l.map D.int)) [] = l.isEmpty := by cases l <;> simp [pyDL, PyData.eqvAll]
  simp only [lI, gNe, toPy, h1.1, toPyL, eqOk, PyData.plain, h1.2, PyData.plainAll, PyData.depth, PyData.depthAll, PyData.eqv, h3]
  simp
theorem e_law_path_asked {s : Stt} {n : Nat} {l : List Int} {a : Nat} (hl : l.length = 2 ^ n) (ha : a < 2 ^ n) (hn : n ≤ 4) (ho : ∀ x ∈ l, k.Ok x) : ∃ s' : Stt, fd__law_path_asked [.io (.lst s.L), .v (wD k n l), .v (.int a)] = .ret (.bl true) [.lst s'.L] := by
  have h16 : 2 ^ n ≤ 2 ^ 4 := Nat.pow_le_pow_right (by decide) hn
  have hm2 := k.m2
  have hm97 := k.m97
  have hp := e_law_path k hl ha hn
  have epo := e_path_of k hl ha hn ho
  have okp := pth_ok k hl ha ho
  have lnp : (pth k n l a).length = n := pth_len k
  have hia := atMap (l := l) (i := a) (by omega)
  have oka := okGet k ho (i := a) (by omega)
  have rok := rt_ok k hl ho
  have hct := climb_true k n l a hl ha
  have ev := e_view (a := pth k n l a) (by omega) rfl
  have et := e_truth (a := true) (b := true)
  have etf := e_truth (a := false) (b := false)
  obtain ⟨t, ht, etw⟩ := e_law_twin k hl ha hn ho
  have ei := e_is_path k (a := a) (r := rt k n l) okp oka rok (by omega)
  rw [hct, lnp, decide_eq_true (rfl : rt k n l = rt k n l), decide_eq_true ha, Bool.and_self] at ei
  have dtrue : leads k (rt k n l) a (ig l a) (pth k n l a) = true := by simp [leads, hct, lnp, ha]
  have hsame : t ≠ [] → fd__law_same [.v (wD k n l), .v (.int a), .v (pf (ig l a) (pth k n l a)), .v (pf (ig l a) t)] = .ret (.bl true) [] := by
    intro hne
    obtain ⟨t1, t2, t3, t4⟩ := ht.resolve_left hne
    have d2 : leads k (rt k n l) a (ig l a) t = true := by simp [leads, t3, t1, ha]
    exact e_law_same k rok oka oka okp t2 (by omega) (by omega) dtrue d2 (fun z => t4 z.2.symm)
  have etop0 := fun (ps : List Int) (b : Nat) (h : ∀ q ∈ ps, k.Ok q) (hz : ps.length ≤ 900) => e_law_top k (t := false) (a := b) h oka hz
  simp only [sq, Bool.false_eq_true, if_false] at etop0
  have ew0 := e_wrong_other k (n := n) (l := l) (a := a) rok oka oka okp okp (by omega) (by omega) dtrue (.inr (.inr ⟨rfl, rfl⟩))
  have eroot : ∀ (q : Int), k.Ok q → fd_is_path [.v k.D, .v (.int q), .v (.int a), .v (.int (ig l a)), .v (tI (pth k n l a))] = .ret (.bl (decide (q = rt k n l))) [] := by
    intro q hq
    have := e_is_path k (a := a) (r := q) okp oka hq (by omega)
    rw [hct, lnp, decide_eq_true ha, Bool.and_true] at this
    have hd : decide (rt k n l = q) = decide (q = rt k n l) := decide_eq_decide.mpr ⟨fun z => z.symm, fun z => z.symm⟩
    rw [this, hd]
  have efar := e_is_path k (a := a + 2 ^ n) (r := rt k n l) okp oka rok (by omega)
  rw [lnp, decide_eq_false (show ¬ a + 2 ^ n < 2 ^ n by omega), Bool.and_false] at efar
  have ebent := fun (ps : List Int) (h : ∀ q ∈ ps, k.Ok q) (hz : ps.length = n) (b : Nat) (hb : b < 2 ^ n) => e_is_path k (a := b) (r := rt k n l) h oka rok (by omega)
  have ewo := fun (ps : List Int) (h : ∀ q ∈ ps, k.Ok q) (hz : ps.length = n) (hd : leads k (rt k n l) a (ig l a) ps = false) => e_wrong_one k (n := n) (l := l) (a := a) rok oka oka h okp (by omega) (by omega) hd
  have ewo2 := fun (ps : List Int) (h : ∀ q ∈ ps, k.Ok q) (hz : ps.length = n) (hd : leads k (rt k n l) a (ig l a) ps = false) => e_wrong_other k (n := n) (l := l) (a := a) rok oka oka okp h (by omega) (by omega) dtrue (.inl hd)
  have has : [Ar.io (.lst s.L), .v (wD k n l), .v (.int (a : Int))].length = 3 := rfl
  have hsl : slots 13 [Ar.io (.lst s.L), .v (wD k n l), .v (.int (a : Int))] = [.io 0 (.lst s.L), .val (wD k n l), .val (.int a), .no, .no, .no, .no, .no, .no, .no, .no, .no, .no] := rfl
  generalize hps : pth k n l a = ps at *
  -- the changed path
  obtain ⟨ch, s1, s7, cl, co, ec⟩ : ∃ (ch : List Int) (s1 : Stt) (s7 : Sl), ch.length = n ∧ (∀ q ∈ ch, k.Ok q) ∧ sFrz [6] (sIf (bV (eBin gNe (eVar 6) (eN (nLst (aNil))))) (sSeq (sAsg 7 (eCall fd__law_draw (aCons (eVar 0) (aCons (eCB gLen1 (aCons (eVar 6) (aNil))) (aNil))))) (sSetI 6 (eVar 7) (eCall fd__law_draw (aCons (eVar 0) (aCons (eBin gIx (eVar 3) (eC (.int 0))) (aNil)))))) (sNext)) [.io 0 (.lst s.L), .val (wD k n l), .val (.int a), .val k.D, .val (.int (ig l a)), .val (tI ps), .own (.lst (ps.map D.int)), .no, .no, .no, .no, .no, .no] = .nx [.io 0 (.lst s1.L), .val (wD k n l), .val (.int a), .val k.D, .val (.int (ig l a)), .val (tI ps), .val (lI ch), s7, .no, .no, .no, .no, .no] := by
    have hne := ne_lI0 ps
    simp only [lI] at hne
    by_cases hz : 0 < n
    · have hem : ps.isEmpty = false := by cases ps; simp at lnp; omega; rfl
      rw [hem] at hne
      have e1 := e_draw (s := s) (m := (n : Int)) (by omega) (by omega)
      obtain ⟨r0, r1⟩ := dR_lt (s := s) (m := (n : Int)) (by omega) (by omega)
      have e2 := e_draw (s := dS s n) (m := k.m) (by omega) (by omega)
      obtain ⟨q0, q1⟩ := dR_lt (s := dS s n) (m := k.m) (by omega) (by omega)
      obtain ⟨j, hj⟩ : ∃ j : Nat, dR s n = j := ⟨(dR s n).toNat, by omega⟩
      rw [hj] at e1 r1
      have hjl : j < ps.length := by omega
      have hix : ixN ps.length (j : Int) = some j := by simp [ixN, hjl]
      refine ⟨ps.set j (dR (dS s n) k.m), dS (dS s n) k.m, .val (.int j), by simp [lnp], ?_, ?_⟩
      · intro q hq
        rcases List.mem_or_eq_of_mem_set hq with hq | rfl
        · exact okp q hq
        · exact ⟨q0, q1⟩
      · rw [lnp] at hix
        simp [hne, lnp, e1, e2, hix, List.map_set]
    · have h0 : n = 0 := by omega
      have hem : ps = [] := List.eq_nil_of_length_eq_zero (by omega)
      subst hem
      simp only [List.map_nil, List.isEmpty_nil, Bool.not_true] at hne
      exact ⟨[], s, .no, by simp [h0], by simp, by simp [hne]⟩
  have hp1 : okPow 1 (n : Int) = true := by simp [okPow]; omega
  have hsh : (2 : Int) ^ n = ((2 ^ n : Nat) : Int) := by push_cast; rfl
  have h1 : 0 < 2 ^ n := Nat.pow_pos (by decide)
  have e3 := e_draw (s := s1) (m := ((2 ^ n : Nat) : Int)) (by omega) (by omega)
  obtain ⟨b0, b1⟩ := dR_lt (s := s1) (m := ((2 ^ n : Nat) : Int)) (by omega) (by omega)
  obtain ⟨b, hb⟩ : ∃ b : Nat, dR s1 ((2 ^ n : Nat) : Int) = b := ⟨(dR s1 ((2 ^ n : Nat) : Int)).toNat, by omega⟩
  rw [hb] at e3 b1
  have hbn : b < 2 ^ n := by omega
  generalize dS s1 ((2 ^ n : Nat) : Int) = s2 at e3
  have ebn := ebent ch co cl b hbn
  rw [cl, decide_eq_true hbn, Bool.and_true] at ebn
  have etb := etop0 ch b co (by omega)
  have eta := etop0 ch a co (by omega)
  have edu := e_truth (a := decide (clm k ch b (ig l a) = rt k n l)) (b := decide (clm k ch b (ig l a) = rt k n l))
  have e4 := e_draw (s := s2) (m := k.m) (by omega) (by omega)
  obtain ⟨q0, q1⟩ := dR_lt (s := s2) (m := k.m) (by omega) (by omega)
  generalize dS s2 k.m = s3 at e4
  generalize dR s2 k.m = q at e4 q0 q1
  have erq := eroot q ⟨q0, q1⟩
  have edq := e_truth (a := decide (q = rt k n l)) (b := decide (q = rt k n l))
  have hchd : clm k ch a (ig l a) ≠ rt k n l → leads k (rt k n l) a (ig l a) ch = false := fun h => by simp [leads, h]
  have ewo' := fun h => ewo ch co cl (hchd h)
  have ewo2' := fun h => ewo2 ch co cl (hchd h)
  simp only [pf] at ew0 ewo' ewo2' hsame
  have e00 := eq_tI0 t
  refine ⟨s3, ?_⟩
  simp only [fd__law_path_asked, x_fD, if_pos has, hsl]
  generalize 2 ^ n = N at *
  refine seq_fin (δ' := [.io 0 (.lst s.L), .val (wD k n l), .val (.int a), .val k.D, .no, .no, .no, .no, .no, .no, .no, .no, .no]) (by simp) ?_
  refine seq_fin (δ' := [.io 0 (.lst s.L), .val (wD k n l), .val (.int a), .val k.D, .val (.int (ig l a)), .no, .no, .no, .no, .no, .no, .no, .no]) (by simp [hia]) ?_
  refine seq_fin (δ' := [.io 0 (.lst s.L), .val (wD k n l), .val (.int a), .val k.D, .val (.int (ig l a)), .val (tI ps), .no, .no, .no, .no, .no, .no, .no]) (by simp [hp]) ?_
  refine seq_fin (δ' := [.io 0 (.lst s.L), .val (wD k n l), .val (.int a), .val k.D, .val (.int (ig l a)), .val (tI ps), .no, .no, .no, .no, .no, .no, .no]) (by simp [epo, ev]) ?_
  refine seq_fin (δ' := [.io 0 (.lst s.L), .val (wD k n l), .val (.int a), .val k.D, .val (.int (ig l a)), .val (tI ps), .no, .no, .no, .no, .no, .no, .no]) (by simp [ei, et]) ?_
  refine seq_fin (δ' := [.io 0 (.lst s.L), .val (wD k n l), .val (.int a), .val k.D, .val (.int (ig l a)), .val (tI ps), .own (.lst (ps.map D.int)), .no, .no, .no, .no, .no, .no]) (by simp) ?_
  refine seq_fin ec ?_
  refine seq_fin (δ' := [.io 0 (.lst s2.L), .val (wD k n l), .val (.int a), .val k.D, .val (.int (ig l a)), .val (tI ps), .val (lI ch), s7, .val (.int b), .no, .no, .no, .no]) (by simp [hp1, hsh, e3]) ?_
  refine seq_fin (δ' := [.io 0 (.lst s2.L), .val (wD k n l), .val (.int a), .val k.D, .val (.int (ig l a)), .val (tI ps), .val (lI ch), s7, .val (.int b), .val (.bl (decide (clm k ch b (ig l a) = rt k n l))), .no, .no, .no]) (by simp [etb]) ?_
  refine seq_fin (δ' := [.io 0 (.lst s2.L), .val (wD k n l), .val (.int a), .val k.D, .val (.int (ig l a)), .val (tI ps), .val (lI ch), s7, .val (.int b), .val (.bl (decide (clm k ch b (ig l a) = rt k n l))), .no, .no, .no]) (by simp [ebn, edu]) ?_
  refine seq_fin (δ' := [.io 0 (.lst s3.L), .val (wD k n l), .val (.int a), .val k.D, .val (.int (ig l a)), .val (tI ps), .val (lI ch), s7, .val (.int b), .val (.bl (decide (clm k ch b (ig l a) = rt k n l))), .val (.int q), .no, .no]) (by simp [e4]) ?_
  refine seq_fin (δ' := [.io 0 (.lst s3.L), .val (wD k n l), .val (.int a), .val k.D, .val (.int (ig l a)), .val (tI ps), .val (lI ch), s7, .val (.int b), .val (.bl (decide (clm k ch b (ig l a) = rt k n l))), .val (.int q), .no, .no]) (by simp [erq, edq]) ?_
  push_cast at efar
  refine seq_fin (δ' := [.io 0 (.lst s3.L), .val (wD k n l), .val (.int a), .val k.D, .val (.int (ig l a)), .val (tI ps), .val (lI ch), s7, .val (.int b), .val (.bl (decide (clm k ch b (ig l a) = rt k n l))), .val (.int q), .no, .no]) (by simp [hp1, hsh, efar, etf]) ?_
  refine seq_fin (δ' := [.io 0 (.lst s3.L), .val (wD k n l), .val (.int a), .val k.D, .val (.int (ig l a)), .val (tI ps), .val (lI ch), s7, .val (.int b), .val (.bl (decide (clm k ch b (ig l a) = rt k n l))), .val (.int q), .val (pf (ig l a) ch), .no]) (by simp [pf]) ?_
  refine seq_fin (δ' := [.io 0 (.lst s3.L), .val (wD k n l), .val (.int a), .val k.D, .val (.int (ig l a)), .val (tI ps), .val (lI ch), s7, .val (.int b), .val (.bl (decide (clm k ch b (ig l a) = rt k n l))), .val (.int q), .val (pf (ig l a) ch), .no]) (by
    by_cases hz : clm k ch a (ig l a) = rt k n l
    · simp [eta, hz]
    · have w1 := ewo' hz
      have w2 := ewo2' hz
      simp [eta, hz, pf, w1, w2]) ?_
  refine seq_fin (δ' := [.io 0 (.lst s3.L), .val (wD k n l), .val (.int a), .val k.D, .val (.int (ig l a)), .val (tI ps), .val (lI ch), s7, .val (.int b), .val (.bl (decide (clm k ch b (ig l a) = rt k n l))), .val (.int q), .val (pf (ig l a) ch), .no]) (by simp [ew0]) ?_
  refine seq_fin (δ' := [.io 0 (.lst s3.L), .val (wD k n l), .val (.int a), .val k.D, .val (.int (ig l a)), .val (tI ps), .val (lI ch), s7, .val (.int b), .val (.bl (decide (clm k ch b (ig l a) = rt k n l))), .val (.int q), .val (pf (ig l a) ch), .val (tI t)]) (by simp [etw]) ?_
  by_cases ht0 : t = []
  · subst ht0
    simp [e00]
  · have he : t.isEmpty = false := by cases t; exact absurd rfl ht0; rfl
    rw [he] at e00
    have hs := hsame ht0
    simp [e00, hs]
theorem e_law_asked {s : Stt} {n : Nat} {l : List Int} (hl : l.length = 2 ^ n) (hn : n ≤ 4) (ho : ∀ x ∈ l, k.Ok x) : ∃ s' : Stt, fd__law_asked [.io (.lst s.L), .v (wD k n l)] = .ret (.bl true) [.lst s'.L] := by
  have h16 : 2 ^ n ≤ 2 ^ 4 := Nat.pow_le_pow_right (by decide) hn
  have h1 : 0 < 2 ^ n := Nat.pow_pos (by decide)
  have hm2 := k.m2
  have hm97 := k.m97
  have ero := e_root_of k hl hn ho
  have enu := e_num (a := rt k n l) (b := rt k n l)
  have eco := e_law_collided k
  have hp1 : okPow 1 (n : Int) = true := by simp [okPow]; omega
  have hb : ∀ (s : Stt) (s2 s3 s4 : Sl), ∃ (s' : Stt) (s3' s4' : Sl), B__law_asked_1 [.io 0 (.lst s.L), .val (wD k n l), s2, s3, s4] = .nx [.io 0 (.lst s'.L), .val (wD k n l), s2, s3', s4'] := by
    intro s s2 s3 s4
    have e3 := e_draw (s := s) (m := ((2 ^ n : Nat) : Int)) (by omega) (by omega)
    obtain ⟨b0, b1⟩ := dR_lt (s := s) (m := ((2 ^ n : Nat) : Int)) (by omega) (by omega)
    obtain ⟨a, ha⟩ : ∃ b : Nat, dR s ((2 ^ n : Nat) : Int) = b := ⟨(dR s ((2 ^ n : Nat) : Int)).toNat, by omega⟩
    rw [ha] at e3 b1
    have han : a < 2 ^ n := by omega
    generalize dS s ((2 ^ n : Nat) : Int) = s1 at e3
    have e4 := e_draw (s := s1) (m := k.m - 1) (by omega) (by omega)
    obtain ⟨c0, c1⟩ := dR_lt (s := s1) (m := k.m - 1) (by omega) (by omega)
    generalize dS s1 (k.m - 1) = s2' at e4
    generalize dR s1 (k.m - 1) = c at e4 c0 c1
    have hia := atMap (l := l) (i := a) (by omega)
    obtain ⟨o0, o1⟩ := okGet k ho (i := a) (by omega)
    generalize hv : ig l a = v at *
    have hmd : ∀ i, okMod i k.m = true := fun i => okMod_s (by omega)
    have hfm : ∀ i : Int, i.fmod k.m = i % k.m := fun i => Int.fmod_eq_emod_of_nonneg _ (by omega)
    have hok := modR k (v + 1 + c)
    have hne : (v + 1 + c) % k.m ≠ ig l a := by
      rw [hv]
      intro e
      by_cases hlt : v + 1 + c < k.m
      · rw [Int.emod_eq_of_lt (by omega) hlt] at e
        omega
      · have : (v + 1 + c) % k.m = v + 1 + c - k.m := by
          have h5 : v + 1 + c = (v + 1 + c - k.m) + k.m * 1 := by omega
          rw [h5, Int.add_mul_emod_self_left]
          have h6 : v + 1 + c - k.m + k.m * 1 - k.m = v + 1 + c - k.m := by omega
          rw [h6]
          exact Int.emod_eq_of_lt (by omega) (by omega)
        rw [this] at e
        omega
    generalize hx : (v + 1 + c) % k.m = x at *
    obtain ⟨s3', ep⟩ := e_law_path_asked k (s := s2') hl han hn ho
    have ef := e_law_forged k (st := s3'.L) hl han hn ho hok hne
    have hsh : (2 : Int) ^ n = ((2 ^ n : Nat) : Int) := by push_cast; rfl
    refine ⟨s3', .val (.int (a : Nat)), .val (.int x), ?_⟩
    generalize 2 ^ n = N at *
    simp [B__law_asked_1, hp1, hsh, e3, hia, e4, hmd, hfm, hx, ep, ef]
  obtain ⟨s1, t3, t4, f1⟩ := hb s (.val (.int ((0 : Nat) : Int))) .no .no
  obtain ⟨s2, u3, u4, f2⟩ := hb s1 (.val (.int ((1 : Nat) : Int))) t3 t4
  refine ⟨s2, ?_⟩
  have has : [Ar.io (.lst s.L), .v (wD k n l)].length = 2 := rfl
  have hsl : slots 5 [Ar.io (.lst s.L), .v (wD k n l)] = [.io 0 (.lst s.L), .val (wD k n l), .no, .no, .no] := rfl
  simp only [fd__law_asked, x_fD, if_pos has, hsl]
  refine seq_fin (δ' := [.io 0 (.lst s.L), .val (wD k n l), .no, .no, .no]) (by simp [ero, enu]) ?_
  refine seq_fin (δ' := [.io 0 (.lst s2.L), .val (wD k n l), .val (.int ((1 : Nat) : Int)), u3, u4]) ?_ ?_
  · have hr : rngD 0 1 2 = [.int ((0 : Nat) : Int), .int ((1 : Nat) : Int)] := rfl
    have hs : small62 2 = true := by decide
    have h3 : (2 : Int).toNat = 2 := rfl
    simp only [x_sFor, x_iRng1, x_aCons, x_aNil, x_eC, x_bind_ok, hs, if_true, x_bindS_ok, h3, hr]
    rw [x_forL_nx (by rfl) f1, x_forL_nx (by rfl) f2]
    rfl
  · simp [eco]
theorem law_body (ns : List Int) : fd__law_body [.v (.frl (ns.map D.int))] = .ret (.bl true) [] := by
  have e0 := e_start (ns := ns)
  generalize hs0 : (⟨ns, 0, 0, 0, 7, by decide, by decide⟩ : Stt) = s0 at e0
  obtain ⟨n1, l1, o1, w1⟩ := w_spec s0
  generalize wN s0 = N1 at *
  generalize wL s0 = L1 at *
  generalize wK s0 = K1 at *
  generalize wS s0 = s1 at *
  obtain ⟨n2, l2, o2, w2⟩ := w_spec s1
  generalize wN s1 = N2 at *
  generalize wL s1 = L2 at *
  generalize wK s1 = K2 at *
  generalize wS s1 = s2 at *
  obtain ⟨s3, a1⟩ := e_law_asked K1 (s := s2) l1 n1 o1
  obtain ⟨s4, a2⟩ := e_law_asked K2 (s := s3) l2 n2 o2
  have a3 := e_key s4
  have c1 := e_law_collided (kS s4)
  have c2 := e_law_collided ⟨2, 1, 1, 1, by decide, by decide, by decide, by decide, by decide, by decide, by decide, by decide⟩
  simp only [Ky.D] at c2
  have c3 := e_law_collided K1
  have r1 := e_root_of K1 l1 n1 o1
  have u1 := e_num (a := rt K1 N1 L1) (b := rt K1 N1 L1)
  have hw1 : (DL.D.dct [.inr "key", .inr "high", .inr "rows", .inr "leaves", .inr "root"] [K1.D, .int N1, .lst ((lvs K1 N1 L1).map lI), tI L1, .int (rt K1 N1 L1)]) = wD K1 N1 L1 := rfl
  have hw2 : (DL.D.dct [.inr "key", .inr "high", .inr "rows", .inr "leaves", .inr "root"] [K2.D, .int N2, .lst ((lvs K2 N2 L2).map lI), tI L2, .int (rt K2 N2 L2)]) = wD K2 N2 L2 := rfl
  have has : [Ar.v (.frl (ns.map D.int))].length = 1 := rfl
  have hsl : slots 4 [Ar.v (.frl (ns.map D.int))] = [.val (.frl (ns.map D.int)), .no, .no, .no] := rfl
  simp only [fd__law_body, x_fD, if_pos has, hsl]
  refine seq_fin (δ' := [.val (.frl (ns.map D.int)), .own (.lst s0.L), .no, .no]) (by simp [e0]) ?_
  refine seq_fin (δ' := [.val (.frl (ns.map D.int)), .own (.lst s1.L), .val (wD K1 N1 L1), .no]) (by simp [w1, wD]) ?_
  refine seq_fin (δ' := [.val (.frl (ns.map D.int)), .own (.lst s2.L), .val (wD K1 N1 L1), .val (wD K2 N2 L2)]) (by simp [w2, wD]) ?_
  refine seq_fin (δ' := [.val (.frl (ns.map D.int)), .val (.lst (kT s4).L), .val (wD K1 N1 L1), .val (wD K2 N2 L2)]) (by simp [a1, a2, a3, c1]) ?_
  refine seq_fin (δ' := [.val (.frl (ns.map D.int)), .val (.lst (kT s4).L), .val (wD K1 N1 L1), .val (wD K2 N2 L2)]) (by simp [c2]) ?_
  simp [r1, u1, c3]
theorem law_true (ns : List Int) (h : ns.length ≤ 63) : fd_law [.v (.frl (ns.map D.int))] = .ret (.bl true) [] := by
  have e := law_body ns
  have has : [Ar.v (.frl (ns.map D.int))].length = 1 := rfl
  have hsl : slots 1 [Ar.v (.frl (ns.map D.int))] = [.val (.frl (ns.map D.int))] := rfl
  simp only [fd_law, x_fD, if_pos has, hsl]
  simp [fb_law, e]
end Pg
set_option Elab.async false
set_option linter.all false
set_option maxRecDepth 100000
set_option maxHeartbeats 4000000
namespace Pg
open PySem PySem.Spec L2 DL
open PyProof.Rows hiding St
def ini (i : Nat) : Stmt := match top i with
  | .ClassDef (body := b) .. => b.getD 0 (.Pass ⟨0, 0, 0, 0⟩)
  | s => s
/-- the law: True at every script of at most 63 numbers -/
def spLaw (K : PySem.W.Frag) : Sp := fun vs H Q _ => ∃ (a : Addr) (ns : List Int), vs = [.ref a] ∧ SqL K H a (ns.map V.int) ∧ ns.length ≤ 63 ∧ ∀ v H', v = .bl true → Q v H'
theorem law_imp {K : PySem.W.Frag} {mg : Str → Option Value} (vs : List V) (H : Hp) (Q : VK) (E : XK) (h : spLaw K vs H Q E) : spD K mg fd_law vs H Q E := by
  obtain ⟨a, ns, rfl, hS, hn, q⟩ := h
  refine ⟨fun _ => False, [], [.v (.frl (ns.map D.int))], ⟨?_, trivial⟩, List.nodup_nil, (fun _ hb => nomatch hb), (fun _ hf => hf.elim), ?_⟩
  · simp only [Rep]
    refine ⟨a, ns.map V.int, rfl, ?_, RepL.ints.mpr rfl⟩
    rcases hS with hS | hS
    · exact .inl ⟨hS, fun z => z⟩
    · exact .inr hS
  · rw [law_true ns hn]
    intro v H' _ _ r
    exact q v H' (by simpa only [Rep] using r)
theorem all_mk {P : Program} {w : World} {K : PySem.W.Frag} {h : Heap} {mg : Str → Option Value} {fa : Addr} (X : K.In h) (G : h.Ns mainGlobals mg) (hfa : mg "law" = some (.ref fa))
    {f0 : Addr} {oc0 kV0 dc0 pm0 cd0 ct0 : Value} {od0 an0 : Option Addr} {sl0 : Array (Option Value)}
    {f1 : Addr} {oc1 kV1 dc1 pm1 cd1 ct1 : Value} {od1 an1 : Option Addr} {sl1 : Array (Option Value)}
    {f2 : Addr} {oc2 kV2 dc2 pm2 cd2 ct2 : Value} {od2 an2 : Option Addr} {sl2 : Array (Option Value)}
    {f3 : Addr} {oc3 kV3 dc3 pm3 cd3 ct3 : Value} {od3 an3 : Option Addr} {sl3 : Array (Option Value)}
    {f4 : Addr} {oc4 kV4 dc4 pm4 cd4 ct4 : Value} {od4 an4 : Option Addr} {sl4 : Array (Option Value)}
    {f5 : Addr} {oc5 kV5 dc5 pm5 cd5 ct5 : Value} {od5 an5 : Option Addr} {sl5 : Array (Option Value)}
    {f6 : Addr} {oc6 kV6 dc6 pm6 cd6 ct6 : Value} {od6 an6 : Option Addr} {sl6 : Array (Option Value)}
    {f7 : Addr} {oc7 kV7 dc7 pm7 cd7 ct7 : Value} {od7 an7 : Option Addr} {sl7 : Array (Option Value)}
    {f8 : Addr} {oc8 kV8 dc8 pm8 cd8 ct8 : Value} {od8 an8 : Option Addr} {sl8 : Array (Option Value)}
    {f9 : Addr} {oc9 kV9 dc9 pm9 cd9 ct9 : Value} {od9 an9 : Option Addr} {sl9 : Array (Option Value)}
    {f10 : Addr} {oc10 kV10 dc10 pm10 cd10 ct10 : Value} {od10 an10 : Option Addr} {sl10 : Array (Option Value)}
    {f11 : Addr} {oc11 kV11 dc11 pm11 cd11 ct11 : Value} {od11 an11 : Option Addr} {sl11 : Array (Option Value)}
    {f12 : Addr} {oc12 kV12 dc12 pm12 cd12 ct12 : Value} {od12 an12 : Option Addr} {sl12 : Array (Option Value)}
    {f13 : Addr} {oc13 kV13 dc13 pm13 cd13 ct13 : Value} {od13 an13 : Option Addr} {sl13 : Array (Option Value)}
    {f14 : Addr} {oc14 kV14 dc14 pm14 cd14 ct14 : Value} {od14 an14 : Option Addr} {sl14 : Array (Option Value)}
    {f15 : Addr} {oc15 kV15 dc15 pm15 cd15 ct15 : Value} {od15 an15 : Option Addr} {sl15 : Array (Option Value)}
    {f16 : Addr} {oc16 kV16 dc16 pm16 cd16 ct16 : Value} {od16 an16 : Option Addr} {sl16 : Array (Option Value)}
    {f17 : Addr} {oc17 kV17 dc17 pm17 cd17 ct17 : Value} {od17 an17 : Option Addr} {sl17 : Array (Option Value)}
    {f18 : Addr} {oc18 kV18 dc18 pm18 cd18 ct18 : Value} {od18 an18 : Option Addr} {sl18 : Array (Option Value)}
    {f19 : Addr} {oc19 kV19 dc19 pm19 cd19 ct19 : Value} {od19 an19 : Option Addr} {sl19 : Array (Option Value)}
    {f20 : Addr} {oc20 kV20 dc20 pm20 cd20 ct20 : Value} {od20 an20 : Option Addr} {sl20 : Array (Option Value)}
    {f21 : Addr} {oc21 kV21 dc21 pm21 cd21 ct21 : Value} {od21 an21 : Option Addr} {sl21 : Array (Option Value)}
    {f22 : Addr} {oc22 kV22 dc22 pm22 cd22 ct22 : Value} {od22 an22 : Option Addr} {sl22 : Array (Option Value)}
    {f23 : Addr} {oc23 kV23 dc23 pm23 cd23 ct23 : Value} {od23 an23 : Option Addr} {sl23 : Array (Option Value)}
    {f24 : Addr} {oc24 kV24 dc24 pm24 cd24 ct24 : Value} {od24 an24 : Option Addr} {sl24 : Array (Option Value)}
    {f25 : Addr} {oc25 kV25 dc25 pm25 cd25 ct25 : Value} {od25 an25 : Option Addr} {sl25 : Array (Option Value)}
    {f26 : Addr} {oc26 kV26 dc26 pm26 cd26 ct26 : Value} {od26 an26 : Option Addr} {sl26 : Array (Option Value)}
    {f27 : Addr} {oc27 kV27 dc27 pm27 cd27 ct27 : Value} {od27 an27 : Option Addr} {sl27 : Array (Option Value)}
    {f28 : Addr} {oc28 kV28 dc28 pm28 cd28 ct28 : Value} {od28 an28 : Option Addr} {sl28 : Array (Option Value)}
    {f29 : Addr} {oc29 kV29 dc29 pm29 cd29 ct29 : Value} {od29 an29 : Option Addr} {sl29 : Array (Option Value)}
    {f30 : Addr} {oc30 kV30 dc30 pm30 cd30 ct30 : Value} {od30 an30 : Option Addr} {sl30 : Array (Option Value)}
    {f31 : Addr} {oc31 kV31 dc31 pm31 cd31 ct31 : Value} {od31 an31 : Option Addr} {sl31 : Array (Option Value)}
    {f32 : Addr} {oc32 kV32 dc32 pm32 cd32 ct32 : Value} {od32 an32 : Option Addr} {sl32 : Array (Option Value)}
    {f33 : Addr} {oc33 kV33 dc33 pm33 cd33 ct33 : Value} {od33 an33 : Option Addr} {sl33 : Array (Option Value)}
    {f34 : Addr} {oc34 kV34 dc34 pm34 cd34 ct34 : Value} {od34 an34 : Option Addr} {sl34 : Array (Option Value)}
    {f35 : Addr} {oc35 kV35 dc35 pm35 cd35 ct35 : Value} {od35 an35 : Option Addr} {sl35 : Array (Option Value)}
    {f36 : Addr} {oc36 kV36 dc36 pm36 cd36 ct36 : Value} {od36 an36 : Option Addr} {sl36 : Array (Option Value)}
    {f37 : Addr} {oc37 kV37 dc37 pm37 cd37 ct37 : Value} {od37 an37 : Option Addr} {sl37 : Array (Option Value)}
    {f38 : Addr} {oc38 kV38 dc38 pm38 cd38 ct38 : Value} {od38 an38 : Option Addr} {sl38 : Array (Option Value)}
    {f39 : Addr} {oc39 kV39 dc39 pm39 cd39 ct39 : Value} {od39 an39 : Option Addr} {sl39 : Array (Option Value)}
    {f40 : Addr} {oc40 kV40 dc40 pm40 cd40 ct40 : Value} {od40 an40 : Option Addr} {sl40 : Array (Option Value)}
    {f41 : Addr} {oc41 kV41 dc41 pm41 cd41 ct41 : Value} {od41 an41 : Option Addr} {sl41 : Array (Option Value)}
    {f42 : Addr} {oc42 kV42 dc42 pm42 cd42 ct42 : Value} {od42 an42 : Option Addr} {sl42 : Array (Option Value)}
    {f43 : Addr} {oc43 kV43 dc43 pm43 cd43 ct43 : Value} {od43 an43 : Option Addr} {sl43 : Array (Option Value)}
    {f44 : Addr} {oc44 kV44 dc44 pm44 cd44 ct44 : Value} {od44 an44 : Option Addr} {sl44 : Array (Option Value)}
    {C0 N0 i0 : Addr} {xn0 xq0 : Str} {xb0 xm0 xu0 : List Value} {xs0 : List Str} {xa0 : Bool} {xc0 : Option Bool} {xd0 : Option Addr} {y00 y10 y20 y30 y50 : Option Value}
    {ioc0 ikV0 idc0 ipm0 icd0 ict0 : Value} {iod0 ian0 : Option Addr} {isl0 : Array (Option Value)}
    {C1 N1 i1 : Addr} {xn1 xq1 : Str} {xb1 xm1 xu1 : List Value} {xs1 : List Str} {xa1 : Bool} {xc1 : Option Bool} {xd1 : Option Addr} {y01 y11 y21 y31 y51 : Option Value}
    {ioc1 ikV1 idc1 ipm1 icd1 ict1 : Value} {iod1 ian1 : Option Addr} {isl1 : Array (Option Value)}
    {C2 N2 i2 : Addr} {xn2 xq2 : Str} {xb2 xm2 xu2 : List Value} {xs2 : List Str} {xa2 : Bool} {xc2 : Option Bool} {xd2 : Option Addr} {y02 y12 y22 y32 y52 : Option Value}
    {ioc2 ikV2 idc2 ipm2 icd2 ict2 : Value} {iod2 ian2 : Option Addr} {isl2 : Array (Option Value)}
    {C3 N3 i3 : Addr} {xn3 xq3 : Str} {xb3 xm3 xu3 : List Value} {xs3 : List Str} {xa3 : Bool} {xc3 : Option Bool} {xd3 : Option Addr} {y03 y13 y23 y33 y53 : Option Value}
    {ioc3 ikV3 idc3 ipm3 icd3 ict3 : Value} {iod3 ian3 : Option Addr} {isl3 : Array (Option Value)}
    {C4 : Addr}
    {C5 N5 i5 : Addr} {xn5 xq5 : Str} {xb5 xm5 xu5 : List Value} {xs5 : List Str} {xa5 : Bool} {xc5 : Option Bool} {xd5 : Option Addr} {y05 y15 y25 y35 y55 : Option Value}
    {ioc5 ikV5 idc5 ipm5 icd5 ict5 : Value} {iod5 ian5 : Option Addr} {isl5 : Array (Option Value)}
    {tk_GREATEST_MODULUS : Tok}
    {ka_LEAF_NUMBERS : Addr} {ko_LEAF_NUMBERS : Option Addr} {kn_LEAF_NUMBERS : Nat} {ks_LEAF_NUMBERS : Array (Option Value)} {tk_LEAF_NUMBERS_0 tk_LEAF_NUMBERS_1 tk_LEAF_NUMBERS_2 tk_LEAF_NUMBERS_3 tk_LEAF_NUMBERS_4 : Tok}
    (a0_0 : PySem.W.nsIn K mainGlobals "_law_mark" = some (some (.ref f0)))
    (l0 : K.lookup f0 = some ⟨oc0, od0, .func (PySem.W.fnOf "_law_mark" "_law_mark" (defArgs (top 42)) (defBody (top 42)) (defScope (top 42)) .none kV0 dc0 pm0 an0 cd0 ct0), sl0⟩)
    (c0 : PySem.W.codeIn K cd0 "_law_mark" = true)
    (k0 : PySem.W.keepIn K (.ref f0) = true)
    (a1_0 : PySem.W.nsIn K mainGlobals "_law_collision" = some (some (.ref f1)))
    (l1 : K.lookup f1 = some ⟨oc1, od1, .func (PySem.W.fnOf "_law_collision" "_law_collision" (defArgs (top 47)) (defBody (top 47)) (defScope (top 47)) .none kV1 dc1 pm1 an1 cd1 ct1), sl1⟩)
    (c1 : PySem.W.codeIn K cd1 "_law_collision" = true)
    (k1 : PySem.W.keepIn K (.ref f1) = true)
    (a2_0 : PySem.W.nsIn K mainGlobals "_law_number" = some (some (.ref f2)))
    (l2 : K.lookup f2 = some ⟨oc2, od2, .func (PySem.W.fnOf "_law_number" "_law_number" (defArgs (top 37)) (defBody (top 37)) (defScope (top 37)) .none kV2 dc2 pm2 an2 cd2 ct2), sl2⟩)
    (c2 : PySem.W.codeIn K cd2 "_law_number" = true)
    (k2 : PySem.W.keepIn K (.ref f2) = true)
    (a3_0 : PySem.W.nsIn K mainGlobals "_law_two" = some (some (.ref f3)))
    (l3 : K.lookup f3 = some ⟨oc3, od3, .func (PySem.W.fnOf "_law_two" "_law_two" (defArgs (top 48)) (defBody (top 48)) (defScope (top 48)) .none kV3 dc3 pm3 an3 cd3 ct3), sl3⟩)
    (c3 : PySem.W.codeIn K cd3 "_law_two" = true)
    (k3 : PySem.W.keepIn K (.ref f3) = true)
    (a4_0 : PySem.W.nsIn K mainGlobals "_law_view" = some (some (.ref f4)))
    (l4 : K.lookup f4 = some ⟨oc4, od4, .func (PySem.W.fnOf "_law_view" "_law_view" (defArgs (top 39)) (defBody (top 39)) (defScope (top 39)) .none kV4 dc4 pm4 an4 cd4 ct4), sl4⟩)
    (c4 : PySem.W.codeIn K cd4 "_law_view" = true)
    (k4 : PySem.W.keepIn K (.ref f4) = true)
    (a5_0 : PySem.W.nsIn K mainGlobals "is_below" = some (some (.ref f5)))
    (l5 : K.lookup f5 = some ⟨oc5, od5, .func (PySem.W.fnOf "is_below" "is_below" (defArgs (top 8)) (defBody (top 8)) (defScope (top 8)) .none kV5 dc5 pm5 an5 cd5 ct5), sl5⟩)
    (c5 : PySem.W.codeIn K cd5 "is_below" = true)
    (k5 : PySem.W.keepIn K (.ref f5) = true)
    (a6_0 : PySem.W.nsIn K mainGlobals "is_integer" = some (some (.ref f6)))
    (l6 : K.lookup f6 = some ⟨oc6, od6, .func (PySem.W.fnOf "is_integer" "is_integer" (defArgs (top 10)) (defBody (top 10)) (defScope (top 10)) .none kV6 dc6 pm6 an6 cd6 ct6), sl6⟩)
    (c6 : PySem.W.codeIn K cd6 "is_integer" = true)
    (k6 : PySem.W.keepIn K (.ref f6) = true)
    (a7_0 : PySem.W.nsIn K mainGlobals "is_between" = some (some (.ref f7)))
    (l7 : K.lookup f7 = some ⟨oc7, od7, .func (PySem.W.fnOf "is_between" "is_between" (defArgs (top 11)) (defBody (top 11)) (defScope (top 11)) .none kV7 dc7 pm7 an7 cd7 ct7), sl7⟩)
    (c7 : PySem.W.codeIn K cd7 "is_between" = true)
    (k7 : PySem.W.keepIn K (.ref f7) = true)
    (a8_0 : PySem.W.nsIn K mainGlobals "is_key" = some (some (.ref f8)))
    (l8 : K.lookup f8 = some ⟨oc8, od8, .func (PySem.W.fnOf "is_key" "is_key" (defArgs (top 15)) (defBody (top 15)) (defScope (top 15)) .none kV8 dc8 pm8 an8 cd8 ct8), sl8⟩)
    (c8 : PySem.W.codeIn K cd8 "is_key" = true)
    (k8 : PySem.W.keepIn K (.ref f8) = true)
    (a9_0 : PySem.W.nsIn K mainGlobals "check_numbers" = some (some (.ref f9)))
    (l9 : K.lookup f9 = some ⟨oc9, od9, .func (PySem.W.fnOf "check_numbers" "check_numbers" (defArgs (top 16)) (defBody (top 16)) (defScope (top 16)) .none kV9 dc9 pm9 an9 cd9 ct9), sl9⟩)
    (c9 : PySem.W.codeIn K cd9 "check_numbers" = true)
    (k9 : PySem.W.keepIn K (.ref f9) = true)
    (a10_0 : PySem.W.nsIn K mainGlobals "made_mark" = some (some (.ref f10)))
    (l10 : K.lookup f10 = some ⟨oc10, od10, .func (PySem.W.fnOf "made_mark" "made_mark" (defArgs (top 19)) (defBody (top 19)) (defScope (top 19)) .none kV10 dc10 pm10 an10 cd10 ct10), sl10⟩)
    (c10 : PySem.W.codeIn K cd10 "made_mark" = true)
    (k10 : PySem.W.keepIn K (.ref f10) = true)
    (a11_0 : PySem.W.nsIn K mainGlobals "collision" = some (some (.ref f11)))
    (l11 : K.lookup f11 = some ⟨oc11, od11, .func (PySem.W.fnOf "collision" "collision" (defArgs (top 30)) (defBody (top 30)) (defScope (top 30)) .none kV11 dc11 pm11 an11 cd11 ct11), sl11⟩)
    (c11 : PySem.W.codeIn K cd11 "collision" = true)
    (k11 : PySem.W.keepIn K (.ref f11) = true)
    (a12_0 : PySem.W.nsIn K mainGlobals "mark_of" = some (some (.ref f12)))
    (l12 : K.lookup f12 = some ⟨oc12, od12, .func (PySem.W.fnOf "mark_of" "mark_of" (defArgs (top 20)) (defBody (top 20)) (defScope (top 20)) .none kV12 dc12 pm12 an12 cd12 ct12), sl12⟩)
    (c12 : PySem.W.codeIn K cd12 "mark_of" = true)
    (k12 : PySem.W.keepIn K (.ref f12) = true)
    (a13_0 : PySem.W.nsIn K mainGlobals "_law_collided" = some (some (.ref f13)))
    (l13 : K.lookup f13 = some ⟨oc13, od13, .func (PySem.W.fnOf "_law_collided" "_law_collided" (defArgs (top 49)) (defBody (top 49)) (defScope (top 49)) .none kV13 dc13 pm13 an13 cd13 ct13), sl13⟩)
    (c13 : PySem.W.codeIn K cd13 "_law_collided" = true)
    (k13 : PySem.W.keepIn K (.ref f13) = true)
    (a14_0 : PySem.W.nsIn K mainGlobals "_law_draw" = some (some (.ref f14)))
    (l14 : K.lookup f14 = some ⟨oc14, od14, .func (PySem.W.fnOf "_law_draw" "_law_draw" (defArgs (top 35)) (defBody (top 35)) (defScope (top 35)) .none kV14 dc14 pm14 an14 cd14 ct14), sl14⟩)
    (c14 : PySem.W.codeIn K cd14 "_law_draw" = true)
    (k14 : PySem.W.keepIn K (.ref f14) = true)
    (a15_0 : PySem.W.nsIn K mainGlobals "_law_path" = some (some (.ref f15)))
    (l15 : K.lookup f15 = some ⟨oc15, od15, .func (PySem.W.fnOf "_law_path" "_law_path" (defArgs (top 44)) (defBody (top 44)) (defScope (top 44)) .none kV15 dc15 pm15 an15 cd15 ct15), sl15⟩)
    (c15 : PySem.W.codeIn K cd15 "_law_path" = true)
    (k15 : PySem.W.keepIn K (.ref f15) = true)
    (a16_0 : PySem.W.nsIn K mainGlobals "_law_part" = some (some (.ref f16)))
    (l16 : K.lookup f16 = some ⟨oc16, od16, .func (PySem.W.fnOf "_law_part" "_law_part" (defArgs (top 40)) (defBody (top 40)) (defScope (top 40)) .none kV16 dc16 pm16 an16 cd16 ct16), sl16⟩)
    (c16 : PySem.W.codeIn K cd16 "_law_part" = true)
    (k16 : PySem.W.keepIn K (.ref f16) = true)
    (a17_0 : PySem.W.nsIn K mainGlobals "_law_reached" = some (some (.ref f17)))
    (l17 : K.lookup f17 = some ⟨oc17, od17, .func (PySem.W.fnOf "_law_reached" "_law_reached" (defArgs (top 46)) (defBody (top 46)) (defScope (top 46)) .none kV17 dc17 pm17 an17 cd17 ct17), sl17⟩)
    (c17 : PySem.W.codeIn K cd17 "_law_reached" = true)
    (k17 : PySem.W.keepIn K (.ref f17) = true)
    (a18_0 : PySem.W.nsIn K mainGlobals "check_place" = some (some (.ref f18)))
    (l18 : K.lookup f18 = some ⟨oc18, od18, .func (PySem.W.fnOf "check_place" "check_place" (defArgs (top 26)) (defBody (top 26)) (defScope (top 26)) .none kV18 dc18 pm18 an18 cd18 ct18), sl18⟩)
    (c18 : PySem.W.codeIn K cd18 "check_place" = true)
    (k18 : PySem.W.keepIn K (.ref f18) = true)
    (a19_0 : PySem.W.nsIn K mainGlobals "are_below" = some (some (.ref f19)))
    (l19 : K.lookup f19 = some ⟨oc19, od19, .func (PySem.W.fnOf "are_below" "are_below" (defArgs (top 17)) (defBody (top 17)) (defScope (top 17)) .none kV19 dc19 pm19 an19 cd19 ct19), sl19⟩)
    (c19 : PySem.W.codeIn K cd19 "are_below" = true)
    (k19 : PySem.W.keepIn K (.ref f19) = true)
    (a20_0 : PySem.W.nsIn K mainGlobals "pairs_up" = some (some (.ref f20)))
    (l20 : K.lookup f20 = some ⟨oc20, od20, .func (PySem.W.fnOf "pairs_up" "pairs_up" (defArgs (top 24)) (defBody (top 24)) (defScope (top 24)) .none kV20 dc20 pm20 an20 cd20 ct20), sl20⟩)
    (c20 : PySem.W.codeIn K cd20 "pairs_up" = true)
    (k20 : PySem.W.keepIn K (.ref f20) = true)
    (a21_0 : PySem.W.nsIn K mainGlobals "leads_to" = some (some (.ref f21)))
    (l21 : K.lookup f21 = some ⟨oc21, od21, .func (PySem.W.fnOf "leads_to" "leads_to" (defArgs (top 25)) (defBody (top 25)) (defScope (top 25)) .none kV21 dc21 pm21 an21 cd21 ct21), sl21⟩)
    (c21 : PySem.W.codeIn K cd21 "leads_to" = true)
    (k21 : PySem.W.keepIn K (.ref f21) = true)
    (a22_0 : PySem.W.nsIn K mainGlobals "is_proof" = some (some (.ref f22)))
    (l22 : K.lookup f22 = some ⟨oc22, od22, .func (PySem.W.fnOf "is_proof" "is_proof" (defArgs (top 28)) (defBody (top 28)) (defScope (top 28)) .none kV22 dc22 pm22 an22 cd22 ct22), sl22⟩)
    (c22 : PySem.W.codeIn K cd22 "is_proof" = true)
    (k22 : PySem.W.keepIn K (.ref f22) = true)
    (a23_0 : PySem.W.nsIn K mainGlobals "same_marks" = some (some (.ref f23)))
    (l23 : K.lookup f23 = some ⟨oc23, od23, .func (PySem.W.fnOf "same_marks" "same_marks" (defArgs (top 29)) (defBody (top 29)) (defScope (top 29)) .none kV23 dc23 pm23 an23 cd23 ct23), sl23⟩)
    (c23 : PySem.W.codeIn K cd23 "same_marks" = true)
    (k23 : PySem.W.keepIn K (.ref f23) = true)
    (a24_0 : PySem.W.nsIn K mainGlobals "_law_same" = some (some (.ref f24)))
    (l24 : K.lookup f24 = some ⟨oc24, od24, .func (PySem.W.fnOf "_law_same" "_law_same" (defArgs (top 50)) (defBody (top 50)) (defScope (top 50)) .none kV24 dc24 pm24 an24 cd24 ct24), sl24⟩)
    (c24 : PySem.W.codeIn K cd24 "_law_same" = true)
    (k24 : PySem.W.keepIn K (.ref f24) = true)
    (a25_0 : PySem.W.nsIn K mainGlobals "_law_top" = some (some (.ref f25)))
    (l25 : K.lookup f25 = some ⟨oc25, od25, .func (PySem.W.fnOf "_law_top" "_law_top" (defArgs (top 45)) (defBody (top 45)) (defScope (top 45)) .none kV25 dc25 pm25 an25 cd25 ct25), sl25⟩)
    (c25 : PySem.W.codeIn K cd25 "_law_top" = true)
    (k25 : PySem.W.keepIn K (.ref f25) = true)
    (a26_0 : PySem.W.nsIn K mainGlobals "_law_truth" = some (some (.ref f26)))
    (l26 : K.lookup f26 = some ⟨oc26, od26, .func (PySem.W.fnOf "_law_truth" "_law_truth" (defArgs (top 38)) (defBody (top 38)) (defScope (top 38)) .none kV26 dc26 pm26 an26 cd26 ct26), sl26⟩)
    (c26 : PySem.W.codeIn K cd26 "_law_truth" = true)
    (k26 : PySem.W.keepIn K (.ref f26) = true)
    (a27_0 : PySem.W.nsIn K mainGlobals "_law_wrong" = some (some (.ref f27)))
    (l27 : K.lookup f27 = some ⟨oc27, od27, .func (PySem.W.fnOf "_law_wrong" "_law_wrong" (defArgs (top 51)) (defBody (top 51)) (defScope (top 51)) .none kV27 dc27 pm27 an27 cd27 ct27), sl27⟩)
    (c27 : PySem.W.codeIn K cd27 "_law_wrong" = true)
    (k27 : PySem.W.keepIn K (.ref f27) = true)
    (a28_0 : PySem.W.nsIn K mainGlobals "check_leaves" = some (some (.ref f28)))
    (l28 : K.lookup f28 = some ⟨oc28, od28, .func (PySem.W.fnOf "check_leaves" "check_leaves" (defArgs (top 18)) (defBody (top 18)) (defScope (top 18)) .none kV28 dc28 pm28 an28 cd28 ct28), sl28⟩)
    (c28 : PySem.W.codeIn K cd28 "check_leaves" = true)
    (k28 : PySem.W.keepIn K (.ref f28) = true)
    (a29_0 : PySem.W.nsIn K mainGlobals "reached_next" = some (some (.ref f29)))
    (l29 : K.lookup f29 = some ⟨oc29, od29, .func (PySem.W.fnOf "reached_next" "reached_next" (defArgs (top 32)) (defBody (top 32)) (defScope (top 32)) .none kV29 dc29 pm29 an29 cd29 ct29), sl29⟩)
    (c29 : PySem.W.codeIn K cd29 "reached_next" = true)
    (k29 : PySem.W.keepIn K (.ref f29) = true)
    (a30_0 : PySem.W.nsIn K mainGlobals "rows_up" = some (some (.ref f30)))
    (l30 : K.lookup f30 = some ⟨oc30, od30, .func (PySem.W.fnOf "rows_up" "rows_up" (defArgs (top 21)) (defBody (top 21)) (defScope (top 21)) .none kV30 dc30 pm30 an30 cd30 ct30), sl30⟩)
    (c30 : PySem.W.codeIn K cd30 "rows_up" = true)
    (k30 : PySem.W.keepIn K (.ref f30) = true)
    (a31_0 : PySem.W.nsIn K mainGlobals "forged" = some (some (.ref f31)))
    (l31 : K.lookup f31 = some ⟨oc31, od31, .func (PySem.W.fnOf "forged" "forged" (defArgs (top 31)) (defBody (top 31)) (defScope (top 31)) .none kV31 dc31 pm31 an31 cd31 ct31), sl31⟩)
    (c31 : PySem.W.codeIn K cd31 "forged" = true)
    (k31 : PySem.W.keepIn K (.ref f31) = true)
    (a32_0 : PySem.W.nsIn K mainGlobals "is_path" = some (some (.ref f32)))
    (l32 : K.lookup f32 = some ⟨oc32, od32, .func (PySem.W.fnOf "is_path" "is_path" (defArgs (top 27)) (defBody (top 27)) (defScope (top 27)) .none kV32 dc32 pm32 an32 cd32 ct32), sl32⟩)
    (c32 : PySem.W.codeIn K cd32 "is_path" = true)
    (k32 : PySem.W.keepIn K (.ref f32) = true)
    (a33_0 : PySem.W.nsIn K mainGlobals "_law_forged" = some (some (.ref f33)))
    (l33 : K.lookup f33 = some ⟨oc33, od33, .func (PySem.W.fnOf "_law_forged" "_law_forged" (defArgs (top 52)) (defBody (top 52)) (defScope (top 52)) .none kV33 dc33 pm33 an33 cd33 ct33), sl33⟩)
    (c33 : PySem.W.codeIn K cd33 "_law_forged" = true)
    (k33 : PySem.W.keepIn K (.ref f33) = true)
    (a34_0 : PySem.W.nsIn K mainGlobals "_law_twin" = some (some (.ref f34)))
    (l34 : K.lookup f34 = some ⟨oc34, od34, .func (PySem.W.fnOf "_law_twin" "_law_twin" (defArgs (top 53)) (defBody (top 53)) (defScope (top 53)) .none kV34 dc34 pm34 an34 cd34 ct34), sl34⟩)
    (c34 : PySem.W.codeIn K cd34 "_law_twin" = true)
    (k34 : PySem.W.keepIn K (.ref f34) = true)
    (a35_0 : PySem.W.nsIn K mainGlobals "path_of" = some (some (.ref f35)))
    (l35 : K.lookup f35 = some ⟨oc35, od35, .func (PySem.W.fnOf "path_of" "path_of" (defArgs (top 23)) (defBody (top 23)) (defScope (top 23)) .none kV35 dc35 pm35 an35 cd35 ct35), sl35⟩)
    (c35 : PySem.W.codeIn K cd35 "path_of" = true)
    (k35 : PySem.W.keepIn K (.ref f35) = true)
    (a36_0 : PySem.W.nsIn K mainGlobals "_law_path_asked" = some (some (.ref f36)))
    (l36 : K.lookup f36 = some ⟨oc36, od36, .func (PySem.W.fnOf "_law_path_asked" "_law_path_asked" (defArgs (top 54)) (defBody (top 54)) (defScope (top 54)) .none kV36 dc36 pm36 an36 cd36 ct36), sl36⟩)
    (c36 : PySem.W.codeIn K cd36 "_law_path_asked" = true)
    (k36 : PySem.W.keepIn K (.ref f36) = true)
    (a37_0 : PySem.W.nsIn K mainGlobals "root_of" = some (some (.ref f37)))
    (l37 : K.lookup f37 = some ⟨oc37, od37, .func (PySem.W.fnOf "root_of" "root_of" (defArgs (top 22)) (defBody (top 22)) (defScope (top 22)) .none kV37 dc37 pm37 an37 cd37 ct37), sl37⟩)
    (c37 : PySem.W.codeIn K cd37 "root_of" = true)
    (k37 : PySem.W.keepIn K (.ref f37) = true)
    (a38_0 : PySem.W.nsIn K mainGlobals "_law_asked" = some (some (.ref f38)))
    (l38 : K.lookup f38 = some ⟨oc38, od38, .func (PySem.W.fnOf "_law_asked" "_law_asked" (defArgs (top 55)) (defBody (top 55)) (defScope (top 55)) .none kV38 dc38 pm38 an38 cd38 ct38), sl38⟩)
    (c38 : PySem.W.codeIn K cd38 "_law_asked" = true)
    (k38 : PySem.W.keepIn K (.ref f38) = true)
    (a39_0 : PySem.W.nsIn K mainGlobals "_law_key" = some (some (.ref f39)))
    (l39 : K.lookup f39 = some ⟨oc39, od39, .func (PySem.W.fnOf "_law_key" "_law_key" (defArgs (top 41)) (defBody (top 41)) (defScope (top 41)) .none kV39 dc39 pm39 an39 cd39 ct39), sl39⟩)
    (c39 : PySem.W.codeIn K cd39 "_law_key" = true)
    (k39 : PySem.W.keepIn K (.ref f39) = true)
    (a40_0 : PySem.W.nsIn K mainGlobals "_law_start" = some (some (.ref f40)))
    (l40 : K.lookup f40 = some ⟨oc40, od40, .func (PySem.W.fnOf "_law_start" "_law_start" (defArgs (top 34)) (defBody (top 34)) (defScope (top 34)) .none kV40 dc40 pm40 an40 cd40 ct40), sl40⟩)
    (c40 : PySem.W.codeIn K cd40 "_law_start" = true)
    (k40 : PySem.W.keepIn K (.ref f40) = true)
    (a41_0 : PySem.W.nsIn K mainGlobals "_law_pick" = some (some (.ref f41)))
    (l41 : K.lookup f41 = some ⟨oc41, od41, .func (PySem.W.fnOf "_law_pick" "_law_pick" (defArgs (top 36)) (defBody (top 36)) (defScope (top 36)) .none kV41 dc41 pm41 an41 cd41 ct41), sl41⟩)
    (c41 : PySem.W.codeIn K cd41 "_law_pick" = true)
    (k41 : PySem.W.keepIn K (.ref f41) = true)
    (a42_0 : PySem.W.nsIn K mainGlobals "_law_world" = some (some (.ref f42)))
    (l42 : K.lookup f42 = some ⟨oc42, od42, .func (PySem.W.fnOf "_law_world" "_law_world" (defArgs (top 43)) (defBody (top 43)) (defScope (top 43)) .none kV42 dc42 pm42 an42 cd42 ct42), sl42⟩)
    (c42 : PySem.W.codeIn K cd42 "_law_world" = true)
    (k42 : PySem.W.keepIn K (.ref f42) = true)
    (a43_0 : PySem.W.nsIn K mainGlobals "_law_body" = some (some (.ref f43)))
    (l43 : K.lookup f43 = some ⟨oc43, od43, .func (PySem.W.fnOf "_law_body" "_law_body" (defArgs (top 56)) (defBody (top 56)) (defScope (top 56)) .none kV43 dc43 pm43 an43 cd43 ct43), sl43⟩)
    (c43 : PySem.W.codeIn K cd43 "_law_body" = true)
    (k43 : PySem.W.keepIn K (.ref f43) = true)
    (a44_0 : PySem.W.nsIn K mainGlobals "law" = some (some (.ref f44)))
    (l44 : K.lookup f44 = some ⟨oc44, od44, .func (PySem.W.fnOf "law" "law" (defArgs (top 57)) (defBody (top 57)) (defScope (top 57)) .none kV44 dc44 pm44 an44 cd44 ct44), sl44⟩)
    (c44 : PySem.W.codeIn K cd44 "law" = true)
    (k44 : PySem.W.keepIn K (.ref f44) = true)
    (xg0 : PySem.W.nsIn K mainGlobals "InvalidKey" = some (some (.ref C0)))
    (xl0 : K.lookup C0 = some (excClassObj xn0 xq0 C0 N0 xb0 xm0 true xs0 xu0 xa0 xc0 xd0 y00 y10 y20 y30 y50 "ValueError.__new__"))
    (xv0 : PySem.HandSPX.refsVE xm0 = true)
    (xs0_ : PySem.W.findIn K (.ref C0) "__setattr__" = some (some (.builtin "object.__setattr__")))
    (xe0 : PySem.W.subIn K (.ref C0) (.type "BaseException") = some true)
    (xt0 : PySem.W.typeIn K (.ref C0) = some (.type "type"))
    (xk0 : PySem.W.keepIn K (.ref C0) = true)
    (xi0 : PySem.W.findIn K (.ref C0) "__init__" = some (some (.ref i0)))
    (xj0 : PySem.W.typeIn K (.ref i0) = some (.type "function"))
    (il0 : K.lookup i0 = some ⟨ioc0, iod0, .func (PySem.W.fnOf "__init__" "InvalidKey.__init__" (defArgs (ini 6)) (defBody (ini 6)) (defScope (ini 6)) .none ikV0 idc0 ipm0 ian0 icd0 ict0), isl0⟩)
    (ic0 : PySem.W.codeIn K icd0 "InvalidKey.__init__" = true)
    (ik0 : PySem.W.keepIn K (.ref i0) = true)
    (xf0_0 : PySem.W.findIn K (.ref C0) "value" = some none)
    (xh0 : PySem.W.hasDictIn K C0 = true)
    (xca0 : PySem.W.findIn K (.ref C0) "__class__" = some (some (.builtin "object.__class__")))
    (xcm0 : PySem.W.mroIn K C0 (.type "object") = some true)
    (xga0 : PySem.W.findIn K (.ref C0) "__getattribute__" = some (some (.builtin "BaseException.__getattribute__")))
    (xgg0 : PySem.W.findIn K (.ref C0) "__getattr__" = some none)
    (xg1 : PySem.W.nsIn K mainGlobals "InvalidList" = some (some (.ref C1)))
    (xl1 : K.lookup C1 = some (excClassObj xn1 xq1 C1 N1 xb1 xm1 true xs1 xu1 xa1 xc1 xd1 y01 y11 y21 y31 y51 "ValueError.__new__"))
    (xv1 : PySem.HandSPX.refsVE xm1 = true)
    (xs1_ : PySem.W.findIn K (.ref C1) "__setattr__" = some (some (.builtin "object.__setattr__")))
    (xe1 : PySem.W.subIn K (.ref C1) (.type "BaseException") = some true)
    (xt1 : PySem.W.typeIn K (.ref C1) = some (.type "type"))
    (xk1 : PySem.W.keepIn K (.ref C1) = true)
    (xi1 : PySem.W.findIn K (.ref C1) "__init__" = some (some (.ref i1)))
    (xj1 : PySem.W.typeIn K (.ref i1) = some (.type "function"))
    (il1 : K.lookup i1 = some ⟨ioc1, iod1, .func (PySem.W.fnOf "__init__" "InvalidList.__init__" (defArgs (ini 4)) (defBody (ini 4)) (defScope (ini 4)) .none ikV1 idc1 ipm1 ian1 icd1 ict1), isl1⟩)
    (ic1 : PySem.W.codeIn K icd1 "InvalidList.__init__" = true)
    (ik1 : PySem.W.keepIn K (.ref i1) = true)
    (xf1_0 : PySem.W.findIn K (.ref C1) "value" = some none)
    (xh1 : PySem.W.hasDictIn K C1 = true)
    (xca1 : PySem.W.findIn K (.ref C1) "__class__" = some (some (.builtin "object.__class__")))
    (xcm1 : PySem.W.mroIn K C1 (.type "object") = some true)
    (xga1 : PySem.W.findIn K (.ref C1) "__getattribute__" = some (some (.builtin "BaseException.__getattribute__")))
    (xgg1 : PySem.W.findIn K (.ref C1) "__getattr__" = some none)
    (xg2 : PySem.W.nsIn K mainGlobals "InvalidNumber" = some (some (.ref C2)))
    (xl2 : K.lookup C2 = some (excClassObj xn2 xq2 C2 N2 xb2 xm2 true xs2 xu2 xa2 xc2 xd2 y02 y12 y22 y32 y52 "ValueError.__new__"))
    (xv2 : PySem.HandSPX.refsVE xm2 = true)
    (xs2_ : PySem.W.findIn K (.ref C2) "__setattr__" = some (some (.builtin "object.__setattr__")))
    (xe2 : PySem.W.subIn K (.ref C2) (.type "BaseException") = some true)
    (xt2 : PySem.W.typeIn K (.ref C2) = some (.type "type"))
    (xk2 : PySem.W.keepIn K (.ref C2) = true)
    (xi2 : PySem.W.findIn K (.ref C2) "__init__" = some (some (.ref i2)))
    (xj2 : PySem.W.typeIn K (.ref i2) = some (.type "function"))
    (il2 : K.lookup i2 = some ⟨ioc2, iod2, .func (PySem.W.fnOf "__init__" "InvalidNumber.__init__" (defArgs (ini 2)) (defBody (ini 2)) (defScope (ini 2)) .none ikV2 idc2 ipm2 ian2 icd2 ict2), isl2⟩)
    (ic2 : PySem.W.codeIn K icd2 "InvalidNumber.__init__" = true)
    (ik2 : PySem.W.keepIn K (.ref i2) = true)
    (xf2_0 : PySem.W.findIn K (.ref C2) "value" = some none)
    (xh2 : PySem.W.hasDictIn K C2 = true)
    (xca2 : PySem.W.findIn K (.ref C2) "__class__" = some (some (.builtin "object.__class__")))
    (xcm2 : PySem.W.mroIn K C2 (.type "object") = some true)
    (xga2 : PySem.W.findIn K (.ref C2) "__getattribute__" = some (some (.builtin "BaseException.__getattribute__")))
    (xgg2 : PySem.W.findIn K (.ref C2) "__getattr__" = some none)
    (xg3 : PySem.W.nsIn K mainGlobals "InvalidPaper" = some (some (.ref C3)))
    (xl3 : K.lookup C3 = some (excClassObj xn3 xq3 C3 N3 xb3 xm3 true xs3 xu3 xa3 xc3 xd3 y03 y13 y23 y33 y53 "ValueError.__new__"))
    (xv3 : PySem.HandSPX.refsVE xm3 = true)
    (xs3_ : PySem.W.findIn K (.ref C3) "__setattr__" = some (some (.builtin "object.__setattr__")))
    (xe3 : PySem.W.subIn K (.ref C3) (.type "BaseException") = some true)
    (xt3 : PySem.W.typeIn K (.ref C3) = some (.type "type"))
    (xk3 : PySem.W.keepIn K (.ref C3) = true)
    (xi3 : PySem.W.findIn K (.ref C3) "__init__" = some (some (.ref i3)))
    (xj3 : PySem.W.typeIn K (.ref i3) = some (.type "function"))
    (il3 : K.lookup i3 = some ⟨ioc3, iod3, .func (PySem.W.fnOf "__init__" "InvalidPaper.__init__" (defArgs (ini 3)) (defBody (ini 3)) (defScope (ini 3)) .none ikV3 idc3 ipm3 ian3 icd3 ict3), isl3⟩)
    (ic3 : PySem.W.codeIn K icd3 "InvalidPaper.__init__" = true)
    (ik3 : PySem.W.keepIn K (.ref i3) = true)
    (xf3_0 : PySem.W.findIn K (.ref C3) "part" = some none)
    (xf3_1 : PySem.W.findIn K (.ref C3) "place" = some none)
    (xh3 : PySem.W.hasDictIn K C3 = true)
    (xca3 : PySem.W.findIn K (.ref C3) "__class__" = some (some (.builtin "object.__class__")))
    (xcm3 : PySem.W.mroIn K C3 (.type "object") = some true)
    (xga3 : PySem.W.findIn K (.ref C3) "__getattribute__" = some (some (.builtin "BaseException.__getattribute__")))
    (xgg3 : PySem.W.findIn K (.ref C3) "__getattr__" = some none)
    (xg4 : PySem.W.nsIn K mainGlobals "ReadError" = some (some (.ref C4)))
    (xe4 : PySem.W.subIn K (.ref C4) (.type "BaseException") = some true)
    (xt4 : PySem.W.typeIn K (.ref C4) = some (.type "type"))
    (xh4 : PySem.W.hasDictIn K C4 = true)
    (xg5 : PySem.W.nsIn K mainGlobals "Undefined" = some (some (.ref C5)))
    (xl5 : K.lookup C5 = some (excClassObj xn5 xq5 C5 N5 xb5 xm5 true xs5 xu5 xa5 xc5 xd5 y05 y15 y25 y35 y55 "ValueError.__new__"))
    (xv5 : PySem.HandSPX.refsVE xm5 = true)
    (xs5_ : PySem.W.findIn K (.ref C5) "__setattr__" = some (some (.builtin "object.__setattr__")))
    (xe5 : PySem.W.subIn K (.ref C5) (.type "BaseException") = some true)
    (xt5 : PySem.W.typeIn K (.ref C5) = some (.type "type"))
    (xk5 : PySem.W.keepIn K (.ref C5) = true)
    (xi5 : PySem.W.findIn K (.ref C5) "__init__" = some (some (.ref i5)))
    (xj5 : PySem.W.typeIn K (.ref i5) = some (.type "function"))
    (il5 : K.lookup i5 = some ⟨ioc5, iod5, .func (PySem.W.fnOf "__init__" "Undefined.__init__" (defArgs (ini 5)) (defBody (ini 5)) (defScope (ini 5)) .none ikV5 idc5 ipm5 ian5 icd5 ict5), isl5⟩)
    (ic5 : PySem.W.codeIn K icd5 "Undefined.__init__" = true)
    (ik5 : PySem.W.keepIn K (.ref i5) = true)
    (xf5_0 : PySem.W.findIn K (.ref C5) "what" = some none)
    (xh5 : PySem.W.hasDictIn K C5 = true)
    (xca5 : PySem.W.findIn K (.ref C5) "__class__" = some (some (.builtin "object.__class__")))
    (xcm5 : PySem.W.mroIn K C5 (.type "object") = some true)
    (xga5 : PySem.W.findIn K (.ref C5) "__getattribute__" = some (some (.builtin "BaseException.__getattribute__")))
    (xgg5 : PySem.W.findIn K (.ref C5) "__getattr__" = some none)
    (s_InvalidPaper_InvalidKey : PySem.W.subIn K (.ref C0) (.ref C3) = some false)
    (s_InvalidPaper_InvalidList : PySem.W.subIn K (.ref C1) (.ref C3) = some false)
    (s_InvalidPaper_InvalidNumber : PySem.W.subIn K (.ref C2) (.ref C3) = some false)
    (s_InvalidPaper_InvalidPaper : PySem.W.subIn K (.ref C3) (.ref C3) = some true)
    (s_InvalidPaper_Undefined : PySem.W.subIn K (.ref C5) (.ref C3) = some false)
    (s_ReadError_InvalidKey : PySem.W.subIn K (.ref C0) (.ref C4) = some true)
    (s_ReadError_InvalidList : PySem.W.subIn K (.ref C1) (.ref C4) = some true)
    (s_ReadError_InvalidNumber : PySem.W.subIn K (.ref C2) (.ref C4) = some true)
    (s_ReadError_InvalidPaper : PySem.W.subIn K (.ref C3) (.ref C4) = some true)
    (s_ReadError_Undefined : PySem.W.subIn K (.ref C5) (.ref C4) = some true)
    (s_Undefined_InvalidKey : PySem.W.subIn K (.ref C0) (.ref C5) = some false)
    (s_Undefined_InvalidList : PySem.W.subIn K (.ref C1) (.ref C5) = some false)
    (s_Undefined_InvalidNumber : PySem.W.subIn K (.ref C2) (.ref C5) = some false)
    (s_Undefined_InvalidPaper : PySem.W.subIn K (.ref C3) (.ref C5) = some false)
    (s_Undefined_Undefined : PySem.W.subIn K (.ref C5) (.ref C5) = some true)
    (s_InvalidKey_InvalidKey : PySem.W.subIn K (.ref C0) (.ref C0) = some true)
    (sb_ValueError_InvalidKey : PySem.W.subIn K (.ref C0) (.type "ValueError") = some true)
    (s_InvalidList_InvalidList : PySem.W.subIn K (.ref C1) (.ref C1) = some true)
    (sb_ValueError_InvalidList : PySem.W.subIn K (.ref C1) (.type "ValueError") = some true)
    (s_InvalidNumber_InvalidNumber : PySem.W.subIn K (.ref C2) (.ref C2) = some true)
    (sb_ValueError_InvalidNumber : PySem.W.subIn K (.ref C2) (.type "ValueError") = some true)
    (sb_ValueError_InvalidPaper : PySem.W.subIn K (.ref C3) (.type "ValueError") = some true)
    (sb_ValueError_Undefined : PySem.W.subIn K (.ref C5) (.type "ValueError") = some true)
    (cg_get : PySem.W.specialIn K (.builtin "object.__class__") "__get__" = some (some (.builtin "getset_descriptor.__get__")))
    (cg_tk : PySem.W.takesIn K (.builtin "object.__class__") = some true)
    (z_ValueError : PySem.W.nsIn K mainGlobals "ValueError" = some none)
    (z_abs : PySem.W.nsIn K mainGlobals "abs" = some none)
    (z_all : PySem.W.nsIn K mainGlobals "all" = some none)
    (z_bool : PySem.W.nsIn K mainGlobals "bool" = some none)
    (z_enumerate : PySem.W.nsIn K mainGlobals "enumerate" = some none)
    (z_int : PySem.W.nsIn K mainGlobals "int" = some none)
    (z_isinstance : PySem.W.nsIn K mainGlobals "isinstance" = some none)
    (z_len : PySem.W.nsIn K mainGlobals "len" = some none)
    (z_list : PySem.W.nsIn K mainGlobals "list" = some none)
    (z_max : PySem.W.nsIn K mainGlobals "max" = some none)
    (z_min : PySem.W.nsIn K mainGlobals "min" = some none)
    (z_range : PySem.W.nsIn K mainGlobals "range" = some none)
    (z_reversed : PySem.W.nsIn K mainGlobals "reversed" = some none)
    (z_str : PySem.W.nsIn K mainGlobals "str" = some none)
    (z_tuple : PySem.W.nsIn K mainGlobals "tuple" = some none)
    (z_zip : PySem.W.nsIn K mainGlobals "zip" = some none)
    (q_GREATEST_MODULUS : PySem.W.nsIn K mainGlobals "GREATEST_MODULUS" = some (some (.int 97 tk_GREATEST_MODULUS)))
    (q_LEAF_NUMBERS : PySem.W.nsIn K mainGlobals "LEAF_NUMBERS" = some (some (.ref ka_LEAF_NUMBERS)))
    (ql_LEAF_NUMBERS : K.lookup ka_LEAF_NUMBERS = some ⟨.type "tuple", ko_LEAF_NUMBERS, .seq #[.int 1 tk_LEAF_NUMBERS_0, .int 2 tk_LEAF_NUMBERS_1, .int 4 tk_LEAF_NUMBERS_2, .int 8 tk_LEAF_NUMBERS_3, .int 16 tk_LEAF_NUMBERS_4] kn_LEAF_NUMBERS, ks_LEAF_NUMBERS⟩) :
    ∃ fd : FuncData, (∀ (s : Shared) (v : Value), BindsTo s fd ⟨[v], []⟩ [("script", v)]) ∧ ∀ base : Heap, K.In base → base.Ns mainGlobals mg → FnOk P w K mg base (L2N.CX P w) 10 fa fd ["script"] (spLaw K) := by
  have e := hfa.symm.trans (PySem.W.mg_of X G a44_0)
  cases e
  have F0 := fun_mk (st := top 42) l0 c0 k0
  have b0 := F0.binds (ps := ["key", "x", "y"]) fun _ _ _ _ _ _ us hl => match us, hl with | [_, _, _], _ => rfl
  have F1 := fun_mk (st := top 47) l1 c1 k1
  have b1 := F1.binds (ps := ["key"]) fun _ _ _ _ _ _ us hl => match us, hl with | [_], _ => rfl
  have F2 := fun_mk (st := top 37) l2 c2 k2
  have b2 := F2.binds (ps := ["told", "due"]) fun _ _ _ _ _ _ us hl => match us, hl with | [_, _], _ => rfl
  have F3 := fun_mk (st := top 48) l3 c3 k3
  have b3 := F3.binds (ps := ["told", "key"]) fun _ _ _ _ _ _ us hl => match us, hl with | [_, _], _ => rfl
  have F4 := fun_mk (st := top 39) l4 c4 k4
  have b4 := F4.binds (ps := ["told", "due"]) fun _ _ _ _ _ _ us hl => match us, hl with | [_, _], _ => rfl
  have F5 := fun_mk (st := top 8) l5 c5 k5
  have b5 := F5.binds (ps := ["value", "bound"]) fun _ _ _ _ _ _ us hl => match us, hl with | [_, _], _ => rfl
  have F6 := fun_mk (st := top 10) l6 c6 k6
  have b6 := F6.binds (ps := ["value"]) fun _ _ _ _ _ _ us hl => match us, hl with | [_], _ => rfl
  have F7 := fun_mk (st := top 11) l7 c7 k7
  have b7 := F7.binds (ps := ["value", "low", "high"]) fun _ _ _ _ _ _ us hl => match us, hl with | [_, _, _], _ => rfl
  have F8 := fun_mk (st := top 15) l8 c8 k8
  have b8 := F8.binds (ps := ["value"]) fun _ _ _ _ _ _ us hl => match us, hl with | [_], _ => rfl
  have F9 := fun_mk (st := top 16) l9 c9 k9
  have b9 := F9.binds (ps := ["key", "numbers"]) fun _ _ _ _ _ _ us hl => match us, hl with | [_, _], _ => rfl
  have F10 := fun_mk (st := top 19) l10 c10 k10
  have b10 := F10.binds (ps := ["key", "x", "y"]) fun _ _ _ _ _ _ us hl => match us, hl with | [_, _, _], _ => rfl
  have F11 := fun_mk (st := top 30) l11 c11 k11
  have b11 := F11.binds (ps := ["key"]) fun _ _ _ _ _ _ us hl => match us, hl with | [_], _ => rfl
  have F12 := fun_mk (st := top 20) l12 c12 k12
  have b12 := F12.binds (ps := ["key", "x", "y"]) fun _ _ _ _ _ _ us hl => match us, hl with | [_, _, _], _ => rfl
  have F13 := fun_mk (st := top 49) l13 c13 k13
  have b13 := F13.binds (ps := ["key"]) fun _ _ _ _ _ _ us hl => match us, hl with | [_], _ => rfl
  have F14 := fun_mk (st := top 35) l14 c14 k14
  have b14 := F14.binds (ps := ["state", "limit"]) fun _ _ _ _ _ _ us hl => match us, hl with | [_, _], _ => rfl
  have F15 := fun_mk (st := top 44) l15 c15 k15
  have b15 := F15.binds (ps := ["world", "place"]) fun _ _ _ _ _ _ us hl => match us, hl with | [_, _], _ => rfl
  have F16 := fun_mk (st := top 40) l16 c16 k16
  have b16 := F16.binds (ps := ["one", "other"]) fun _ _ _ _ _ _ us hl => match us, hl with | [_, _], _ => rfl
  have F17 := fun_mk (st := top 46) l17 c17 k17
  have b17 := F17.binds (ps := ["key", "place", "leaf", "high"]) fun _ _ _ _ _ _ us hl => match us, hl with | [_, _, _, _], _ => rfl
  have F18 := fun_mk (st := top 26) l18 c18 k18
  have b18 := F18.binds (ps := ["place"]) fun _ _ _ _ _ _ us hl => match us, hl with | [_], _ => rfl
  have F19 := fun_mk (st := top 17) l19 c19 k19
  have b19 := F19.binds (ps := ["key", "value"]) fun _ _ _ _ _ _ us hl => match us, hl with | [_, _], _ => rfl
  have F20 := fun_mk (st := top 24) l20 c20 k20
  have b20 := F20.binds (ps := ["key", "place", "leaf", "path"]) fun _ _ _ _ _ _ us hl => match us, hl with | [_, _, _, _], _ => rfl
  have F21 := fun_mk (st := top 25) l21 c21 k21
  have b21 := F21.binds (ps := ["key", "root", "place", "leaf", "path"]) fun _ _ _ _ _ _ us hl => match us, hl with | [_, _, _, _, _], _ => rfl
  have F22 := fun_mk (st := top 28) l22 c22 k22
  have b22 := F22.binds (ps := ["key", "root", "place", "value"]) fun _ _ _ _ _ _ us hl => match us, hl with | [_, _, _, _], _ => rfl
  have F23 := fun_mk (st := top 29) l23 c23 k23
  have b23 := F23.binds (ps := ["key", "root", "place", "one", "other"]) fun _ _ _ _ _ _ us hl => match us, hl with | [_, _, _, _, _], _ => rfl
  have F24 := fun_mk (st := top 50) l24 c24 k24
  have b24 := F24.binds (ps := ["world", "place", "one", "other"]) fun _ _ _ _ _ _ us hl => match us, hl with | [_, _, _, _], _ => rfl
  have F25 := fun_mk (st := top 45) l25 c25 k25
  have b25 := F25.binds (ps := ["key", "place", "leaf", "path"]) fun _ _ _ _ _ _ us hl => match us, hl with | [_, _, _, _], _ => rfl
  have F26 := fun_mk (st := top 38) l26 c26 k26
  have b26 := F26.binds (ps := ["told", "due"]) fun _ _ _ _ _ _ us hl => match us, hl with | [_, _], _ => rfl
  have F27 := fun_mk (st := top 51) l27 c27 k27
  have b27 := F27.binds (ps := ["world", "place", "one", "other", "part"]) fun _ _ _ _ _ _ us hl => match us, hl with | [_, _, _, _, _], _ => rfl
  have F28 := fun_mk (st := top 18) l28 c28 k28
  have b28 := F28.binds (ps := ["key", "leaves"]) fun _ _ _ _ _ _ us hl => match us, hl with | [_, _], _ => rfl
  have F29 := fun_mk (st := top 32) l29 c29 k29
  have b29 := F29.binds (ps := ["key", "reached", "bit"]) fun _ _ _ _ _ _ us hl => match us, hl with | [_, _, _], _ => rfl
  have F30 := fun_mk (st := top 21) l30 c30 k30
  have b30 := F30.binds (ps := ["key", "leaves"]) fun _ _ _ _ _ _ us hl => match us, hl with | [_, _], _ => rfl
  have F31 := fun_mk (st := top 31) l31 c31 k31
  have b31 := F31.binds (ps := ["key", "leaves", "place", "leaf"]) fun _ _ _ _ _ _ us hl => match us, hl with | [_, _, _, _], _ => rfl
  have F32 := fun_mk (st := top 27) l32 c32 k32
  have b32 := F32.binds (ps := ["key", "root", "place", "leaf", "path"]) fun _ _ _ _ _ _ us hl => match us, hl with | [_, _, _, _, _], _ => rfl
  have F33 := fun_mk (st := top 52) l33 c33 k33
  have b33 := F33.binds (ps := ["state", "world", "place", "leaf"]) fun _ _ _ _ _ _ us hl => match us, hl with | [_, _, _, _], _ => rfl
  have F34 := fun_mk (st := top 53) l34 c34 k34
  have b34 := F34.binds (ps := ["world", "place"]) fun _ _ _ _ _ _ us hl => match us, hl with | [_, _], _ => rfl
  have F35 := fun_mk (st := top 23) l35 c35 k35
  have b35 := F35.binds (ps := ["key", "leaves", "place"]) fun _ _ _ _ _ _ us hl => match us, hl with | [_, _, _], _ => rfl
  have F36 := fun_mk (st := top 54) l36 c36 k36
  have b36 := F36.binds (ps := ["state", "world", "place"]) fun _ _ _ _ _ _ us hl => match us, hl with | [_, _, _], _ => rfl
  have F37 := fun_mk (st := top 22) l37 c37 k37
  have b37 := F37.binds (ps := ["key", "leaves"]) fun _ _ _ _ _ _ us hl => match us, hl with | [_, _], _ => rfl
  have F38 := fun_mk (st := top 55) l38 c38 k38
  have b38 := F38.binds (ps := ["state", "world"]) fun _ _ _ _ _ _ us hl => match us, hl with | [_, _], _ => rfl
  have F39 := fun_mk (st := top 41) l39 c39 k39
  have b39 := F39.binds (ps := ["state"]) fun _ _ _ _ _ _ us hl => match us, hl with | [_], _ => rfl
  have F40 := fun_mk (st := top 34) l40 c40 k40
  have b40 := F40.binds (ps := ["script"]) fun _ _ _ _ _ _ us hl => match us, hl with | [_], _ => rfl
  have F41 := fun_mk (st := top 36) l41 c41 k41
  have b41 := F41.binds (ps := ["state", "row"]) fun _ _ _ _ _ _ us hl => match us, hl with | [_, _], _ => rfl
  have F42 := fun_mk (st := top 43) l42 c42 k42
  have b42 := F42.binds (ps := ["state"]) fun _ _ _ _ _ _ us hl => match us, hl with | [_], _ => rfl
  have F43 := fun_mk (st := top 56) l43 c43 k43
  have b43 := F43.binds (ps := ["script"]) fun _ _ _ _ _ _ us hl => match us, hl with | [_], _ => rfl
  have F44 := fun_mk (st := top 57) l44 c44 k44
  have b44 := F44.binds (ps := ["script"]) fun _ _ _ _ _ _ us hl => match us, hl with | [_], _ => rfl
  have IF0 := fun_mk (st := ini 6) il0 ic0 ik0
  have ib0 := IF0.binds (ps := ["self", "value"]) fun _ _ _ _ _ _ us hl => match us, hl with | [_, _], _ => rfl
  have ox0 : OexC K C0 := ⟨⟨_, _, _, _, _, _, _, _, _, _, _, _, _, _, _, xl0, xv0⟩, xs0_, xe0, xt0, xk0⟩
  have mx0 := PySem.W.mg_of X G xg0
  have IF1 := fun_mk (st := ini 4) il1 ic1 ik1
  have ib1 := IF1.binds (ps := ["self", "value"]) fun _ _ _ _ _ _ us hl => match us, hl with | [_, _], _ => rfl
  have ox1 : OexC K C1 := ⟨⟨_, _, _, _, _, _, _, _, _, _, _, _, _, _, _, xl1, xv1⟩, xs1_, xe1, xt1, xk1⟩
  have mx1 := PySem.W.mg_of X G xg1
  have IF2 := fun_mk (st := ini 2) il2 ic2 ik2
  have ib2 := IF2.binds (ps := ["self", "value"]) fun _ _ _ _ _ _ us hl => match us, hl with | [_, _], _ => rfl
  have ox2 : OexC K C2 := ⟨⟨_, _, _, _, _, _, _, _, _, _, _, _, _, _, _, xl2, xv2⟩, xs2_, xe2, xt2, xk2⟩
  have mx2 := PySem.W.mg_of X G xg2
  have IF3 := fun_mk (st := ini 3) il3 ic3 ik3
  have ib3 := IF3.binds (ps := ["self", "part", "place"]) fun _ _ _ _ _ _ us hl => match us, hl with | [_, _, _], _ => rfl
  have ox3 : OexC K C3 := ⟨⟨_, _, _, _, _, _, _, _, _, _, _, _, _, _, _, xl3, xv3⟩, xs3_, xe3, xt3, xk3⟩
  have mx3 := PySem.W.mg_of X G xg3
  have mx4 := PySem.W.mg_of X G xg4
  have IF5 := fun_mk (st := ini 5) il5 ic5 ik5
  have ib5 := IF5.binds (ps := ["self", "what"]) fun _ _ _ _ _ _ us hl => match us, hl with | [_, _], _ => rfl
  have ox5 : OexC K C5 := ⟨⟨_, _, _, _, _, _, _, _, _, _, _, _, _, _, _, xl5, xv5⟩, xs5_, xe5, xt5, xk5⟩
  have mx5 := PySem.W.mg_of X G xg5
  refine ⟨PySem.W.fnOf "law" "law" (defArgs (top 57)) (defBody (top 57)) (defScope (top 57)) .none kV44 dc44 pm44 an44 cd44 ct44, fun s v => .of_eq rfl, fun base _ _ => ?_⟩
  have hf_InvalidPaper : ∃ c : Value, HF K mg "InvalidPaper" c tl_InvalidPaper := by
    refine ⟨.ref C3, mx3, fun p hp C hC => ?_⟩
    simp only [tl_InvalidPaper, List.mem_cons, List.not_mem_nil, or_false] at hp
    rcases hp with rfl | rfl | rfl | rfl | rfl
    · rw [mx0] at hC; cases hC; exact exm_own xe3 xh3 xt3 s_InvalidPaper_InvalidKey
    · rw [mx1] at hC; cases hC; exact exm_own xe3 xh3 xt3 s_InvalidPaper_InvalidList
    · rw [mx2] at hC; cases hC; exact exm_own xe3 xh3 xt3 s_InvalidPaper_InvalidNumber
    · rw [mx3] at hC; cases hC; exact exm_own xe3 xh3 xt3 s_InvalidPaper_InvalidPaper
    · rw [mx5] at hC; cases hC; exact exm_own xe3 xh3 xt3 s_InvalidPaper_Undefined
  have hf_ReadError : ∃ c : Value, HF K mg "ReadError" c tl_ReadError := by
    refine ⟨.ref C4, mx4, fun p hp C hC => ?_⟩
    simp only [tl_ReadError, List.mem_cons, List.not_mem_nil, or_false] at hp
    rcases hp with rfl | rfl | rfl | rfl | rfl
    · rw [mx0] at hC; cases hC; exact exm_own xe4 xh4 xt4 s_ReadError_InvalidKey
    · rw [mx1] at hC; cases hC; exact exm_own xe4 xh4 xt4 s_ReadError_InvalidList
    · rw [mx2] at hC; cases hC; exact exm_own xe4 xh4 xt4 s_ReadError_InvalidNumber
    · rw [mx3] at hC; cases hC; exact exm_own xe4 xh4 xt4 s_ReadError_InvalidPaper
    · rw [mx5] at hC; cases hC; exact exm_own xe4 xh4 xt4 s_ReadError_Undefined
  have hf_Undefined : ∃ c : Value, HF K mg "Undefined" c tl_Undefined := by
    refine ⟨.ref C5, mx5, fun p hp C hC => ?_⟩
    simp only [tl_Undefined, List.mem_cons, List.not_mem_nil, or_false] at hp
    rcases hp with rfl | rfl | rfl | rfl | rfl
    · rw [mx0] at hC; cases hC; exact exm_own xe5 xh5 xt5 s_Undefined_InvalidKey
    · rw [mx1] at hC; cases hC; exact exm_own xe5 xh5 xt5 s_Undefined_InvalidList
    · rw [mx2] at hC; cases hC; exact exm_own xe5 xh5 xt5 s_Undefined_InvalidNumber
    · rw [mx3] at hC; cases hC; exact exm_own xe5 xh5 xt5 s_Undefined_InvalidPaper
    · rw [mx5] at hC; cases hC; exact exm_own xe5 xh5 xt5 s_Undefined_Undefined
  have hi_InvalidPaper : IsT K mg (.ref C3) ts_InvalidPaper := by
    intro p hp C hC
    simp only [ts_InvalidPaper, List.mem_cons, List.not_mem_nil, or_false] at hp
    rcases hp with rfl | rfl | rfl | rfl | rfl
    · rw [mx0] at hC; cases hC; exact kit_own s_InvalidKey_InvalidKey xh3 xt3 s_InvalidPaper_InvalidKey
    · rw [mx1] at hC; cases hC; exact kit_own s_InvalidList_InvalidList xh3 xt3 s_InvalidPaper_InvalidList
    · rw [mx2] at hC; cases hC; exact kit_own s_InvalidNumber_InvalidNumber xh3 xt3 s_InvalidPaper_InvalidNumber
    · rw [mx3] at hC; cases hC; exact kit_own s_InvalidPaper_InvalidPaper xh3 xt3 s_InvalidPaper_InvalidPaper
    · rw [mx5] at hC; cases hC; exact kit_own s_Undefined_Undefined xh3 xt3 s_InvalidPaper_Undefined
  have hi_Undefined : IsT K mg (.ref C5) ts_Undefined := by
    intro p hp C hC
    simp only [ts_Undefined, List.mem_cons, List.not_mem_nil, or_false] at hp
    rcases hp with rfl | rfl | rfl | rfl | rfl
    · rw [mx0] at hC; cases hC; exact kit_own s_InvalidKey_InvalidKey xh5 xt5 s_Undefined_InvalidKey
    · rw [mx1] at hC; cases hC; exact kit_own s_InvalidList_InvalidList xh5 xt5 s_Undefined_InvalidList
    · rw [mx2] at hC; cases hC; exact kit_own s_InvalidNumber_InvalidNumber xh5 xt5 s_Undefined_InvalidNumber
    · rw [mx3] at hC; cases hC; exact kit_own s_InvalidPaper_InvalidPaper xh5 xt5 s_Undefined_InvalidPaper
    · rw [mx5] at hC; cases hC; exact kit_own s_Undefined_Undefined xh5 xt5 s_Undefined_Undefined
  have hi_ValueError : IsT K mg (.type "ValueError") ts_ValueError := by
    intro p hp C hC
    simp only [ts_ValueError, List.mem_cons, List.not_mem_nil, or_false] at hp
    rcases hp with rfl | rfl | rfl | rfl | rfl
    · rw [mx0] at hC; cases hC; exact kit_bi (by decide +kernel) sb_ValueError_InvalidKey
    · rw [mx1] at hC; cases hC; exact kit_bi (by decide +kernel) sb_ValueError_InvalidList
    · rw [mx2] at hC; cases hC; exact kit_bi (by decide +kernel) sb_ValueError_InvalidNumber
    · rw [mx3] at hC; cases hC; exact kit_bi (by decide +kernel) sb_ValueError_InvalidPaper
    · rw [mx5] at hC; cases hC; exact kit_bi (by decide +kernel) sb_ValueError_Undefined
  have he_InvalidPaper : ∀ k C, mg k = some (.ref C) → tst tl_InvalidPaper k = some true → ExcC K C := by
    intro k C hk ht
    have hm := tst_mem ht
    simp only [tl_InvalidPaper, List.mem_cons, List.not_mem_nil, or_false, Prod.mk.injEq, and_true, Bool.true_eq_false, and_false, false_or, or_false] at hm
    subst hm
    · rw [mx3] at hk; cases hk; exact ⟨xga3, xgg3, xe3, xh3, xca3, cg_get, cg_tk, xcm3⟩
  have he_Undefined : ∀ k C, mg k = some (.ref C) → tst tl_Undefined k = some true → ExcC K C := by
    intro k C hk ht
    have hm := tst_mem ht
    simp only [tl_Undefined, List.mem_cons, List.not_mem_nil, or_false, Prod.mk.injEq, and_true, Bool.true_eq_false, and_false, false_or, or_false] at hm
    subst hm
    · rw [mx5] at hk; cases hk; exact ⟨xga5, xgg5, xe5, xh5, xca5, cg_get, cg_tk, xcm5⟩
  have tf_hd__law_wrong_0 : ∀ k C, mg k = some (.ref C) → tst tl_InvalidPaper k = some true → ∀ f ∈ (["part", "place"] : List Str), XfC K C ∧ PySem.W.findIn K (.ref C) f = some none := by
    intro k C hk ht f hf
    have hm := tst_mem ht
    simp only [tl_InvalidPaper, List.mem_cons, List.not_mem_nil, or_false, Prod.mk.injEq, and_true, Bool.true_eq_false, and_false, false_or, or_false] at hm
    subst hm
    · rw [mx3] at hk
      cases hk
      simp only [List.mem_cons, List.not_mem_nil, or_false] at hf
      rcases hf with rfl | rfl
      · exact ⟨⟨xga3, xgg3, xe3, xh3⟩, xf3_0⟩
      · exact ⟨⟨xga3, xgg3, xe3, xh3⟩, xf3_1⟩
  have tf_hd__law_forged_0 : ∀ k C, mg k = some (.ref C) → tst tl_Undefined k = some true → ∀ f ∈ (["what"] : List Str), XfC K C ∧ PySem.W.findIn K (.ref C) f = some none := by
    intro k C hk ht f hf
    have hm := tst_mem ht
    simp only [tl_Undefined, List.mem_cons, List.not_mem_nil, or_false, Prod.mk.injEq, and_true, Bool.true_eq_false, and_false, false_or, or_false] at hm
    subst hm
    · rw [mx5] at hk
      cases hk
      simp only [List.mem_cons, List.not_mem_nil, or_false] at hf
      rcases hf with rfl
      · exact ⟨⟨xga5, xgg5, xe5, xh5⟩, xf5_0⟩
  have T : Tx P w K mg base := {
    m_ValueError := PySem.W.mg_none_of X G z_ValueError
    m_abs := PySem.W.mg_none_of X G z_abs
    m_all := PySem.W.mg_none_of X G z_all
    m_bool := PySem.W.mg_none_of X G z_bool
    m_enumerate := PySem.W.mg_none_of X G z_enumerate
    m_int := PySem.W.mg_none_of X G z_int
    m_isinstance := PySem.W.mg_none_of X G z_isinstance
    m_len := PySem.W.mg_none_of X G z_len
    m_list := PySem.W.mg_none_of X G z_list
    m_max := PySem.W.mg_none_of X G z_max
    m_min := PySem.W.mg_none_of X G z_min
    m_range := PySem.W.mg_none_of X G z_range
    m_reversed := PySem.W.mg_none_of X G z_reversed
    m_str := PySem.W.mg_none_of X G z_str
    m_tuple := PySem.W.mg_none_of X G z_tuple
    m_zip := PySem.W.mg_none_of X G z_zip
    c_GREATEST_MODULUS := ⟨.int 97, _, PySem.W.mg_of X G q_GREATEST_MODULUS, ⟨_, rfl⟩, fun _ _ => Rep.int⟩
    c_LEAF_NUMBERS := ⟨.ref ka_LEAF_NUMBERS, _, PySem.W.mg_of X G q_LEAF_NUMBERS, rfl, fun A H => (by simp only [K_LEAF_NUMBERS, Rep]; exact ⟨ka_LEAF_NUMBERS, ([1, 2, 4, 8, 16] : List Int).map V.int, rfl, .inr ⟨_, _, _, ql_LEAF_NUMBERS, rfl, rfl, small_arr (by simp), (.cons ⟨_, rfl⟩ (.cons ⟨_, rfl⟩ (.cons ⟨_, rfl⟩ (.cons ⟨_, rfl⟩ (.cons ⟨_, rfl⟩ Paired.nil)))))⟩, RepL.ints (ns := [1, 2, 4, 8, 16]) |>.mpr rfl⟩)⟩
    x_InvalidKey := ⟨C0, i0, _, mx0, ox0, xi0, xj0, ib0, ok_init1 IF0 ⟨rfl, rfl, rfl, by decide +kernel, rfl, by decide +kernel, by decide +kernel⟩ rfl ox0 xf0_0 rfl rfl (by decide) (by decide) (by decide) (by decide)⟩
    x_InvalidList := ⟨C1, i1, _, mx1, ox1, xi1, xj1, ib1, ok_init1 IF1 ⟨rfl, rfl, rfl, by decide +kernel, rfl, by decide +kernel, by decide +kernel⟩ rfl ox1 xf1_0 rfl rfl (by decide) (by decide) (by decide) (by decide)⟩
    x_InvalidNumber := ⟨C2, i2, _, mx2, ox2, xi2, xj2, ib2, ok_init1 IF2 ⟨rfl, rfl, rfl, by decide +kernel, rfl, by decide +kernel, by decide +kernel⟩ rfl ox2 xf2_0 rfl rfl (by decide) (by decide) (by decide) (by decide)⟩
    x_InvalidPaper := ⟨C3, i3, _, mx3, ox3, xi3, xj3, ib3, ok_init2 IF3 ⟨rfl, rfl, rfl, by decide +kernel, rfl, by decide +kernel, by decide +kernel⟩ rfl ox3 xf3_0 xf3_1 rfl rfl rfl (by decide) (by decide) (by decide) (by decide) (by decide) (by decide)⟩
    x_Undefined := ⟨C5, i5, _, mx5, ox5, xi5, xj5, ib5, ok_init1 IF5 ⟨rfl, rfl, rfl, by decide +kernel, rfl, by decide +kernel, by decide +kernel⟩ rfl ox5 xf5_0 rfl rfl (by decide) (by decide) (by decide) (by decide)⟩
    h_InvalidPaper := hf_InvalidPaper
    h_ReadError := hf_ReadError
    h_Undefined := hf_Undefined
    i_InvalidPaper := ⟨_, mx3, hi_InvalidPaper⟩
    i_Undefined := ⟨_, mx5, hi_Undefined⟩
    i_ValueError := hi_ValueError
    e_InvalidPaper := he_InvalidPaper
    e_Undefined := he_Undefined
    t_hd__law_wrong_0 := tf_hd__law_wrong_0
    t_hd__law_forged_0 := tf_hd__law_forged_0
  }
  have G0 := ok__law_mark T  F0
  have n__law_mark : FnK P w K mg base "_law_mark" ["key", "x", "y"] 1 fd__law_mark := ⟨_, _, PySem.W.mg_of X G a0_0, k0, b0, G0⟩
  have G1 := ok__law_collision T n__law_mark F1
  have n__law_collision : FnK P w K mg base "_law_collision" ["key"] 2 fd__law_collision := ⟨_, _, PySem.W.mg_of X G a1_0, k1, b1, G1⟩
  have G2 := ok__law_number T  F2
  have GH2 := okH__law_number T  F2
  have n__law_number : FnK P w K mg base "_law_number" ["told", "due"] 1 fd__law_number := ⟨_, _, PySem.W.mg_of X G a2_0, k2, b2, G2⟩
  have nh__law_number : FnKH P w K mg base "_law_number" ["told", "due"] 1 fd__law_number := ⟨_, _, PySem.W.mg_of X G a2_0, k2, b2, GH2⟩
  have G3 := ok__law_two T n__law_mark F3
  have n__law_two : FnK P w K mg base "_law_two" ["told", "key"] 2 fd__law_two := ⟨_, _, PySem.W.mg_of X G a3_0, k3, b3, G3⟩
  have G4 := ok__law_view T n__law_number F4
  have n__law_view : FnK P w K mg base "_law_view" ["told", "due"] 2 fd__law_view := ⟨_, _, PySem.W.mg_of X G a4_0, k4, b4, G4⟩
  have G5 := ok_is_below T  F5
  have n_is_below : FnK P w K mg base "is_below" ["value", "bound"] 1 fd_is_below := ⟨_, _, PySem.W.mg_of X G a5_0, k5, b5, G5⟩
  have G6 := ok_is_integer T  F6
  have n_is_integer : FnK P w K mg base "is_integer" ["value"] 1 fd_is_integer := ⟨_, _, PySem.W.mg_of X G a6_0, k6, b6, G6⟩
  have G7 := ok_is_between T n_is_integer F7
  have n_is_between : FnK P w K mg base "is_between" ["value", "low", "high"] 2 fd_is_between := ⟨_, _, PySem.W.mg_of X G a7_0, k7, b7, G7⟩
  have G8 := ok_is_key T n_is_below n_is_between F8
  have n_is_key : FnK P w K mg base "is_key" ["value"] 3 fd_is_key := ⟨_, _, PySem.W.mg_of X G a8_0, k8, b8, G8⟩
  have G9 := ok_check_numbers T n_is_below n_is_key F9
  have n_check_numbers : FnK P w K mg base "check_numbers" ["key", "numbers"] 4 fd_check_numbers := ⟨_, _, PySem.W.mg_of X G a9_0, k9, b9, G9⟩
  have G10 := ok_made_mark T  F10
  have n_made_mark : FnK P w K mg base "made_mark" ["key", "x", "y"] 1 fd_made_mark := ⟨_, _, PySem.W.mg_of X G a10_0, k10, b10, G10⟩
  have G11 := ok_collision T n_check_numbers n_made_mark F11
  have bk11 := kwb_of (ps := ["key"]) F11 fun _ _ _ _ _ _ us hl => match us, hl with | [_], _ => rfl
  have n_collision : FnK P w K mg base "collision" ["key"] 5 fd_collision := ⟨_, _, PySem.W.mg_of X G a11_0, k11, b11, G11⟩
  have nk_collision : FnKw P w K mg base "collision" ["key"] 5 fd_collision := ⟨_, _, PySem.W.mg_of X G a11_0, k11, bk11, G11⟩
  have G12 := ok_mark_of T n_check_numbers n_made_mark F12
  have bk12 := kwb_of (ps := ["key", "x", "y"]) F12 fun _ _ _ _ _ _ us hl => match us, hl with | [_, _, _], _ => rfl
  have n_mark_of : FnK P w K mg base "mark_of" ["key", "x", "y"] 5 fd_mark_of := ⟨_, _, PySem.W.mg_of X G a12_0, k12, b12, G12⟩
  have nk_mark_of : FnKw P w K mg base "mark_of" ["key", "x", "y"] 5 fd_mark_of := ⟨_, _, PySem.W.mg_of X G a12_0, k12, bk12, G12⟩
  have G13 := ok__law_collided T n__law_collision n__law_mark n__law_number n__law_two n__law_view n_mark_of nk_collision nk_mark_of F13
  have n__law_collided : FnK P w K mg base "_law_collided" ["key"] 6 fd__law_collided := ⟨_, _, PySem.W.mg_of X G a13_0, k13, b13, G13⟩
  have G14 := ok__law_draw T  F14
  have n__law_draw : FnK P w K mg base "_law_draw" ["state", "limit"] 1 fd__law_draw := ⟨_, _, PySem.W.mg_of X G a14_0, k14, b14, G14⟩
  have G15 := ok__law_path T  F15
  have n__law_path : FnK P w K mg base "_law_path" ["world", "place"] 1 fd__law_path := ⟨_, _, PySem.W.mg_of X G a15_0, k15, b15, G15⟩
  have G16 := ok__law_part T  F16
  have n__law_part : FnK P w K mg base "_law_part" ["one", "other"] 1 fd__law_part := ⟨_, _, PySem.W.mg_of X G a16_0, k16, b16, G16⟩
  have G17 := ok__law_reached T n__law_part F17
  have n__law_reached : FnK P w K mg base "_law_reached" ["key", "place", "leaf", "high"] 2 fd__law_reached := ⟨_, _, PySem.W.mg_of X G a17_0, k17, b17, G17⟩
  have G18 := ok_check_place T n_is_integer F18
  have n_check_place : FnK P w K mg base "check_place" ["place"] 3 fd_check_place := ⟨_, _, PySem.W.mg_of X G a18_0, k18, b18, G18⟩
  have G19 := ok_are_below T n_is_below F19
  have n_are_below : FnK P w K mg base "are_below" ["key", "value"] 2 fd_are_below := ⟨_, _, PySem.W.mg_of X G a19_0, k19, b19, G19⟩
  have G20 := ok_pairs_up T n_made_mark F20
  have n_pairs_up : FnK P w K mg base "pairs_up" ["key", "place", "leaf", "path"] 2 fd_pairs_up := ⟨_, _, PySem.W.mg_of X G a20_0, k20, b20, G20⟩
  have G21 := ok_leads_to T n_made_mark n_pairs_up F21
  have n_leads_to : FnK P w K mg base "leads_to" ["key", "root", "place", "leaf", "path"] 3 fd_leads_to := ⟨_, _, PySem.W.mg_of X G a21_0, k21, b21, G21⟩
  have G22 := ok_is_proof T n_are_below n_is_below n_leads_to F22
  have n_is_proof : FnK P w K mg base "is_proof" ["key", "root", "place", "value"] 4 fd_is_proof := ⟨_, _, PySem.W.mg_of X G a22_0, k22, b22, G22⟩
  have G23 := ok_same_marks T n_check_numbers n_check_place n_is_proof n_pairs_up F23
  have bk23 := kwb_of (ps := ["key", "root", "place", "one", "other"]) F23 fun _ _ _ _ _ _ us hl => match us, hl with | [_, _, _, _, _], _ => rfl
  have n_same_marks : FnK P w K mg base "same_marks" ["key", "root", "place", "one", "other"] 5 fd_same_marks := ⟨_, _, PySem.W.mg_of X G a23_0, k23, b23, G23⟩
  have nk_same_marks : FnKw P w K mg base "same_marks" ["key", "root", "place", "one", "other"] 5 fd_same_marks := ⟨_, _, PySem.W.mg_of X G a23_0, k23, bk23, G23⟩
  have G24 := ok__law_same T n__law_two n_same_marks nk_same_marks F24
  have n__law_same : FnK P w K mg base "_law_same" ["world", "place", "one", "other"] 6 fd__law_same := ⟨_, _, PySem.W.mg_of X G a24_0, k24, b24, G24⟩
  have G25 := ok__law_top T n__law_mark F25
  have n__law_top : FnK P w K mg base "_law_top" ["key", "place", "leaf", "path"] 2 fd__law_top := ⟨_, _, PySem.W.mg_of X G a25_0, k25, b25, G25⟩
  have G26 := ok__law_truth T  F26
  have n__law_truth : FnK P w K mg base "_law_truth" ["told", "due"] 1 fd__law_truth := ⟨_, _, PySem.W.mg_of X G a26_0, k26, b26, G26⟩
  have G27 := ok__law_wrong T n_same_marks nh__law_number F27
  have n__law_wrong : FnK P w K mg base "_law_wrong" ["world", "place", "one", "other", "part"] 6 fd__law_wrong := ⟨_, _, PySem.W.mg_of X G a27_0, k27, b27, G27⟩
  have G28 := ok_check_leaves T n_are_below n_check_numbers F28
  have n_check_leaves : FnK P w K mg base "check_leaves" ["key", "leaves"] 5 fd_check_leaves := ⟨_, _, PySem.W.mg_of X G a28_0, k28, b28, G28⟩
  have G29 := ok_reached_next T n_made_mark F29
  have n_reached_next : FnK P w K mg base "reached_next" ["key", "reached", "bit"] 2 fd_reached_next := ⟨_, _, PySem.W.mg_of X G a29_0, k29, b29, G29⟩
  have G30 := ok_rows_up T n_made_mark F30
  have n_rows_up : FnK P w K mg base "rows_up" ["key", "leaves"] 2 fd_rows_up := ⟨_, _, PySem.W.mg_of X G a30_0, k30, b30, G30⟩
  have G31 := ok_forged T n_check_leaves n_is_below n_reached_next n_rows_up F31
  have bk31 := kwb_of (ps := ["key", "leaves", "place", "leaf"]) F31 fun _ _ _ _ _ _ us hl => match us, hl with | [_, _, _, _], _ => rfl
  have n_forged : FnK P w K mg base "forged" ["key", "leaves", "place", "leaf"] 6 fd_forged := ⟨_, _, PySem.W.mg_of X G a31_0, k31, b31, G31⟩
  have nk_forged : FnKw P w K mg base "forged" ["key", "leaves", "place", "leaf"] 6 fd_forged := ⟨_, _, PySem.W.mg_of X G a31_0, k31, bk31, G31⟩
  have G32 := ok_is_path T n_are_below n_check_numbers n_check_place n_leads_to F32
  have bk32 := kwb_of (ps := ["key", "root", "place", "leaf", "path"]) F32 fun _ _ _ _ _ _ us hl => match us, hl with | [_, _, _, _, _], _ => rfl
  have n_is_path : FnK P w K mg base "is_path" ["key", "root", "place", "leaf", "path"] 5 fd_is_path := ⟨_, _, PySem.W.mg_of X G a32_0, k32, b32, G32⟩
  have nk_is_path : FnKw P w K mg base "is_path" ["key", "root", "place", "leaf", "path"] 5 fd_is_path := ⟨_, _, PySem.W.mg_of X G a32_0, k32, bk32, G32⟩
  have G33 := ok__law_forged T n__law_path n__law_reached n__law_same n__law_top n__law_truth n__law_wrong n_is_path nk_forged F33
  have n__law_forged : FnK P w K mg base "_law_forged" ["state", "world", "place", "leaf"] 7 fd__law_forged := ⟨_, _, PySem.W.mg_of X G a33_0, k33, b33, G33⟩
  have G34 := ok__law_twin T n__law_part n__law_path n__law_top F34
  have n__law_twin : FnK P w K mg base "_law_twin" ["world", "place"] 3 fd__law_twin := ⟨_, _, PySem.W.mg_of X G a34_0, k34, b34, G34⟩
  have G35 := ok_path_of T n_check_leaves n_is_below n_rows_up F35
  have bk35 := kwb_of (ps := ["key", "leaves", "place"]) F35 fun _ _ _ _ _ _ us hl => match us, hl with | [_, _, _], _ => rfl
  have n_path_of : FnK P w K mg base "path_of" ["key", "leaves", "place"] 6 fd_path_of := ⟨_, _, PySem.W.mg_of X G a35_0, k35, b35, G35⟩
  have nk_path_of : FnKw P w K mg base "path_of" ["key", "leaves", "place"] 6 fd_path_of := ⟨_, _, PySem.W.mg_of X G a35_0, k35, bk35, G35⟩
  have G36 := ok__law_path_asked T n__law_draw n__law_path n__law_same n__law_top n__law_truth n__law_twin n__law_view n__law_wrong n_is_path nk_is_path nk_path_of F36
  have n__law_path_asked : FnK P w K mg base "_law_path_asked" ["state", "world", "place"] 7 fd__law_path_asked := ⟨_, _, PySem.W.mg_of X G a36_0, k36, b36, G36⟩
  have G37 := ok_root_of T n_check_leaves n_rows_up F37
  have bk37 := kwb_of (ps := ["key", "leaves"]) F37 fun _ _ _ _ _ _ us hl => match us, hl with | [_, _], _ => rfl
  have n_root_of : FnK P w K mg base "root_of" ["key", "leaves"] 6 fd_root_of := ⟨_, _, PySem.W.mg_of X G a37_0, k37, b37, G37⟩
  have nk_root_of : FnKw P w K mg base "root_of" ["key", "leaves"] 6 fd_root_of := ⟨_, _, PySem.W.mg_of X G a37_0, k37, bk37, G37⟩
  have G38 := ok__law_asked T n__law_collided n__law_draw n__law_forged n__law_number n__law_path_asked nk_root_of F38
  have n__law_asked : FnK P w K mg base "_law_asked" ["state", "world"] 8 fd__law_asked := ⟨_, _, PySem.W.mg_of X G a38_0, k38, b38, G38⟩
  have G39 := ok__law_key T n__law_draw F39
  have n__law_key : FnK P w K mg base "_law_key" ["state"] 2 fd__law_key := ⟨_, _, PySem.W.mg_of X G a39_0, k39, b39, G39⟩
  have G40 := ok__law_start T  F40
  have n__law_start : FnK P w K mg base "_law_start" ["script"] 1 fd__law_start := ⟨_, _, PySem.W.mg_of X G a40_0, k40, b40, G40⟩
  have G41 := ok__law_pick T n__law_draw F41
  have n__law_pick : FnK P w K mg base "_law_pick" ["state", "row"] 2 fd__law_pick := ⟨_, _, PySem.W.mg_of X G a41_0, k41, b41, G41⟩
  have G42 := ok__law_world T n__law_draw n__law_key n__law_mark n__law_pick F42
  have n__law_world : FnK P w K mg base "_law_world" ["state"] 3 fd__law_world := ⟨_, _, PySem.W.mg_of X G a42_0, k42, b42, G42⟩
  have G43 := ok__law_body T n__law_asked n__law_collided n__law_key n__law_number n__law_start n__law_world n_root_of F43
  have n__law_body : FnK P w K mg base "_law_body" ["script"] 9 fd__law_body := ⟨_, _, PySem.W.mg_of X G a43_0, k43, b43, G43⟩
  have G44 := ok_law T n__law_body F44
  exact G44.imp law_imp
end Pg
open PySem PySem.W PyProof.Rows
set_option maxRecDepth 100000 in
set_option maxHeartbeats 0 in
theorem PySem.Challenge.cw_coinreaders_k80_whole_paths_forged_holds : PySem.Challenge.rw_coinreaders_k80_whole_paths_forged.Holds := by
  w_on; o_law; k_head; (case hw => w_witness2)
  k_fill
  refine L2.walk_of (l := PySem.Challenge.rw_coinreaders_k80_whole_paths_forged) (n := 63) (k := 10) (x := "script") (CX := fun w => L2N.CX PySem.Challenge.rw_coinreaders_k80_whole_paths_forged.prog w) (sp := fun w => Pg.spLaw _) rfl (by decide) rfl ⟨rfl, by decide, by decide⟩ (fun w h Y => PySem.W.kIn_of Y) ?F (fun w H a ns hl _ hS => ⟨a, ns, rfl, hS, hl, fun v H e => e⟩) (fun w H s e s1 z => by obtain ⟨_, _, _, _, _, _, _, _, _, _, _, _, z⟩ := z; exact z.elim)
  case F =>
    intro w mg fa h KX G hmg
    refine' Pg.all_mk KX G hmg ?a0_0 ?l0 ?c0 ?k0 ?a1_0 ?l1 ?c1 ?k1 ?a2_0 ?l2 ?c2 ?k2 ?a3_0 ?l3 ?c3 ?k3 ?a4_0 ?l4 ?c4 ?k4 ?a5_0 ?l5 ?c5 ?k5 ?a6_0 ?l6 ?c6 ?k6 ?a7_0 ?l7 ?c7 ?k7 ?a8_0 ?l8 ?c8 ?k8 ?a9_0 ?l9 ?c9 ?k9 ?a10_0 ?l10 ?c10 ?k10 ?a11_0 ?l11 ?c11 ?k11 ?a12_0 ?l12 ?c12 ?k12 ?a13_0 ?l13 ?c13 ?k13 ?a14_0 ?l14 ?c14 ?k14 ?a15_0 ?l15 ?c15 ?k15 ?a16_0 ?l16 ?c16 ?k16 ?a17_0 ?l17 ?c17 ?k17 ?a18_0 ?l18 ?c18 ?k18 ?a19_0 ?l19 ?c19 ?k19 ?a20_0 ?l20 ?c20 ?k20 ?a21_0 ?l21 ?c21 ?k21 ?a22_0 ?l22 ?c22 ?k22 ?a23_0 ?l23 ?c23 ?k23 ?a24_0 ?l24 ?c24 ?k24 ?a25_0 ?l25 ?c25 ?k25 ?a26_0 ?l26 ?c26 ?k26 ?a27_0 ?l27 ?c27 ?k27 ?a28_0 ?l28 ?c28 ?k28 ?a29_0 ?l29 ?c29 ?k29 ?a30_0 ?l30 ?c30 ?k30 ?a31_0 ?l31 ?c31 ?k31 ?a32_0 ?l32 ?c32 ?k32 ?a33_0 ?l33 ?c33 ?k33 ?a34_0 ?l34 ?c34 ?k34 ?a35_0 ?l35 ?c35 ?k35 ?a36_0 ?l36 ?c36 ?k36 ?a37_0 ?l37 ?c37 ?k37 ?a38_0 ?l38 ?c38 ?k38 ?a39_0 ?l39 ?c39 ?k39 ?a40_0 ?l40 ?c40 ?k40 ?a41_0 ?l41 ?c41 ?k41 ?a42_0 ?l42 ?c42 ?k42 ?a43_0 ?l43 ?c43 ?k43 ?a44_0 ?l44 ?c44 ?k44 ?xg0 ?xl0 ?xv0 ?xs0_ ?xe0 ?xt0 ?xk0 ?xi0 ?xj0 ?il0 ?ic0 ?ik0 ?xf0_0 ?xh0 ?xca0 ?xcm0 ?xga0 ?xgg0 ?xg1 ?xl1 ?xv1 ?xs1_ ?xe1 ?xt1 ?xk1 ?xi1 ?xj1 ?il1 ?ic1 ?ik1 ?xf1_0 ?xh1 ?xca1 ?xcm1 ?xga1 ?xgg1 ?xg2 ?xl2 ?xv2 ?xs2_ ?xe2 ?xt2 ?xk2 ?xi2 ?xj2 ?il2 ?ic2 ?ik2 ?xf2_0 ?xh2 ?xca2 ?xcm2 ?xga2 ?xgg2 ?xg3 ?xl3 ?xv3 ?xs3_ ?xe3 ?xt3 ?xk3 ?xi3 ?xj3 ?il3 ?ic3 ?ik3 ?xf3_0 ?xf3_1 ?xh3 ?xca3 ?xcm3 ?xga3 ?xgg3 ?xg4 ?xe4 ?xt4 ?xh4 ?xg5 ?xl5 ?xv5 ?xs5_ ?xe5 ?xt5 ?xk5 ?xi5 ?xj5 ?il5 ?ic5 ?ik5 ?xf5_0 ?xh5 ?xca5 ?xcm5 ?xga5 ?xgg5 ?s_InvalidPaper_InvalidKey ?s_InvalidPaper_InvalidList ?s_InvalidPaper_InvalidNumber ?s_InvalidPaper_InvalidPaper ?s_InvalidPaper_Undefined ?s_ReadError_InvalidKey ?s_ReadError_InvalidList ?s_ReadError_InvalidNumber ?s_ReadError_InvalidPaper ?s_ReadError_Undefined ?s_Undefined_InvalidKey ?s_Undefined_InvalidList ?s_Undefined_InvalidNumber ?s_Undefined_InvalidPaper ?s_Undefined_Undefined ?s_InvalidKey_InvalidKey ?sb_ValueError_InvalidKey ?s_InvalidList_InvalidList ?sb_ValueError_InvalidList ?s_InvalidNumber_InvalidNumber ?sb_ValueError_InvalidNumber ?sb_ValueError_InvalidPaper ?sb_ValueError_Undefined ?cg_get ?cg_tk ?z_ValueError ?z_abs ?z_all ?z_bool ?z_enumerate ?z_int ?z_isinstance ?z_len ?z_list ?z_max ?z_min ?z_range ?z_reversed ?z_str ?z_tuple ?z_zip ?q_GREATEST_MODULUS ?q_LEAF_NUMBERS ?ql_LEAF_NUMBERS
    (case a0_0 => k_is)
    (case l0 => k_is)
    (case c0 => k_is)
    (case k0 => k_is)
    (case a1_0 => k_is)
    (case l1 => k_is)
    (case c1 => k_is)
    (case k1 => k_is)
    (case a2_0 => k_is)
    (case l2 => k_is)
    (case c2 => k_is)
    (case k2 => k_is)
    (case a3_0 => k_is)
    (case l3 => k_is)
    (case c3 => k_is)
    (case k3 => k_is)
    (case a4_0 => k_is)
    (case l4 => k_is)
    (case c4 => k_is)
    (case k4 => k_is)
    (case a5_0 => k_is)
    (case l5 => k_is)
    (case c5 => k_is)
    (case k5 => k_is)
    (case a6_0 => k_is)
    (case l6 => k_is)
    (case c6 => k_is)
    (case k6 => k_is)
    (case a7_0 => k_is)
    (case l7 => k_is)
    (case c7 => k_is)
    (case k7 => k_is)
    (case a8_0 => k_is)
    (case l8 => k_is)
    (case c8 => k_is)
    (case k8 => k_is)
    (case a9_0 => k_is)
    (case l9 => k_is)
    (case c9 => k_is)
    (case k9 => k_is)
    (case a10_0 => k_is)
    (case l10 => k_is)
    (case c10 => k_is)
    (case k10 => k_is)
    (case a11_0 => k_is)
    (case l11 => k_is)
    (case c11 => k_is)
    (case k11 => k_is)
    (case a12_0 => k_is)
    (case l12 => k_is)
    (case c12 => k_is)
    (case k12 => k_is)
    (case a13_0 => k_is)
    (case l13 => k_is)
    (case c13 => k_is)
    (case k13 => k_is)
    (case a14_0 => k_is)
    (case l14 => k_is)
    (case c14 => k_is)
    (case k14 => k_is)
    (case a15_0 => k_is)
    (case l15 => k_is)
    (case c15 => k_is)
    (case k15 => k_is)
    (case a16_0 => k_is)
    (case l16 => k_is)
    (case c16 => k_is)
    (case k16 => k_is)
    (case a17_0 => k_is)
    (case l17 => k_is)
    (case c17 => k_is)
    (case k17 => k_is)
    (case a18_0 => k_is)
    (case l18 => k_is)
    (case c18 => k_is)
    (case k18 => k_is)
    (case a19_0 => k_is)
    (case l19 => k_is)
    (case c19 => k_is)
    (case k19 => k_is)
    (case a20_0 => k_is)
    (case l20 => k_is)
    (case c20 => k_is)
    (case k20 => k_is)
    (case a21_0 => k_is)
    (case l21 => k_is)
    (case c21 => k_is)
    (case k21 => k_is)
    (case a22_0 => k_is)
    (case l22 => k_is)
    (case c22 => k_is)
    (case k22 => k_is)
    (case a23_0 => k_is)
    (case l23 => k_is)
    (case c23 => k_is)
    (case k23 => k_is)
    (case a24_0 => k_is)
    (case l24 => k_is)
    (case c24 => k_is)
    (case k24 => k_is)
    (case a25_0 => k_is)
    (case l25 => k_is)
    (case c25 => k_is)
    (case k25 => k_is)
    (case a26_0 => k_is)
    (case l26 => k_is)
    (case c26 => k_is)
    (case k26 => k_is)
    (case a27_0 => k_is)
    (case l27 => k_is)
    (case c27 => k_is)
    (case k27 => k_is)
    (case a28_0 => k_is)
    (case l28 => k_is)
    (case c28 => k_is)
    (case k28 => k_is)
    (case a29_0 => k_is)
    (case l29 => k_is)
    (case c29 => k_is)
    (case k29 => k_is)
    (case a30_0 => k_is)
    (case l30 => k_is)
    (case c30 => k_is)
    (case k30 => k_is)
    (case a31_0 => k_is)
    (case l31 => k_is)
    (case c31 => k_is)
    (case k31 => k_is)
    (case a32_0 => k_is)
    (case l32 => k_is)
    (case c32 => k_is)
    (case k32 => k_is)
    (case a33_0 => k_is)
    (case l33 => k_is)
    (case c33 => k_is)
    (case k33 => k_is)
    (case a34_0 => k_is)
    (case l34 => k_is)
    (case c34 => k_is)
    (case k34 => k_is)
    (case a35_0 => k_is)
    (case l35 => k_is)
    (case c35 => k_is)
    (case k35 => k_is)
    (case a36_0 => k_is)
    (case l36 => k_is)
    (case c36 => k_is)
    (case k36 => k_is)
    (case a37_0 => k_is)
    (case l37 => k_is)
    (case c37 => k_is)
    (case k37 => k_is)
    (case a38_0 => k_is)
    (case l38 => k_is)
    (case c38 => k_is)
    (case k38 => k_is)
    (case a39_0 => k_is)
    (case l39 => k_is)
    (case c39 => k_is)
    (case k39 => k_is)
    (case a40_0 => k_is)
    (case l40 => k_is)
    (case c40 => k_is)
    (case k40 => k_is)
    (case a41_0 => k_is)
    (case l41 => k_is)
    (case c41 => k_is)
    (case k41 => k_is)
    (case a42_0 => k_is)
    (case l42 => k_is)
    (case c42 => k_is)
    (case k42 => k_is)
    (case a43_0 => k_is)
    (case l43 => k_is)
    (case c43 => k_is)
    (case k43 => k_is)
    (case a44_0 => k_is)
    (case l44 => k_is)
    (case c44 => k_is)
    (case k44 => k_is)
    (case xg0 => k_is)
    (case xl0 => k_is)
    (case xv0 => first | rfl | decide +kernel)
    (case xs0_ => k_is)
    (case xe0 => k_is)
    (case xt0 => k_is)
    (case xk0 => k_is)
    (case xi0 => k_is)
    (case xj0 => k_is)
    (case il0 => k_is)
    (case ic0 => k_is)
    (case ik0 => k_is)
    (case xf0_0 => k_is)
    (case xh0 => k_is)
    (case xca0 => k_is)
    (case xcm0 => k_is)
    (case xga0 => k_is)
    (case xgg0 => k_is)
    (case xg1 => k_is)
    (case xl1 => k_is)
    (case xv1 => first | rfl | decide +kernel)
    (case xs1_ => k_is)
    (case xe1 => k_is)
    (case xt1 => k_is)
    (case xk1 => k_is)
    (case xi1 => k_is)
    (case xj1 => k_is)
    (case il1 => k_is)
    (case ic1 => k_is)
    (case ik1 => k_is)
    (case xf1_0 => k_is)
    (case xh1 => k_is)
    (case xca1 => k_is)
    (case xcm1 => k_is)
    (case xga1 => k_is)
    (case xgg1 => k_is)
    (case xg2 => k_is)
    (case xl2 => k_is)
    (case xv2 => first | rfl | decide +kernel)
    (case xs2_ => k_is)
    (case xe2 => k_is)
    (case xt2 => k_is)
    (case xk2 => k_is)
    (case xi2 => k_is)
    (case xj2 => k_is)
    (case il2 => k_is)
    (case ic2 => k_is)
    (case ik2 => k_is)
    (case xf2_0 => k_is)
    (case xh2 => k_is)
    (case xca2 => k_is)
    (case xcm2 => k_is)
    (case xga2 => k_is)
    (case xgg2 => k_is)
    (case xg3 => k_is)
    (case xl3 => k_is)
    (case xv3 => first | rfl | decide +kernel)
    (case xs3_ => k_is)
    (case xe3 => k_is)
    (case xt3 => k_is)
    (case xk3 => k_is)
    (case xi3 => k_is)
    (case xj3 => k_is)
    (case il3 => k_is)
    (case ic3 => k_is)
    (case ik3 => k_is)
    (case xf3_0 => k_is)
    (case xf3_1 => k_is)
    (case xh3 => k_is)
    (case xca3 => k_is)
    (case xcm3 => k_is)
    (case xga3 => k_is)
    (case xgg3 => k_is)
    (case xg4 => k_is)
    (case xe4 => k_is)
    (case xt4 => k_is)
    (case xh4 => k_is)
    (case xg5 => k_is)
    (case xl5 => k_is)
    (case xv5 => first | rfl | decide +kernel)
    (case xs5_ => k_is)
    (case xe5 => k_is)
    (case xt5 => k_is)
    (case xk5 => k_is)
    (case xi5 => k_is)
    (case xj5 => k_is)
    (case il5 => k_is)
    (case ic5 => k_is)
    (case ik5 => k_is)
    (case xf5_0 => k_is)
    (case xh5 => k_is)
    (case xca5 => k_is)
    (case xcm5 => k_is)
    (case xga5 => k_is)
    (case xgg5 => k_is)
    (case s_InvalidPaper_InvalidKey => first | rfl | k_is)
    (case s_InvalidPaper_InvalidList => first | rfl | k_is)
    (case s_InvalidPaper_InvalidNumber => first | rfl | k_is)
    (case s_InvalidPaper_InvalidPaper => first | rfl | k_is)
    (case s_InvalidPaper_Undefined => first | rfl | k_is)
    (case s_ReadError_InvalidKey => first | rfl | k_is)
    (case s_ReadError_InvalidList => first | rfl | k_is)
    (case s_ReadError_InvalidNumber => first | rfl | k_is)
    (case s_ReadError_InvalidPaper => first | rfl | k_is)
    (case s_ReadError_Undefined => first | rfl | k_is)
    (case s_Undefined_InvalidKey => first | rfl | k_is)
    (case s_Undefined_InvalidList => first | rfl | k_is)
    (case s_Undefined_InvalidNumber => first | rfl | k_is)
    (case s_Undefined_InvalidPaper => first | rfl | k_is)
    (case s_Undefined_Undefined => first | rfl | k_is)
    (case s_InvalidKey_InvalidKey => first | rfl | k_is)
    (case sb_ValueError_InvalidKey => first | rfl | k_is)
    (case s_InvalidList_InvalidList => first | rfl | k_is)
    (case sb_ValueError_InvalidList => first | rfl | k_is)
    (case s_InvalidNumber_InvalidNumber => first | rfl | k_is)
    (case sb_ValueError_InvalidNumber => first | rfl | k_is)
    (case sb_ValueError_InvalidPaper => first | rfl | k_is)
    (case sb_ValueError_Undefined => first | rfl | k_is)
    (case cg_get => k_is)
    (case cg_tk => k_is)
    (case z_ValueError => k_is)
    (case z_abs => k_is)
    (case z_all => k_is)
    (case z_bool => k_is)
    (case z_enumerate => k_is)
    (case z_int => k_is)
    (case z_isinstance => k_is)
    (case z_len => k_is)
    (case z_list => k_is)
    (case z_max => k_is)
    (case z_min => k_is)
    (case z_range => k_is)
    (case z_reversed => k_is)
    (case z_str => k_is)
    (case z_tuple => k_is)
    (case z_zip => k_is)
    (case q_GREATEST_MODULUS => k_is)
    (case q_LEAF_NUMBERS => k_is)
    (case ql_LEAF_NUMBERS => k_is)
