import PyProof.Rows.All
import HandS.Conv
import HandS.Deep
import HandS.Defaults
import HandS.EndBits
import HandS.Exc
import HandS.ExcField
import HandS.ExcInit
import HandS.ExcIs
import HandS.ExcOwn
import HandS.ExcSuper
import HandS.FStr
import HandS.Flow
import HandS.ForMost
import HandS.Gcd
import HandS.Head0
import HandS.Head1
import HandS.Head2
import HandS.Head3
import HandS.HeadEnd
import HandS.HeadHook1
import HandS.HeadHook2
import HandS.HeadHook3
import HandS.HeadHook4
import HandS.HeadWalk
import HandS.HotCalls
import HandS.IsInst
import HandS.More
import HandS.Style
import HandS.TryOnly
import HandS.TupAny
import HandS.Wide
import HandS.WordsExc
import KE.DataMinMax
import KE.KExcIs
import KE.KExcSuper
import KE.KSuper
import KE.SortData
import OpenK.AllK
import PySem.Challenge.RW_dwellhouse_k01_span_ends
import Wide.All
import Wide.FinOn
set_option Elab.async false
set_option linter.all false
set_option maxRecDepth 100000
set_option maxHeartbeats 4000000
namespace Dw
open PySem L2

/-! ### data that stays -/
mutual
inductive Dr (K : PySem.W.Frag) (H : Hp) : V → PyData → Prop
  | non : Dr K H .non .none
  | bl (b : Bool) : Dr K H (.bl b) (.bool b)
  | int (i : Int) : Dr K H (.int i) (.int i)
  | str (x : Str) : Dr K H (.str x) (.str x)
  | lst {a : Addr} {xs : List V} {ds : List PyData} : H a = some (.lst xs) → DrA K H xs ds → Dr K H (.ref a) (.list ds)
  | tup {a : Addr} {xs : List V} {ds : List PyData} : SqT K H a xs → DrA K H xs ds → Dr K H (.ref a) (.tuple ds)
inductive DrA (K : PySem.W.Frag) (H : Hp) : List V → List PyData → Prop
  | nil : DrA K H [] []
  | cons {v : V} {vs : List V} {d : PyData} {ds : List PyData} : Dr K H v d → DrA K H vs ds → DrA K H (v :: vs) (d :: ds)
end
section
variable {K : PySem.W.Frag} {H H' : Hp}
mutual
theorem Dr.dp : ∀ (d : PyData) (v : V), Dr K H v d → Dp K H v d
  | .none, _, h => by cases h; exact .non
  | .bool b, _, h => by cases h; exact .bl b
  | .int i, _, h => by cases h; exact .int i
  | .str x, _, h => by cases h; exact .str x
  | .list ds, _, h => by
    cases h with
    | lst hs ha => exact .lst (.inl (.inl hs)) (DrA.dp ds _ ha)
  | .tuple ds, _, h => by
    cases h with
    | tup hs ha => exact .tup hs (DrA.dp ds _ ha)
  | .dict _, _, h => by cases h
theorem DrA.dp : ∀ (ds : List PyData) (vs : List V), DrA K H vs ds → DpAll K H vs ds
  | [], _, h => by cases h; exact .nil
  | d :: ds, _, h => by
    cases h with
    | cons h1 h2 => exact .cons (Dr.dp d _ h1) (DrA.dp ds _ h2)
end
theorem rd_up (e : Same H H') {a : Addr} {u : HO} (h : Rd H a u) : Rd H' a u := by
  rcases h with h | ⟨o, h⟩
  · exact .inl (e _ _ h)
  · exact .inr ⟨o, e _ _ h⟩
theorem sl_up (e : Same H H') {a : Addr} {xs : List V} (h : SqL K H a xs) : SqL K H' a xs := by
  rcases h with h | h
  · exact .inl (rd_up e h)
  · exact .inr h
theorem st_up (e : Same H H') {a : Addr} {xs : List V} (h : SqT K H a xs) : SqT K H' a xs := by
  rcases h with h | h
  · exact .inl (rd_up e h)
  · exact .inr h
mutual
theorem dp_up (e : Same H H') : ∀ (d : PyData) (v : V), Dr K H v d → Dr K H' v d
  | .none, _, h => by cases h; exact .non
  | .bool b, _, h => by cases h; exact .bl b
  | .int i, _, h => by cases h; exact .int i
  | .str x, _, h => by cases h; exact .str x
  | .list ds, _, h => by
    cases h with
    | lst hs ha => exact .lst (e _ _ hs) (da_up e ds _ ha)
  | .tuple ds, _, h => by
    cases h with
    | tup hs ha => exact .tup (st_up e hs) (da_up e ds _ ha)
  | .dict _, _, h => by cases h
theorem da_up (e : Same H H') : ∀ (ds : List PyData) (vs : List V), DrA K H vs ds → DrA K H' vs ds
  | [], _, h => by cases h; exact .nil
  | d :: ds, _, h => by
    cases h with
    | cons h1 h2 => exact .cons (dp_up e d _ h1) (da_up e ds _ h2)
end
theorem da_paired : ∀ {vs : List V} {ds : List PyData}, DrA K H vs ds → Paired (Dr K H) vs ds
  | _, _, .nil => .nil
  | _, _, .cons h t => .cons h (da_paired t)
theorem paired_da : ∀ {vs : List V} {ds : List PyData}, Paired (Dr K H) vs ds → DrA K H vs ds
  | _, _, .nil => .nil
  | _, _, .cons h t => .cons h (paired_da t)
theorem pair_get {α β : Type} {G : α → β → Prop} : ∀ {xs : List α} {ys : List β} {i : Nat} {y : β}, Paired G xs ys → ys[i]? = some y → ∃ x, xs[i]? = some x ∧ G x y
  | _, _, _, _, .nil, e => by simp at e
  | _, _, 0, _, .cons r _, e => by simp at e; subst e; exact ⟨_, rfl, r⟩
  | _, _, i + 1, y, .cons _ t, e => by
    obtain ⟨u, h1, h2⟩ := pair_get (i := i) (y := y) t (by simpa using e)
    exact ⟨u, by simpa using h1, h2⟩
theorem pair_getL {α β : Type} {G : α → β → Prop} : ∀ {xs : List α} {ys : List β} {i : Nat} {x : α}, Paired G xs ys → xs[i]? = some x → ∃ y, ys[i]? = some y ∧ G x y
  | _, _, _, _, .nil, e => by simp at e
  | _, _, 0, _, .cons r _, e => by simp at e; subst e; exact ⟨_, rfl, r⟩
  | _, _, i + 1, y, .cons _ t, e => by
    obtain ⟨u, h1, h2⟩ := pair_getL (i := i) (x := y) t (by simpa using e)
    exact ⟨u, by simpa using h1, h2⟩
theorem pair_len {α β : Type} {G : α → β → Prop} {xs : List α} {ys : List β} (h : Paired G xs ys) : xs.length = ys.length := Paired.length h
theorem pair_app {α β : Type} {G : α → β → Prop} : ∀ {xs xs' : List α} {ys ys' : List β}, Paired G xs ys → Paired G xs' ys' → Paired G (xs ++ xs') (ys ++ ys')
  | _, _, _, _, .nil, q => q
  | _, _, _, _, .cons h t, q => .cons h (pair_app t q)
theorem pair_set {α β : Type} {G : α → β → Prop} {x : α} {y : β} (r : G x y) : ∀ {xs : List α} {ys : List β} (i : Nat), Paired G xs ys → Paired G (xs.set i x) (ys.set i y)
  | _, _, _, .nil => .nil
  | _, _, 0, .cons _ t => .cons r t
  | _, _, i + 1, .cons q t => .cons q (pair_set r i t)
theorem pair_take {α β : Type} {G : α → β → Prop} : ∀ {xs : List α} {ys : List β} (n : Nat), Paired G xs ys → Paired G (xs.take n) (ys.take n)
  | _, _, 0, _ => .nil
  | _, _, _ + 1, .nil => .nil
  | _, _, n + 1, .cons r t => .cons r (pair_take n t)
theorem pair_drop {α β : Type} {G : α → β → Prop} : ∀ {xs : List α} {ys : List β} (n : Nat), Paired G xs ys → Paired G (xs.drop n) (ys.drop n)
  | _, _, 0, r => r
  | _, _, _ + 1, .nil => .nil
  | _, _, n + 1, .cons _ t => pair_drop n t
theorem pair_split {α β : Type} {G : α → β → Prop} : ∀ {xs xs' : List α} {ys ys' : List β}, xs.length = ys.length → Paired G (xs ++ xs') (ys ++ ys') → Paired G xs ys ∧ Paired G xs' ys'
  | [], _, [], _, _, q => ⟨.nil, q⟩
  | x :: xs, _, y :: ys, _, hl, .cons h t => by
    obtain ⟨a, b⟩ := pair_split (xs := xs) (ys := ys) (by simpa using hl) t
    exact ⟨.cons h a, b⟩
theorem pair_mono {α β : Type} {G G' : α → β → Prop} (m : ∀ a b, G a b → G' a b) : ∀ {xs : List α} {ys : List β}, Paired G xs ys → Paired G' xs ys
  | _, _, .nil => .nil
  | _, _, .cons h t => .cons (m _ _ h) (pair_mono m t)
end

/-! ### the abstract state -/
inductive A where
  | d (x : PyData)
  | o (k : Nat)
  | p (φ : Hp → V → Prop) (m : ∀ H H' v, Same H H' → φ H v → φ H' v)
inductive C where
  | dead
  | lst (xs : List PyData)
  | dK (kvs : List (Key × PyData))
structure S where
  ss : List (Option A)
  os : List C
/-- where a body stands: the data and the frame at its entry, its arguments' own cells -/
structure B where
  D0 : Hp
  F : Hp
  ps0 : List Addr

def AR (K : PySem.W.Frag) (Hd : Hp) (ps : List Addr) (v : V) : A → Prop
  | .d x => Dr K Hd v x
  | .o k => ∃ p, ps[k]? = some p ∧ v = .ref p
  | .p φ _ => φ Hd v
def CRp (K : PySem.W.Frag) (Hd H : Hp) (p : Addr) : C → Prop
  | .dead => True
  | .lst xs => Hd p = none ∧ ∃ vs, H p = some (.lst vs) ∧ DrA K Hd vs xs
  | .dK kvs => Hd p = none ∧ ∃ ws : List (Key × V), H p = some (.dK ws) ∧ Paired (fun a b => a.1 = b.1 ∧ Dr K Hd a.2 b.2) ws kvs

structure Rp (K : PySem.W.Frag) (b : B) (s : S) (σ : St) (H : Hp) (tv : List V) (ta : List A) (Hd : Hp) (ps : List Addr) : Prop where
  e0 : Same b.D0 Hd
  e1 : Same Hd H
  e2 : Same b.F H
  nw : ∀ a, b.F a ≠ none → b.D0 a = none → Hd a = none
  pl : ps.length = s.os.length
  nd : ps.Nodup
  p0 : ∃ more, ps = b.ps0 ++ more
  fr : ∀ p, p ∈ ps → b.F p = none
  ex : ∀ p, p ∈ ps → H p ≠ none
  cl : ∀ (k : Nat) cc p, s.os[k]? = some cc → ps[k]? = some p → CRp K Hd H p cc
  sl : ∀ (i : Nat) a, s.ss[i]? = some (some a) → ∃ v, σ[i]? = some (some v) ∧ AR K Hd ps v a
  ln : σ.length = s.ss.length
  tm : Paired (AR K Hd ps) tv ta

section
variable {b : B} {s : S} {σ : St} {H H' Hd Hd' : Hp} {tv : List V} {ta : List A} {ps : List Addr} {K : PySem.W.Frag}
theorem ar_up (e : Same Hd Hd') {v : V} : ∀ {a : A}, AR K Hd ps v a → AR K Hd' ps v a
  | .d x, h => dp_up e x v h
  | .o _, h => h
  | .p _ m, h => m _ _ _ e h
theorem ar_more {more : List Addr} {v : V} : ∀ {a : A}, AR K Hd ps v a → AR K Hd (ps ++ more) v a
  | .d _, h => h
  | .o _, h => by
    obtain ⟨p, e, r⟩ := h
    exact ⟨p, by rw [List.getElem?_append_left (List.getElem?_eq_some_iff.mp e).1]; exact e, r⟩
  | .p _ _, h => h
theorem cr_up (e : Same Hd Hd') {p : Addr} : ∀ {c : C}, CRp K Hd H p c → (Hd p = none → Hd' p = none) → (Hd p = none → ∀ o, H p = some o → H' p = some o) → CRp K Hd' H' p c
  | .dead, _, _, _ => trivial
  | .lst xs, ⟨n, vs, hp, ha⟩, h1, h2 => ⟨h1 n, vs, h2 n _ hp, da_up e xs vs ha⟩
  | .dK kvs, ⟨n, ws, hp, ha⟩, h1, h2 => ⟨h1 n, ws, h2 n _ hp, pair_mono (fun a c q => ⟨q.1, dp_up e _ _ q.2⟩) ha⟩

/-- the heap has grown, no cell has changed -/
theorem Rp.ext (r : Rp K b s σ H tv ta Hd ps) (h1 : Same Hd Hd') (h2 : Same Hd' H') (h3 : Same H H') (h4 : ∀ a, H a ≠ none → Hd a = none → Hd' a = none) : Rp K b s σ H' tv ta Hd' ps where
  e0 := r.e0.trans h1
  e1 := h2
  e2 := r.e2.trans h3
  nw := fun a ha hd => by
    have hH : H a ≠ none := by
      intro z
      apply ha
      cases q : b.F a with
      | none => rfl
      | some o => rw [r.e2 a o q] at z; cases z
    exact h4 a hH (r.nw a ha hd)
  pl := r.pl
  nd := r.nd
  p0 := r.p0
  fr := r.fr
  ex := fun p hp z => by
    have q := r.ex p hp
    cases e : H p with
    | none => exact q e
    | some o => rw [h3 p o e] at z; cases z
  cl := fun k cc p hk hp => by
    have q := r.cl k cc p hk hp
    cases cc with
    | dead => trivial
    | lst xs =>
      obtain ⟨n, vs, hv, ha⟩ := q
      exact ⟨h4 p (by rw [hv]; exact fun z => nomatch z) n, vs, h3 _ _ hv, da_up h1 xs vs ha⟩
    | dK kvs =>
      obtain ⟨n, ws, hv, ha⟩ := q
      exact ⟨h4 p (by rw [hv]; exact fun z => nomatch z) n, ws, h3 _ _ hv, pair_mono (fun a c q => ⟨q.1, dp_up h1 _ _ q.2⟩) ha⟩
  sl := fun i a hi => by
    obtain ⟨v, hv, ha⟩ := r.sl i a hi
    exact ⟨v, hv, ar_up h1 ha⟩
  ln := r.ln
  tm := pair_mono (fun _ _ q => ar_up h1 q) r.tm
theorem Rp.tmp (r : Rp K b s σ H tv ta Hd ps) {tv' : List V} {ta' : List A} (h : Paired (AR K Hd ps) tv' ta') : Rp K b s σ H tv' ta' Hd ps :=
  ⟨r.e0, r.e1, r.e2, r.nw, r.pl, r.nd, r.p0, r.fr, r.ex, r.cl, r.sl, r.ln, h⟩
theorem Rp.push (r : Rp K b s σ H tv ta Hd ps) {v : V} {a : A} (h : AR K Hd ps v a) : Rp K b s σ H (v :: tv) (a :: ta) Hd ps := r.tmp (.cons h r.tm)
theorem Rp.pop {v : V} {a : A} (r : Rp K b s σ H (v :: tv) (a :: ta) Hd ps) : Rp K b s σ H tv ta Hd ps ∧ AR K Hd ps v a := by
  cases id r.tm with
  | cons h t => exact ⟨r.tmp t, h⟩
theorem Rp.pushAll (r : Rp K b s σ H tv ta Hd ps) {vs : List V} {as : List A} (h : Paired (AR K Hd ps) vs as) : Rp K b s σ H (vs ++ tv) (as ++ ta) Hd ps := r.tmp (pair_app h r.tm)
theorem Rp.popAll {vs : List V} {as : List A} (r : Rp K b s σ H (vs ++ tv) (as ++ ta) Hd ps) (hl : vs.length = as.length) : Rp K b s σ H tv ta Hd ps ∧ Paired (AR K Hd ps) vs as := by
  obtain ⟨h, t⟩ := pair_split hl r.tm
  exact ⟨r.tmp t, h⟩
theorem none_of_same {H H' : Hp} (e : Same H H') {p : Addr} (h : H' p = none) : H p = none := by
  cases q : H p with
  | none => rfl
  | some o => rw [e p o q] at h; cases h
theorem same_new {H : Hp} {p : Addr} {o : HO} (h : H p = none) : Same H (upd H p o) := fun b x e => by
  rw [upd_ne (ne_of_none e h)]
  exact e
theorem same_upd2 {Hd H : Hp} (e : Same Hd H) (p : Addr) (o : HO) : Same (upd Hd p o) (upd H p o) := fun b x q => by
  by_cases z : b = p
  · subst z
    rw [upd_same] at q ⊢
    exact q
  · rw [upd_ne z] at q ⊢
    exact e _ _ q
/-- a new thing among the data -/
theorem Rp.newD (r : Rp K b s σ H tv ta Hd ps) {p : Addr} (o : HO) (h : H p = none) : Rp K b s σ (upd H p o) tv ta (upd Hd p o) ps :=
  r.ext (same_new (none_of_same r.e1 h)) (same_upd2 r.e1 p o) (same_new h) fun a ha hd => by
    have z : a ≠ p := fun e => ha (by rw [e]; exact h)
    rw [upd_ne z]
    exact hd
theorem da_of_ars {vs : List V} {xs : List PyData} (h : Paired (AR K Hd ps) vs (xs.map A.d)) : DrA K Hd vs xs := by
  induction xs generalizing vs with
  | nil => cases h; exact .nil
  | cons x xs ih =>
    cases h with
    | cons q t => exact .cons q (ih t)
theorem ars_of_da : ∀ {vs : List V} {xs : List PyData}, DrA K Hd vs xs → Paired (AR K Hd ps) vs (xs.map A.d)
  | _, _, .nil => .nil
  | _, _, .cons h t => .cons h (ars_of_da t)
theorem Rp.newTup (r : Rp K b s σ H tv ta Hd ps) {p : Addr} (h : H p = none) {vs : List V} {xs : List PyData} (hv : Paired (AR K Hd ps) vs (xs.map A.d)) :
    Rp K b s σ (upd H p (.tup vs)) tv ta (upd Hd p (.tup vs)) ps ∧ AR K (upd Hd p (.tup vs)) ps (.ref p) (.d (.tuple xs)) :=
  ⟨r.newD _ h, .tup (.inl (.inl upd_same)) (da_up (same_new (none_of_same r.e1 h)) _ _ (da_of_ars hv))⟩
theorem Rp.newLst (r : Rp K b s σ H tv ta Hd ps) {p : Addr} (h : H p = none) {vs : List V} {xs : List PyData} (hv : Paired (AR K Hd ps) vs (xs.map A.d)) :
    Rp K b s σ (upd H p (.lst vs)) tv ta (upd Hd p (.lst vs)) ps ∧ AR K (upd Hd p (.lst vs)) ps (.ref p) (.d (.list xs)) :=
  ⟨r.newD _ h, .lst upd_same (da_up (same_new (none_of_same r.e1 h)) _ _ (da_of_ars hv))⟩
theorem Rp.inH (r : Rp K b s σ H tv ta Hd ps) {k : Nat} {cc : C} {p : Addr} (hk : s.os[k]? = some cc) (hp : ps[k]? = some p) (hd : cc ≠ .dead) : Hd p = none ∧ ∃ o, H p = some o := by
  have q := r.cl k cc p hk hp
  cases cc with
  | dead => exact absurd rfl hd
  | lst xs => exact ⟨q.1, _, q.2.choose_spec.1⟩
  | dK kvs => exact ⟨q.1, _, q.2.choose_spec.1⟩
end

/-! ### own cells -/
def S.put (s : S) (k : Nat) (c : C) : S := ⟨s.ss, s.os.set k c⟩
def S.set (s : S) (i : Nat) (a : A) : S := ⟨s.ss.set i (some a), s.os⟩
def S.add (s : S) (c : C) : S := ⟨s.ss, s.os ++ [c]⟩
/-- own cell k is from now on data -/
def frA (k : Nat) (x : PyData) : Option A → Option A
  | some (.o j) => if j = k then some (.d x) else some (.o j)
  | a => a
def S.frz (s : S) (k : Nat) (xs : List PyData) : S := ⟨s.ss.map (frA k (.list xs)), s.os.set k .dead⟩
section
variable {b : B} {s : S} {σ : St} {H H' Hd Hd' : Hp} {tv : List V} {ta : List A} {ps : List Addr} {K : PySem.W.Frag}
theorem nd_ne {ps : List Addr} (h : ps.Nodup) {i j : Nat} {p q : Addr} (hi : ps[i]? = some p) (hj : ps[j]? = some q) (ne : i ≠ j) : p ≠ q := by
  obtain ⟨li, ei⟩ := List.getElem?_eq_some_iff.mp hi
  obtain ⟨lj, ej⟩ := List.getElem?_eq_some_iff.mp hj
  rcases Nat.lt_or_gt_of_ne ne with l | l
  · have := (List.pairwise_iff_getElem.mp h) i j li lj l
    rw [ei, ej] at this
    exact this
  · have := (List.pairwise_iff_getElem.mp h) j i lj li l
    rw [ei, ej] at this
    exact fun e => this e.symm
/-- an own cell changes -/
theorem Rp.put (r : Rp K b s σ H tv ta Hd ps) {k : Nat} {c cc : C} {p : Addr} {o : HO} (hk : s.os[k]? = some cc) (hp : ps[k]? = some p) (hc : cc ≠ .dead) (hn : CRp K Hd (upd H p o) p c) :
    Rp K b (s.put k c) σ (upd H p o) tv ta Hd ps where
  e0 := r.e0
  e1 := fun a x e => by
    have z : a ≠ p := ne_of_none e (r.inH hk hp hc).1
    rw [upd_ne z]
    exact r.e1 a x e
  e2 := fun a x e => by
    have z : a ≠ p := ne_of_none e (r.fr p (List.mem_of_getElem? hp))
    rw [upd_ne z]
    exact r.e2 a x e
  nw := r.nw
  pl := by rw [r.pl]; show _ = (s.os.set k c).length; rw [List.length_set]
  nd := r.nd
  p0 := r.p0
  fr := r.fr
  ex := fun q hq z => by
    by_cases e : q = p
    · subst e; rw [upd_same] at z; cases z
    · rw [upd_ne e] at z; exact r.ex q hq z
  cl := fun j cj q hj hq => by
    by_cases e : j = k
    · subst e
      rw [hp] at hq
      cases hq
      have hl : j < s.os.length := (List.getElem?_eq_some_iff.mp hk).1
      have : (s.os.set j c)[j]? = some c := List.getElem?_set_self hl
      rw [show (s.put j c).os = s.os.set j c from rfl, this] at hj
      cases hj
      exact hn
    · have hj' : s.os[j]? = some cj := by
        rw [show (s.put k c).os = s.os.set k c from rfl, List.getElem?_set_ne (Ne.symm e)] at hj
        exact hj
      have z : q ≠ p := nd_ne r.nd hq hp e
      exact cr_up (Same.refl Hd) (r.cl j cj q hj' hq) (fun x => x) fun _ o' ho => by
        rw [upd_ne z]
        exact ho
  sl := r.sl
  ln := r.ln
  tm := r.tm
/-- a new own cell -/
theorem Rp.new (r : Rp K b s σ H tv ta Hd ps) {p : Addr} {c : C} {o : HO} (h : H p = none) (hn : CRp K Hd (upd H p o) p c) :
    Rp K b (s.add c) σ (upd H p o) tv ta Hd (ps ++ [p]) ∧ AR K Hd (ps ++ [p]) (.ref p) (.o s.os.length) := by
  refine ⟨⟨r.e0, fun a x e => ?_, fun a x e => ?_, r.nw, ?_, ?_, ?_, ?_, ?_, ?_, ?_, r.ln, pair_mono (fun _ _ q => ar_more q) r.tm⟩, p, ?_, rfl⟩
  · rw [upd_ne (ne_of_none (r.e1 a x e) h)]
    exact r.e1 a x e
  · rw [upd_ne (ne_of_none (r.e2 a x e) h)]
    exact r.e2 a x e
  · show (ps ++ [p]).length = (s.os ++ [c]).length
    rw [List.length_append, List.length_append, r.pl]
    rfl
  · refine List.nodup_append.mpr ⟨r.nd, List.pairwise_singleton _ _, fun a ha c hc e => ?_⟩
    rw [List.mem_singleton.mp hc] at e
    exact r.ex a ha (by rw [e]; exact h)
  · obtain ⟨more, e⟩ := r.p0
    exact ⟨more ++ [p], by rw [e, List.append_assoc]⟩
  · intro q hq
    rcases List.mem_append.mp hq with hq | hq
    · exact r.fr q hq
    · rw [List.mem_singleton.mp hq]
      exact none_of_same r.e2 h
  · intro q hq z
    rcases List.mem_append.mp hq with hq | hq
    · by_cases e : q = p
      · subst e; rw [upd_same] at z; cases z
      · rw [upd_ne e] at z; exact r.ex q hq z
    · rw [List.mem_singleton.mp hq, upd_same] at z
      cases z
  · intro k cc q hk hq
    by_cases hl : k < s.os.length
    · have hk' : s.os[k]? = some cc := by rw [show (s.add c).os = s.os ++ [c] from rfl, List.getElem?_append_left hl] at hk; exact hk
      have hq' : ps[k]? = some q := by rw [List.getElem?_append_left (by rw [r.pl]; exact hl)] at hq; exact hq
      refine cr_up (Same.refl Hd) (r.cl k cc q hk' hq') (fun x => x) fun _ o' ho => ?_
      rw [upd_ne (ne_of_none ho h)]
      exact ho
    · have e : k = s.os.length := by
        have := (List.getElem?_eq_some_iff.mp hk).1
        rw [show (s.add c).os = s.os ++ [c] from rfl, List.length_append, List.length_singleton] at this
        omega
      subst e
      rw [show (s.add c).os = s.os ++ [c] from rfl, List.getElem?_concat_length] at hk
      cases hk
      rw [← r.pl, List.getElem?_concat_length] at hq
      cases hq
      exact hn
  · intro i a hi
    obtain ⟨v, hv, ha⟩ := r.sl i a hi
    exact ⟨v, hv, ar_more ha⟩
  · rw [← r.pl, List.getElem?_concat_length]

theorem frA_ar {k : Nat} {p : Addr} {vs : List V} {xs : List PyData} (hp : ps[k]? = some p) (hl : AR K Hd' ps (.ref p) (.d (.list xs))) (e : Same Hd Hd') {v : V} {a a' : A} (h : AR K Hd ps v a) (hf : frA k (.list xs) (some a) = some a') : AR K Hd' ps v a' := by
  cases a with
  | d x => cases hf; exact ar_up e (a := .d x) h
  | p φ m => cases hf; exact ar_up e (a := .p φ m) h
  | o j =>
    by_cases z : j = k
    · subst z
      simp only [frA, if_true] at hf
      cases hf
      obtain ⟨q, hq, rfl⟩ := h
      rw [hp] at hq
      cases hq
      exact hl
    · simp only [frA, if_neg z] at hf
      cases hf
      exact h
/-- an own list is from now on data -/
theorem Rp.frz (r : Rp K b s σ H tv ta Hd ps) {k : Nat} {xs : List PyData} (hk : s.os[k]? = some (.lst xs)) : ∃ Hd', Same Hd Hd' ∧ Rp K b (s.frz k xs) σ H tv ta Hd' ps ∧ ∀ v, AR K Hd ps v (.o k) → AR K Hd' ps v (.d (.list xs)) := by
  have hlt : k < ps.length := by rw [r.pl]; exact (List.getElem?_eq_some_iff.mp hk).1
  obtain ⟨p, hp⟩ : ∃ p, ps[k]? = some p := ⟨ps[k], List.getElem?_eq_getElem hlt⟩
  obtain ⟨hn, vs, hv, ha⟩ := r.cl k _ p hk hp
  have hs : Same Hd (upd Hd p (.lst vs)) := same_new hn
  have hl : AR K (upd Hd p (.lst vs)) ps (.ref p) (.d (.list xs)) := .lst upd_same (da_up hs xs vs ha)
  refine ⟨upd Hd p (.lst vs), hs, ⟨r.e0.trans hs, fun a x e => ?_, r.e2, fun a ha hd => ?_, ?_, r.nd, r.p0, r.fr, r.ex, ?_, ?_, ?_, pair_mono (fun _ _ q => ar_up hs q) r.tm⟩, fun v h => ?_⟩
  · by_cases z : a = p
    · subst z
      rw [upd_same] at e
      cases e
      exact hv
    · rw [upd_ne z] at e
      exact r.e1 a x e
  · have z : a ≠ p := fun e => ha (by rw [e]; exact r.fr p (List.mem_of_getElem? hp))
    rw [upd_ne z]
    exact r.nw a ha hd
  · rw [r.pl]
    show _ = (s.os.set k .dead).length
    rw [List.length_set]
  · intro j cj q hj hq
    by_cases e : j = k
    · subst e
      have : (s.os.set j C.dead)[j]? = some C.dead := List.getElem?_set_self (List.getElem?_eq_some_iff.mp hk).1
      rw [show (s.frz j xs).os = s.os.set j .dead from rfl, this] at hj
      cases hj
      trivial
    · have hj' : s.os[j]? = some cj := by
        rw [show (s.frz k xs).os = s.os.set k .dead from rfl, List.getElem?_set_ne (Ne.symm e)] at hj
        exact hj
      have z : q ≠ p := nd_ne r.nd hq hp e
      exact cr_up hs (r.cl j cj q hj' hq) (fun x => by rw [upd_ne z]; exact x) fun _ o' ho => ho
  · intro i a hi
    rw [show (s.frz k xs).ss = s.ss.map (frA k (.list xs)) from rfl, List.getElem?_map] at hi
    cases e : s.ss[i]? with
    | none => rw [e] at hi; cases hi
    | some oa =>
      rw [e] at hi
      cases oa with
      | none => cases hi
      | some a0 =>
        obtain ⟨v, hv, har⟩ := r.sl i a0 e
        exact ⟨v, hv, frA_ar (vs := vs) hp hl hs har (Option.some.inj hi)⟩
  · rw [r.ln]
    show _ = (s.ss.map _).length
    rw [List.length_map]
  · obtain ⟨q, hq, rfl⟩ := h
    rw [hp] at hq
    cases hq
    exact hl
end
/-! ### judgements over the abstract state -/
def EV (K : PySem.W.Frag) (b : B) (te : TE) (s : S) (Φ : A → S → Prop) : Prop := ∀ σ H tv ta Hd ps, Rp K b s σ H tv ta Hd ps → ∀ Q : VK,
  (∀ v H' a s' Hd' ps', Φ a s' → Rp K b s' σ H' tv ta Hd' ps' → AR K Hd' ps' v a → Q v H') → te σ H Q
def ET (K : PySem.W.Frag) (b : B) (tt : TT) (s : S) (Φ : Bool → S → Prop) : Prop := ∀ σ H tv ta Hd ps, Rp K b s σ H tv ta Hd ps → ∀ Q : Bool → Hp → Prop,
  (∀ k H' s' Hd' ps', Φ k s' → Rp K b s' σ H' tv ta Hd' ps' → Q k H') → tt σ H Q
def EA (K : PySem.W.Frag) (b : B) (t : TA) (s : S) (Φ : List A → S → Prop) : Prop := ∀ σ H tv ta Hd ps, Rp K b s σ H tv ta Hd ps → ∀ Q : List V → Hp → Prop,
  (∀ vs H' as s' Hd' ps', Φ as s' → Rp K b s' σ H' tv ta Hd' ps' → Paired (AR K Hd' ps') vs as → Q vs H') → t σ H Q
def EO (K : PySem.W.Frag) (b : B) (t : TO) (s : S) (Φ : Option Int → S → Prop) : Prop := ∀ σ H tv ta Hd ps, Rp K b s σ H tv ta Hd ps → ∀ Q : Option Int → Hp → Prop,
  (∀ o H' s' Hd' ps', Φ o s' → Rp K b s' σ H' tv ta Hd' ps' → Q o H') → t σ H Q
/-- of values: an operator, a one-place thing, a call, a method -/
def V2 (K : PySem.W.Frag) (b : B) (r : R2) (x y : A) (s : S) (Φ : A → S → Prop) : Prop := ∀ σ H tv ta Hd ps v w, Rp K b s σ H tv ta Hd ps → AR K Hd ps v x → AR K Hd ps w y → ∀ Q : VK,
  (∀ u H' a s' Hd' ps', Φ a s' → Rp K b s' σ H' tv ta Hd' ps' → AR K Hd' ps' u a → Q u H') → r v w H Q
def V1 (K : PySem.W.Frag) (b : B) (r : V → Hp → VK → Prop) (x : A) (s : S) (Φ : A → S → Prop) : Prop := ∀ σ H tv ta Hd ps v, Rp K b s σ H tv ta Hd ps → AR K Hd ps v x → ∀ Q : VK,
  (∀ u H' a s' Hd' ps', Φ a s' → Rp K b s' σ H' tv ta Hd' ps' → AR K Hd' ps' u a → Q u H') → r v H Q
def VC (K : PySem.W.Frag) (b : B) (r : List V → Hp → VK → Prop) (as : List A) (s : S) (Φ : A → S → Prop) : Prop := ∀ σ H tv ta Hd ps vs, Rp K b s σ H tv ta Hd ps → Paired (AR K Hd ps) vs as → ∀ Q : VK,
  (∀ u H' a s' Hd' ps', Φ a s' → Rp K b s' σ H' tv ta Hd' ps' → AR K Hd' ps' u a → Q u H') → r vs H Q
def VM (K : PySem.W.Frag) (b : B) (r : V → List V → Hp → VK → Prop) (x : A) (as : List A) (s : S) (Φ : A → S → Prop) : Prop := ∀ σ H tv ta Hd ps v vs, Rp K b s σ H tv ta Hd ps → AR K Hd ps v x → Paired (AR K Hd ps) vs as → ∀ Q : VK,
  (∀ u H' a s' Hd' ps', Φ a s' → Rp K b s' σ H' tv ta Hd' ps' → AR K Hd' ps' u a → Q u H') → r v vs H Q
/-- a target -/
def GT (K : PySem.W.Frag) (b : B) (g : TG) (a : A) (s : S) (N : S → Prop) : Prop := ∀ σ H tv ta Hd ps v, Rp K b s σ H tv ta Hd ps → AR K Hd ps v a → ∀ Q : L2.St → Hp → Prop,
  (∀ σ' H' s' Hd' ps', N s' → Rp K b s' σ' H' tv ta Hd' ps' → Q σ' H') → g v σ H Q
def GTs (K : PySem.W.Frag) (b : B) (g : TGs) (as : List A) (s : S) (N : S → Prop) : Prop := ∀ σ H tv ta Hd ps vs, Rp K b s σ H tv ta Hd ps → Paired (AR K Hd ps) vs as → ∀ Q : L2.St → Hp → Prop,
  (∀ σ' H' s' Hd' ps', N s' → Rp K b s' σ' H' tv ta Hd' ps' → Q σ' H') → g vs σ H Q
/-- a statement: what it reaches by its four ends -/
structure EE where
  nx : S → Prop
  rt : A → S → Prop
  bk : S → Prop := fun _ => False
  ct : S → Prop := fun _ => False
structure Dk (K : PySem.W.Frag) (b : B) (D : Ends) (N : EE) (tv : List V) (ta : List A) : Prop where
  nx : ∀ σ H s Hd ps, N.nx s → Rp K b s σ H tv ta Hd ps → D.nx σ H
  rt : ∀ v σ H a s Hd ps, N.rt a s → Rp K b s σ H tv ta Hd ps → AR K Hd ps v a → D.rt v H
  bk : ∀ σ H s Hd ps, N.bk s → Rp K b s σ H tv ta Hd ps → D.bk σ H
  ct : ∀ σ H s Hd ps, N.ct s → Rp K b s σ H tv ta Hd ps → D.ct σ H
def GO (K : PySem.W.Frag) (b : B) (t : TS) (s : S) (N : EE) : Prop := ∀ D σ H tv ta Hd ps, Rp K b s σ H tv ta Hd ps → Dk K b D N tv ta → t D σ H

section
variable {K : PySem.W.Frag} {b : B} {s s1 : S} {te ta tb tc : TE} {tt tu : TT} {t : TA} {x y : A} {Φ Ψ : A → S → Prop} {r : R2}
/-! ### expressions -/
def noO : List A → Bool
  | [] => true
  | .o _ :: _ => false
  | .d _ :: l => noO l
  | .p _ _ :: l => noO l
theorem noO_ok : ∀ {as : List A}, noO as = true → ∀ a, a ∈ as → ∀ k, a ≠ .o k
  | .d x :: l, h, a, ha, k, e => by
    rcases List.mem_cons.mp ha with z | z
    · rw [z] at e; cases e
    · exact noO_ok (as := l) h a z k e
  | .p φ m :: l, h, a, ha, k, e => by
    rcases List.mem_cons.mp ha with z | z
    · rw [z] at e; cases e
    · exact noO_ok (as := l) h a z k e
def undA : List A → Option (List PyData)
  | [] => some []
  | .d x :: l => (undA l).map (x :: ·)
  | _ :: _ => none
theorem undA_eq : ∀ {as : List A} {xs : List PyData}, undA as = some xs → as = xs.map A.d
  | [], xs, h => by cases h; rfl
  | .d x :: l, xs, h => by
    cases q : undA l with
    | none => simp [undA, q] at h
    | some ys =>
      simp [undA, q] at h
      subst h
      rw [undA_eq q]
      rfl
theorem le_of_ble {xs : List PyData} (h : Nat.ble xs.length 1000 = true) : xs.length ≤ sizeLine := Nat.le_trans (Nat.le_of_ble_eq_true h) (by decide)
theorem ev_var {i : Nat} {a : A} (h : s.ss[i]? = some (some a)) (q : Φ a s) : EV K b (tVar i) s Φ := fun σ H tv tl Hd ps R Q k => by
  obtain ⟨v, hv, ha⟩ := R.sl i a h
  exact ⟨v, hv, k v H a s Hd ps q R ha⟩
theorem ev_frz {i k : Nat} {xs : List PyData} (h : s.ss[i]? = some (some (.o k))) (hk : s.os[k]? = some (.lst xs)) (q : Φ (.d (.list xs)) (s.frz k xs)) : EV K b (tVar i) s Φ := fun σ H tv tl Hd ps R Q z => by
  obtain ⟨v, hv, ha⟩ := R.sl i _ h
  obtain ⟨Hd', _, R', h'⟩ := R.frz hk
  exact ⟨v, hv, z v H _ _ Hd' ps q R' (h' v ha)⟩
theorem ev_int {i : Int} (q : Φ (.d (.int i)) s) : EV K b (tC (.int i)) s Φ := fun σ H tv tl Hd ps R Q k => k _ H _ s Hd ps q R (.int i)
theorem ev_bl {i : Bool} (q : Φ (.d (.bool i)) s) : EV K b (tC (.bl i)) s Φ := fun σ H tv tl Hd ps R Q k => k _ H _ s Hd ps q R (.bl i)
theorem ev_str {i : Str} (q : Φ (.d (.str i)) s) : EV K b (tC (.str i)) s Φ := fun σ H tv tl Hd ps R Q k => k _ H _ s Hd ps q R (.str i)
theorem ev_non (q : Φ (.d .none) s) : EV K b (tC .non) s Φ := fun σ H tv tl Hd ps R Q k => k _ H _ s Hd ps q R .non
theorem ev_op (h : EV K b ta s fun x s1 => EV K b tb s1 fun y s2 => V2 K b r x y s2 Φ) : EV K b (tOp r ta tb) s Φ := fun σ H tv tl Hd ps R Q k =>
  h σ H tv tl Hd ps R _ fun v H1 x s1 Hd1 ps1 h1 R1 a1 => h1 σ H1 (v :: tv) (x :: tl) Hd1 ps1 (R1.push a1) _ fun w H2 y s2 Hd2 ps2 h2 R2 a2 =>
    h2 σ H2 tv tl Hd2 ps2 v w R2.pop.1 R2.pop.2 a2 Q k
theorem ev_un {r : V → Hp → VK → Prop} (h : EV K b ta s fun x s1 => V1 K b r x s1 Φ) : EV K b (tUn r ta) s Φ := fun σ H tv tl Hd ps R Q k =>
  h σ H tv tl Hd ps R _ fun v H1 x s1 Hd1 ps1 h1 R1 a1 => h1 σ H1 tv tl Hd1 ps1 v R1 a1 Q k
theorem ea_nil {Φ : List A → S → Prop} (q : Φ [] s) : EA K b tNil s Φ := fun σ H tv tl Hd ps R Q k => k [] H [] s Hd ps q R .nil
theorem ea_cons {Φ : List A → S → Prop} (h : EV K b ta s fun x s1 => EA K b t s1 fun as s2 => Φ (x :: as) s2) : EA K b (tCons ta t) s Φ := fun σ H tv tl Hd ps R Q k =>
  h σ H tv tl Hd ps R _ fun v H1 x s1 Hd1 ps1 h1 R1 a1 => h1 σ H1 (v :: tv) (x :: tl) Hd1 ps1 (R1.push a1) _ fun vs H2 as s2 Hd2 ps2 h2 R2 a2 =>
    k (v :: vs) H2 (x :: as) s2 Hd2 ps2 h2 R2.pop.1 (.cons R2.pop.2 a2)
theorem ev_tup {Φ : A → S → Prop} (h : EA K b t s fun as s1 => ∃ xs, undA as = some xs ∧ Nat.ble xs.length 1000 = true ∧ Φ (.d (.tuple xs)) s1) : EV K b (tTup t) s Φ := fun σ H tv tl Hd ps R Q k =>
  h σ H tv tl Hd ps R _ fun vs H1 as s1 Hd1 ps1 h1 R1 a1 => by
    obtain ⟨xs, ex, hl, q⟩ := h1
    have hl := le_of_ble hl
    rw [undA_eq ex] at a1
    have e := pair_len a1
    rw [List.length_map] at e
    refine ⟨by rw [e]; exact hl, fun p hp => ?_⟩
    obtain ⟨R2, a2⟩ := R1.newTup hp a1
    exact k _ _ _ _ _ _ q R2 a2
/-- a list that is data from the start -/
theorem ev_lst {Φ : A → S → Prop} (h : EA K b t s fun as s1 => ∃ xs, undA as = some xs ∧ Nat.ble xs.length 1000 = true ∧ Φ (.d (.list xs)) s1) : EV K b (tLst t) s Φ := fun σ H tv tl Hd ps R Q k =>
  h σ H tv tl Hd ps R _ fun vs H1 as s1 Hd1 ps1 h1 R1 a1 => by
    obtain ⟨xs, ex, hl, q⟩ := h1
    have hl := le_of_ble hl
    rw [undA_eq ex] at a1
    have e := pair_len a1
    rw [List.length_map] at e
    refine ⟨by rw [e]; exact hl, fun p hp => ?_⟩
    obtain ⟨R2, a2⟩ := R1.newLst hp a1
    exact k _ _ _ _ _ _ q R2 a2
/-- a list of one's own -/
theorem ev_lstO {Φ : A → S → Prop} (h : EA K b t s fun as s1 => ∃ xs, undA as = some xs ∧ Nat.ble xs.length 1000 = true ∧ Φ (.o s1.os.length) (s1.add (.lst xs))) : EV K b (tLst t) s Φ := fun σ H tv tl Hd ps R Q k =>
  h σ H tv tl Hd ps R _ fun vs H1 as s1 Hd1 ps1 h1 R1 a1 => by
    obtain ⟨xs, ex, hl, q⟩ := h1
    have hl := le_of_ble hl
    rw [undA_eq ex] at a1
    have e := pair_len a1
    rw [List.length_map] at e
    refine ⟨by rw [e]; exact hl, fun p hp => ?_⟩
    obtain ⟨R2, a2⟩ := R1.new (c := .lst xs) (o := .lst vs) hp ⟨none_of_same R1.e1 hp, vs, upd_same, da_of_ars a1⟩
    exact k _ _ _ _ _ _ q R2 a2
theorem ev_if (h : ET K b tt s fun k s1 => (k = true → EV K b ta s1 Φ) ∧ (k = false → EV K b tb s1 Φ)) : EV K b (tIf tt ta tb) s Φ := fun σ H tv tl Hd ps R Q k =>
  h σ H tv tl Hd ps R _ fun c H1 s1 Hd1 ps1 h1 R1 => by
    cases c with
    | true => exact h1.1 rfl σ H1 tv tl Hd1 ps1 R1 Q k
    | false => exact h1.2 rfl σ H1 tv tl Hd1 ps1 R1 Q k
theorem ev_cb {rc : List V → Hp → VK → Prop} (h : EA K b t s fun as s1 => VC K b rc as s1 Φ) : EV K b (tCB rc t) s Φ := fun σ H tv tl Hd ps R Q k =>
  h σ H tv tl Hd ps R _ fun vs H1 as s1 Hd1 ps1 h1 R1 a1 => h1 σ H1 tv tl Hd1 ps1 vs R1 a1 Q k
/-! tests -/
theorem et_test {Φ : Bool → S → Prop} (h : EV K b ta s fun a s1 => ∃ k, a = .d (.bool k) ∧ Φ k s1) : ET K b (tTest ta) s Φ := fun σ H tv tl Hd ps R Q k =>
  h σ H tv tl Hd ps R _ fun v H1 a s1 Hd1 ps1 h1 R1 a1 => by
    obtain ⟨c, rfl, q⟩ := h1
    cases a1
    exact ⟨c, rfl, k c H1 s1 Hd1 ps1 q R1⟩
theorem et_B {Φ : Bool → S → Prop} (h : EV K b ta s fun a s1 => ∃ k, a = .d (.bool k) ∧ Φ k s1) : ET K b (tB ta) s Φ := et_test h
theorem et_and {Φ : Bool → S → Prop} (h : ET K b tt s fun k s1 => (k = true → ET K b tu s1 Φ) ∧ (k = false → Φ false s1)) : ET K b (tAnd tt tu) s Φ := fun σ H tv tl Hd ps R Q k =>
  h σ H tv tl Hd ps R _ fun c H1 s1 Hd1 ps1 h1 R1 => by
    cases c with
    | true => exact h1.1 rfl σ H1 tv tl Hd1 ps1 R1 Q k
    | false => exact k false H1 s1 Hd1 ps1 (h1.2 rfl) R1
theorem et_or {Φ : Bool → S → Prop} (h : ET K b tt s fun k s1 => (k = true → Φ true s1) ∧ (k = false → ET K b tu s1 Φ)) : ET K b (tOr tt tu) s Φ := fun σ H tv tl Hd ps R Q k =>
  h σ H tv tl Hd ps R _ fun c H1 s1 Hd1 ps1 h1 R1 => by
    cases c with
    | false => exact h1.2 rfl σ H1 tv tl Hd1 ps1 R1 Q k
    | true => exact k true H1 s1 Hd1 ps1 (h1.1 rfl) R1
theorem et_not {Φ : Bool → S → Prop} (h : ET K b tt s fun k s1 => Φ (!k) s1) : ET K b (tNot tt) s Φ := fun σ H tv tl Hd ps R Q k =>
  h σ H tv tl Hd ps R _ fun c H1 s1 Hd1 ps1 h1 R1 => k _ H1 s1 Hd1 ps1 h1 R1
theorem ev_andV (h : EV K b ta s fun a s1 => ∃ k, a = .d (.bool k) ∧ (k = true → EV K b tb s1 Φ) ∧ (k = false → Φ (.d (.bool false)) s1)) : EV K b (tAndV ta tb) s Φ := fun σ H tv tl Hd ps R Q k =>
  h σ H tv tl Hd ps R _ fun v H1 a s1 Hd1 ps1 h1 R1 a1 => by
    obtain ⟨c, rfl, q1, q2⟩ := h1
    cases a1
    refine ⟨c, rfl, ?_⟩
    cases c with
    | true => exact q1 rfl σ H1 tv tl Hd1 ps1 R1 Q k
    | false => exact k _ H1 _ s1 Hd1 ps1 (q2 rfl) R1 (.bl false)
theorem ev_orV (h : EV K b ta s fun a s1 => ∃ k, a = .d (.bool k) ∧ (k = true → Φ (.d (.bool true)) s1) ∧ (k = false → EV K b tb s1 Φ)) : EV K b (tOrV ta tb) s Φ := fun σ H tv tl Hd ps R Q k =>
  h σ H tv tl Hd ps R _ fun v H1 a s1 Hd1 ps1 h1 R1 a1 => by
    obtain ⟨c, rfl, q1, q2⟩ := h1
    cases a1
    refine ⟨c, rfl, ?_⟩
    cases c with
    | false => exact q2 rfl σ H1 tv tl Hd1 ps1 R1 Q k
    | true => exact k _ H1 _ s1 Hd1 ps1 (q1 rfl) R1 (.bl true)
theorem ev_notV (h : EV K b ta s fun a s1 => ∃ k, a = .d (.bool k) ∧ Φ (.d (.bool (!k))) s1) : EV K b (tNotV ta) s Φ := fun σ H tv tl Hd ps R Q k =>
  h σ H tv tl Hd ps R _ fun v H1 a s1 Hd1 ps1 h1 R1 a1 => by
    obtain ⟨c, rfl, q⟩ := h1
    cases a1
    exact ⟨c, rfl, k _ H1 _ s1 Hd1 ps1 q R1 (.bl _)⟩
theorem ev_chain {r r' : R2} (h : EV K b ta s fun x s1 => EV K b tb s1 fun y s2 => V2 K b r x y s2 fun z s3 => ∃ k, z = .d (.bool k) ∧ (k = true → EV K b tc s3 fun w s4 => V2 K b r' y w s4 Φ) ∧ (k = false → Φ (.d (.bool false)) s3)) :
    EV K b (tChain r r' ta tb tc) s Φ := fun σ H tv tl Hd ps R Q k =>
  h σ H tv tl Hd ps R _ fun v H1 x s1 Hd1 ps1 h1 R1 a1 => h1 σ H1 (v :: tv) (x :: tl) Hd1 ps1 (R1.push a1) _ fun w H2 y s2 Hd2 ps2 h2 R2 a2 => by
    refine h2 σ H2 (w :: tv) (y :: tl) Hd2 ps2 v w (R2.pop.1.push a2) R2.pop.2 a2 _ fun u H3 z s3 Hd3 ps3 h3 R3 a3 => ?_
    obtain ⟨c, rfl, q1, q2⟩ := h3
    cases a3
    refine ⟨c, rfl, ?_⟩
    cases c with
    | false => exact k _ H3 _ s3 Hd3 ps3 (q2 rfl) R3.pop.1 (.bl false)
    | true => exact q1 rfl σ H3 (w :: tv) (y :: tl) Hd3 ps3 R3 _ fun u' H4 z' s4 Hd4 ps4 h4 R4 a4 => h4 σ H4 tv tl Hd4 ps4 w u' R4.pop.1 R4.pop.2 a4 Q k
end
section
variable {K : PySem.W.Frag} {b : B} {s s1 : S} {te ta tb tc : TE} {tt tu : TT} {t : TA} {x y : A} {Φ Ψ : A → S → Prop} {r r' : R2}
/-! ### values -/
/-- a thing to be read: data, or an own list -/
def Vw (s : S) : A → PyData → Prop
  | .d x, y => x = y
  | .o k, y => ∃ xs, s.os[k]? = some (.lst xs) ∧ y = .list xs
  | .p _ _, _ => False
theorem vw_dr {b : B} {σ : L2.St} {H Hd : Hp} {tv : List V} {ta : List A} {ps : List Addr} (R : Rp K b s σ H tv ta Hd ps) {v : V} {d : PyData} : ∀ {a : A}, AR K Hd ps v a → Vw s a d → Dr K H v d
  | .d x, h, e => by
    cases e
    exact dp_up R.e1 _ _ h
  | .o k, ⟨p, hp, e⟩, ⟨xs, hk, e2⟩ => by
    subst e e2
    obtain ⟨_, vs, hv, ha⟩ := R.cl k _ p hk hp
    exact .lst hv (da_up R.e1 _ _ ha)
theorem v2_l (h : V2 K b r x y s Φ) : V2 K b (fun x y H Q => r x y H Q ∨ r' x y H Q) x y s Φ := fun σ H tv tl Hd ps v w R a1 a2 Q k => .inl (h σ H tv tl Hd ps v w R a1 a2 Q k)
theorem v2_r (h : V2 K b r' x y s Φ) : V2 K b (fun x y H Q => r x y H Q ∨ r' x y H Q) x y s Φ := fun σ H tv tl Hd ps v w R a1 a2 Q k => .inr (h σ H tv tl Hd ps v w R a1 a2 Q k)
theorem v2_ii {f : Int → Int → Int} {i j : Int} (q : Φ (.d (.int (f i j))) s) : V2 K b (rI0 fun i j => .int (f i j)) (.d (.int i)) (.d (.int j)) s Φ := fun σ H tv tl Hd ps v w R a1 a2 Q k => by
  cases a1; cases a2
  exact ⟨i, j, rfl, rfl, k _ H _ s Hd ps q R (.int _)⟩
theorem v2_ib {f : Int → Int → Bool} {i j : Int} (q : Φ (.d (.bool (f i j))) s) : V2 K b (rI0 fun i j => .bl (f i j)) (.d (.int i)) (.d (.int j)) s Φ := fun σ H tv tl Hd ps v w R a1 a2 Q k => by
  cases a1; cases a2
  exact ⟨i, j, rfl, rfl, k _ H _ s Hd ps q R (.bl _)⟩
theorem v2_ic {C : Int → Int → Prop} {f : Int → Int → Int} {i j : Int} (c : C i j) (q : Φ (.d (.int (f i j))) s) : V2 K b (rI C fun i j => .int (f i j)) (.d (.int i)) (.d (.int j)) s Φ := fun σ H tv tl Hd ps v w R a1 a2 Q k => by
  cases a1; cases a2
  exact ⟨i, j, rfl, rfl, c, k _ H _ s Hd ps q R (.int _)⟩
theorem v2_eq {d e : PyData} (h1 : Vw s x d) (h2 : Vw s y e) (z1 : SeqAt.shaped d = true) (z2 : SeqAt.shaped e = true) (q : Φ (.d (.bool (PyData.eqv d e))) s) : V2 K b (rEqD K) x y s Φ := fun σ H tv tl Hd ps v w R a1 a2 Q k =>
  ⟨d, e, Dr.dp _ _ (vw_dr R a1 h1), Dr.dp _ _ (vw_dr R a2 h2), z1, z2, k _ H _ s Hd ps q R (.bl _)⟩
theorem v2_ne {d e : PyData} (h1 : Vw s x d) (h2 : Vw s y e) (z1 : SeqAt.shaped d = true) (z2 : SeqAt.shaped e = true) (q : Φ (.d (.bool (!PyData.eqv d e))) s) : V2 K b (rNeD K) x y s Φ := fun σ H tv tl Hd ps v w R a1 a2 Q k =>
  ⟨d, e, Dr.dp _ _ (vw_dr R a1 h1), Dr.dp _ _ (vw_dr R a2 h2), z1, z2, k _ H _ s Hd ps q R (.bl _)⟩
def isNo : A → Bool
  | .d .none => true
  | _ => false
theorem non_iff {b : B} {σ : L2.St} {H Hd : Hp} {tv : List V} {ta : List A} {ps : List Addr} (R : Rp K b s σ H tv ta Hd ps) {v : V} : ∀ {a : A}, (∀ φ m, a ≠ .p φ m) → AR K Hd ps v a → decide (v = .non) = isNo a
  | .d x, _, h => by cases h <;> rfl
  | .o k, _, ⟨p, _, e⟩ => by subst e; rfl
  | .p φ m, n, _ => absurd rfl (n φ m)
theorem v2_isN (n : ∀ φ m, x ≠ .p φ m) (q : Φ (.d (.bool (isNo x))) s) : V2 K b (fun x y H Q => y = .non ∧ Q (.bl (decide (x = .non))) H) x (.d .none) s Φ := fun σ H tv tl Hd ps v w R a1 a2 Q k => by
  cases a2
  rw [non_iff R n a1]
  exact ⟨rfl, k _ H _ s Hd ps q R (.bl _)⟩
theorem v2_notN (n : ∀ φ m, x ≠ .p φ m) (q : Φ (.d (.bool (!isNo x))) s) : V2 K b (fun x y H Q => y = .non ∧ Q (.bl (!decide (x = .non))) H) x (.d .none) s Φ := fun σ H tv tl Hd ps v w R a1 a2 Q k => by
  cases a2
  rw [non_iff R n a1]
  exact ⟨rfl, k _ H _ s Hd ps q R (.bl _)⟩
theorem v2_addS {i j : Str} (hl : i.length + j.length ≤ sizeLine) (q : Φ (.d (.str (i ++ j))) s) : V2 K b (fun x y H Q => ∃ i j, x = .str i ∧ y = .str j ∧ i.length + j.length ≤ sizeLine ∧ Q (.str (i ++ j)) H) (.d (.str i)) (.d (.str j)) s Φ :=
  fun σ H tv tl Hd ps v w R a1 a2 Q k => by
    cases a1; cases a2
    exact ⟨i, j, rfl, rfl, hl, k _ H _ s Hd ps q R (.str _)⟩
/-- an item: of an own list, of data -/
theorem ixN_get {n : Nat} {i : Int} {j : Nat} (h : ixN n i = some j) : j < n := by
  unfold ixN at h
  split at h
  · split at h
    · cases h; omega
    · cases h
  · split at h
    · cases h; omega
    · cases h
theorem da_at {H : Hp} {vs : List V} {ds : List PyData} {i : Int} {z : PyData} (h : DrA K H vs ds) (e : atI ds i = some z) : ∃ v, atI vs i = some v ∧ Dr K H v z := by
  unfold atI at e ⊢
  rw [pair_len (da_paired h)]
  cases q : ixN ds.length i with
  | none => rw [q] at e; cases e
  | some j =>
    rw [q] at e
    obtain ⟨v, hv, hz⟩ := pair_get (da_paired h) (show ds[j]? = some z from e)
    exact ⟨v, hv, hz⟩
theorem v2_ixL {ds : List PyData} {i : Int} {z : PyData} (e : atI ds i = some z) (q : Φ (.d z) s) : V2 K b (rIx K) (.d (.list ds)) (.d (.int i)) s Φ := fun σ H tv tl Hd ps v w R a1 a2 Q k => by
  cases a2
  cases a1 with
  | lst hv ha =>
    obtain ⟨u, hu, hz⟩ := da_at ha e
    exact .inl ⟨_, _, i, u, rfl, rfl, .inl (.inl (R.e1 _ _ hv)), hu, k _ H _ s Hd ps q R hz⟩
theorem v2_ixT {ds : List PyData} {i : Int} {z : PyData} (e : atI ds i = some z) (q : Φ (.d z) s) : V2 K b (rIx K) (.d (.tuple ds)) (.d (.int i)) s Φ := fun σ H tv tl Hd ps v w R a1 a2 Q k => by
  cases a2
  cases a1 with
  | tup hv ha =>
    obtain ⟨u, hu, hz⟩ := da_at ha e
    exact .inr (.inl ⟨_, _, i, u, rfl, rfl, st_up R.e1 hv, hu, k _ H _ s Hd ps q R hz⟩)
theorem v2_ixO {n : Nat} {ds : List PyData} {i : Int} {z : PyData} (h : s.os[n]? = some (.lst ds)) (e : atI ds i = some z) (q : Φ (.d z) s) : V2 K b (rIx K) (.o n) (.d (.int i)) s Φ := fun σ H tv tl Hd ps v w R a1 a2 Q k => by
  cases a2
  obtain ⟨p, hp, rfl⟩ := a1
  obtain ⟨_, vs, hv, ha⟩ := R.cl n _ p h hp
  obtain ⟨u, hu, hz⟩ := da_at ha e
  exact .inl ⟨_, _, i, u, rfl, rfl, .inl (.inl hv), hu, k _ H _ s Hd ps q R hz⟩
theorem v2_ixS {t : Str} {i : Int} {c : Nat} (hl : t.length ≤ sizeLine) (e : atI t.cps.toList i = some c) (q : Φ (.d (.str ⟨#[c]⟩)) s) : V2 K b (rIx K) (.d (.str t)) (.d (.int i)) s Φ := fun σ H tv tl Hd ps v w R a1 a2 Q k => by
  cases a2; cases a1
  exact .inr (.inr ⟨t, i, c, rfl, rfl, hl, e, k _ H _ s Hd ps q R (.str _)⟩)
/-- lists joined: a new list, data or own -/
theorem vw_lst {b : B} {σ : L2.St} {H Hd : Hp} {tv : List V} {ta : List A} {ps : List Addr} (R : Rp K b s σ H tv ta Hd ps) {v : V} {ds : List PyData} {a : A} (h : AR K Hd ps v a) (e : Vw s a (.list ds)) :
    ∃ p vs, v = .ref p ∧ H p = some (.lst vs) ∧ DrA K Hd vs ds := by
  cases a with
  | d x =>
    cases e
    cases h with
    | lst hv ha => exact ⟨_, _, rfl, R.e1 _ _ hv, ha⟩
  | o k =>
    obtain ⟨xs, hk, e2⟩ := e
    cases e2
    obtain ⟨p, hp, rfl⟩ := h
    obtain ⟨_, vs, hv, ha⟩ := R.cl k _ p hk hp
    exact ⟨p, vs, rfl, hv, ha⟩
  | p _ _ => exact e.elim
theorem v2_cat {xs ys : List PyData} (h1 : Vw s x (.list xs)) (h2 : Vw s y (.list ys)) (hl : xs.length + ys.length ≤ sizeLine) (q : Φ (.d (.list (xs ++ ys))) s) : V2 K b rCat x y s Φ := fun σ H tv tl Hd ps v w R a1 a2 Q k => by
  obtain ⟨p, vs, rfl, hv, ha⟩ := vw_lst R a1 h1
  obtain ⟨p', ws, rfl, hw, hb⟩ := vw_lst R a2 h2
  refine ⟨p, p', vs, ws, rfl, rfl, hv, hw, by rw [pair_len (da_paired ha), pair_len (da_paired hb)]; exact hl, fun l hn => ?_⟩
  obtain ⟨R2, h2⟩ := R.newLst hn (vs := vs ++ ws) (xs := xs ++ ys) (by rw [List.map_append]; exact pair_app (ars_of_da ha) (ars_of_da hb))
  exact k _ _ _ _ _ _ q R2 h2
theorem v2_catO {xs ys : List PyData} (h1 : Vw s x (.list xs)) (h2 : Vw s y (.list ys)) (hl : xs.length + ys.length ≤ sizeLine) (q : Φ (.o s.os.length) (s.add (.lst (xs ++ ys)))) : V2 K b rCat x y s Φ := fun σ H tv tl Hd ps v w R a1 a2 Q k => by
  obtain ⟨p, vs, rfl, hv, ha⟩ := vw_lst R a1 h1
  obtain ⟨p', ws, rfl, hw, hb⟩ := vw_lst R a2 h2
  refine ⟨p, p', vs, ws, rfl, rfl, hv, hw, by rw [pair_len (da_paired ha), pair_len (da_paired hb)]; exact hl, fun l hn => ?_⟩
  obtain ⟨R2, h2⟩ := R.new (c := .lst (xs ++ ys)) (o := .lst (vs ++ ws)) hn ⟨none_of_same R.e1 hn, _, upd_same, paired_da (pair_app (da_paired ha) (da_paired hb))⟩
  exact k _ _ _ _ _ _ q R2 h2
theorem da_rep {H : Hp} {v : V} {d : PyData} (h : Dr K H v d) : ∀ n : Nat, DrA K H (List.replicate n v) (List.replicate n d)
  | 0 => .nil
  | n + 1 => .cons h (da_rep h n)
theorem da_flat {H : Hp} {vs : List V} {ds : List PyData} (h : DrA K H vs ds) : ∀ n : Nat, DrA K H (List.replicate n vs).flatten (List.replicate n ds).flatten
  | 0 => .nil
  | n + 1 => by
    rw [List.replicate_succ, List.flatten_cons, List.replicate_succ, List.flatten_cons]
    exact paired_da (pair_app (da_paired h) (da_paired (da_flat h n)))
theorem v2_rep {xs : List PyData} {n : Int} (h1 : Vw s x (.list xs)) (h0 : -(2 ^ 63) ≤ n) (h2 : n < 2 ^ 63) (hl : xs.length * n.toNat ≤ sizeLine) (q : Φ (.o s.os.length) (s.add (.lst (List.replicate n.toNat xs).flatten))) : V2 K b rRep x (.d (.int n)) s Φ := fun σ H tv tl Hd ps v w R a1 a2 Q k => by
  obtain ⟨p, vs, rfl, hv, ha⟩ := vw_lst R a1 h1
  cases a2
  refine ⟨p, n, vs, rfl, rfl, hv, h0, h2, by rw [pair_len (da_paired ha)]; exact hl, fun l hn => ?_⟩
  obtain ⟨R2, h2⟩ := R.new (c := .lst (List.replicate n.toNat xs).flatten) (o := .lst (List.replicate n.toNat vs).flatten) hn ⟨none_of_same R.e1 hn, _, upd_same, da_flat ha _⟩
  exact k _ _ _ _ _ _ q R2 h2
theorem v1_neg {i : Int} (q : Φ (.d (.int (-i))) s) : V1 K b (rU fun i => .int (-i)) (.d (.int i)) s Φ := fun σ H tv tl Hd ps v R a1 Q k => by
  cases a1
  exact ⟨i, rfl, k _ H _ s Hd ps q R (.int _)⟩
/-! calls of the built-ins -/
theorem vc_len {ds : List PyData} (h : Vw s x (.list ds) ∨ x = .d (.tuple ds)) (q : Φ (.d (.int ds.length)) s) : VC K b (fun xs H Q => ∃ x n, xs = [x] ∧ LenV K x H n ∧ Q (.int n) H) [x] s Φ := fun σ H tv tl Hd ps vs R a Q k => by
  cases a with
  | @cons v _ _ _ a1 t =>
    cases t
    rcases h with h | rfl
    · obtain ⟨p, vs, rfl, hv, ha⟩ := vw_lst R a1 h
      exact ⟨_, ds.length, rfl, .inl ⟨vs, .inl (.inl hv), (pair_len (da_paired ha)).symm⟩, k _ H _ s Hd ps q R (.int _)⟩
    · cases a1 with
      | tup hv ha => exact ⟨_, ds.length, rfl, .inr ⟨_, st_up R.e1 hv, (pair_len (da_paired ha)).symm⟩, k _ H _ s Hd ps q R (.int _)⟩
theorem vc_lenS {t : Str} (hl : t.length ≤ sizeLine) (q : Φ (.d (.int t.length)) s) : VC K b (fun xs H Q => ∃ x n, xs = [x] ∧ LenV K x H n ∧ Q (.int n) H) [.d (.str t)] s Φ := fun σ H tv tl Hd ps vs R a Q k => by
  cases a with
  | @cons v _ _ _ a1 t =>
    cases t
    cases a1
    exact ⟨_, _, rfl, ⟨hl, rfl⟩, k _ H _ s Hd ps q R (.int _)⟩
theorem vc_intI {i : Int} (q : Φ (.d (.int i)) s) : VC K b (fun xs H Q => (∃ i, xs = [.int i] ∧ Q (.int i) H) ∨ ∃ k, xs = [.bl k] ∧ Q (.int (if k then 1 else 0)) H) [.d (.int i)] s Φ := fun σ H tv tl Hd ps vs R a Q k => by
  cases a with
  | @cons v _ _ _ a1 t =>
    cases t
    cases a1
    exact .inl ⟨i, rfl, k _ H _ s Hd ps q R (.int _)⟩
theorem vc_intB {i : Bool} (q : Φ (.d (.int (if i then 1 else 0))) s) : VC K b (fun xs H Q => (∃ i, xs = [.int i] ∧ Q (.int i) H) ∨ ∃ k, xs = [.bl k] ∧ Q (.int (if k then 1 else 0)) H) [.d (.bool i)] s Φ := fun σ H tv tl Hd ps vs R a Q k => by
  cases a with
  | @cons v _ _ _ a1 t =>
    cases t
    cases a1
    exact .inr ⟨i, rfl, k _ H _ s Hd ps q R (.int _)⟩
theorem vc_abs {i : Int} (q : Φ (.d (.int (if i < 0 then -i else i))) s) : VC K b (fun xs H Q => ∃ i, xs = [.int i] ∧ Q (.int (if i < 0 then -i else i)) H) [.d (.int i)] s Φ := fun σ H tv tl Hd ps vs R a Q k => by
  cases a with
  | @cons v _ _ _ a1 t =>
    cases t
    cases a1
    exact ⟨i, rfl, k _ H _ s Hd ps q R (.int _)⟩
theorem vc_max2 {i j : Int} (q : Φ (.d (.int (if j > i then j else i))) s) : VC K b (fun xs H Q => ∃ i j, xs = [.int i, .int j] ∧ Q (.int (if j > i then j else i)) H) [.d (.int i), .d (.int j)] s Φ := fun σ H tv tl Hd ps vs R a Q k => by
  cases a with
  | @cons v _ _ _ a1 t =>
    cases t with
    | @cons v _ _ _ a2 t =>
      cases t
      cases a1; cases a2
      exact ⟨i, j, rfl, k _ H _ s Hd ps q R (.int _)⟩
/-- list(x): data | own -/
theorem vc_list {ds : List PyData} (h : Vw s x (.list ds) ∨ x = .d (.tuple ds)) (q : Φ (.d (.list ds)) s) :
    VC K b (fun xs H Q => ∃ p ys, xs = [.ref p] ∧ (SqL K H p ys ∨ SqT K H p ys) ∧ ∀ l, H l = none → Q (.ref l) (upd H l (.lst ys))) [x] s Φ := fun σ H tv tl Hd ps vs R a Q k => by
  cases a with
  | @cons v _ _ _ a1 t =>
    cases t
    obtain ⟨p, ys, rfl, hs, ha⟩ : ∃ p ys, v = .ref p ∧ (SqL K H p ys ∨ SqT K H p ys) ∧ DrA K Hd ys ds := by
      rcases h with h | rfl
      · obtain ⟨p, vs, rfl, hv, ha⟩ := vw_lst R a1 h
        exact ⟨p, vs, rfl, .inl (.inl (.inl hv)), ha⟩
      · cases a1 with
        | tup hv ha => exact ⟨_, _, rfl, .inr (st_up R.e1 hv), ha⟩
    refine ⟨p, ys, rfl, hs, fun l hn => ?_⟩
    obtain ⟨R2, h2⟩ := R.newLst hn (ars_of_da ha)
    exact k _ _ _ _ _ _ q R2 h2
theorem vc_listO {ds : List PyData} (h : Vw s x (.list ds) ∨ x = .d (.tuple ds)) (q : Φ (.o s.os.length) (s.add (.lst ds))) :
    VC K b (fun xs H Q => ∃ p ys, xs = [.ref p] ∧ (SqL K H p ys ∨ SqT K H p ys) ∧ ∀ l, H l = none → Q (.ref l) (upd H l (.lst ys))) [x] s Φ := fun σ H tv tl Hd ps vs R a Q k => by
  cases a with
  | @cons v _ _ _ a1 t =>
    cases t
    obtain ⟨p, ys, rfl, hs, ha⟩ : ∃ p ys, v = .ref p ∧ (SqL K H p ys ∨ SqT K H p ys) ∧ DrA K Hd ys ds := by
      rcases h with h | rfl
      · obtain ⟨p, vs, rfl, hv, ha⟩ := vw_lst R a1 h
        exact ⟨p, vs, rfl, .inl (.inl (.inl hv)), ha⟩
      · cases a1 with
        | tup hv ha => exact ⟨_, _, rfl, .inr (st_up R.e1 hv), ha⟩
    refine ⟨p, ys, rfl, hs, fun l hn => ?_⟩
    obtain ⟨R2, h2⟩ := R.new (c := .lst ds) (o := .lst ys) hn ⟨none_of_same R.e1 hn, _, upd_same, ha⟩
    exact k _ _ _ _ _ _ q R2 h2
end
/-! ### targets -/
def S.wp (s : S) (vs : List Nat) : S := ⟨vs.foldr (fun i l => l.set i none) s.ss, s.os⟩
section
variable {K : PySem.W.Frag} {b : B} {s s1 : S} {te ta tb tc : TE} {tt tu : TT} {t : TA} {x y : A} {Φ Ψ : A → S → Prop} {r r' : R2} {tx ty : TS} {N : EE} {g : TG}
theorem Rp.set {b : B} {σ : L2.St} {H Hd : Hp} {tv : List V} {ta : List A} {ps : List Addr} (R : Rp K b s σ H tv ta Hd ps) {v : V} {a : A} (h : AR K Hd ps v a) (i : Nat) : Rp K b (s.set i a) (σ.set i (some v)) H tv ta Hd ps :=
  ⟨R.e0, R.e1, R.e2, R.nw, R.pl, R.nd, R.p0, R.fr, R.ex, R.cl, fun j c hj => by
    by_cases e : j = i
    · subst e
      have hl : j < s.ss.length := by
        have := (List.getElem?_eq_some_iff.mp hj).1
        rw [show (s.set j a).ss = s.ss.set j (some a) from rfl, List.length_set] at this
        exact this
      rw [show (s.set j a).ss = s.ss.set j (some a) from rfl, List.getElem?_set_self hl] at hj
      cases hj
      exact ⟨v, List.getElem?_set_self (by rw [R.ln]; exact hl), h⟩
    · rw [show (s.set i a).ss = s.ss.set i (some a) from rfl, List.getElem?_set_ne (Ne.symm e)] at hj
      obtain ⟨w, hw, hc⟩ := R.sl j c hj
      exact ⟨w, by rw [List.getElem?_set_ne (Ne.symm e)]; exact hw, hc⟩, by rw [List.length_set, R.ln]; show _ = (s.ss.set i _).length; rw [List.length_set], R.tm⟩
theorem gt_name {i : Nat} {a : A} {N : S → Prop} (q : N (s.set i a)) : GT K b (gName i) a s N := fun σ H tv tl Hd ps v R h Q k => k _ H _ Hd ps q (R.set h i)
theorem gts_nil {N : S → Prop} (q : N s) : GTs K b gNil [] s N := fun σ H tv tl Hd ps vs R h Q k => by
  cases h
  exact ⟨rfl, k _ H _ Hd ps q R⟩
theorem gts_cons {g : TG} {u : TGs} {a : A} {as : List A} {N : S → Prop} (h : GT K b g a s fun s1 => GTs K b u as s1 N) : GTs K b (gCons g u) (a :: as) s N := fun σ H tv tl Hd ps vs R hv Q k => by
  cases hv with
  | @cons v _ ws _ h1 h2 =>
    refine ⟨v, ws, rfl, h σ H (ws ++ tv) (as ++ tl) Hd ps v (R.pushAll h2) h1 _ fun σ' H' s' Hd' ps' q R' => ?_⟩
    obtain ⟨R2, h3⟩ := R'.popAll (pair_len h2)
    exact q σ' H' tv tl Hd' ps' ws R2 h3 Q k
theorem gt_tup {n : Nat} {u : TGs} {ds : List PyData} {N : S → Prop} (hn : ds.length = n) (h : GTs K b u (ds.map A.d) s N) : GT K b (gTup K n u) (.d (.tuple ds)) s N := fun σ H tv tl Hd ps v R hv Q k => by
  cases hv with
  | tup hs ha => exact ⟨_, _, rfl, st_up R.e1 hs, by rw [pair_len (da_paired ha)]; exact hn, h σ H tv tl Hd ps _ R (ars_of_da ha) Q k⟩
/-- xs[i] = v, xs an own list -/
theorem gt_setL {to ti : TE} {a : A} {N : S → Prop} (h : EV K b to s fun o s1 => EV K b ti s1 fun i s2 => ∃ (n : Nat) (ds : List PyData) (j : Int) (m : Nat) (z : PyData), a = .d z ∧ o = .o n ∧ i = .d (.int j) ∧ s2.os[n]? = some (.lst ds) ∧ ixN ds.length j = some m ∧ N (s2.put n (.lst (ds.set m z)))) :
    GT K b (gSub to ti rSetL) a s N := fun σ H tv tl Hd ps v R hv Q k =>
  h σ H (v :: tv) (a :: tl) Hd ps (R.push hv) _ fun o H1 ao s1 Hd1 ps1 h1 R1 a1 => h1 σ H1 (o :: v :: tv) (ao :: a :: tl) Hd1 ps1 (R1.push a1) _ fun i H2 ai s2 Hd2 ps2 h2 R2 a2 => by
    obtain ⟨n, ds, j, m, z, rfl, rfl, rfl, ho, hj, q⟩ := h2
    obtain ⟨R3, a3⟩ := R2.pop
    obtain ⟨R4, a4⟩ := R3.pop
    cases a2
    obtain ⟨p, hp, rfl⟩ := a3
    obtain ⟨hn, vs, hv2, ha⟩ := R4.cl n _ p ho hp
    refine ⟨p, vs, j, m, rfl, rfl, hv2, by rw [pair_len (da_paired ha)]; exact hj, ?_⟩
    exact k _ _ _ _ _ q (R4.put ho hp (fun z => nomatch z) ⟨hn, _, upd_same, paired_da (pair_set (G := Dr K Hd2) a4 m (da_paired ha))⟩)

/-! ### statements -/
theorem Dk.then {b : B} {D : Ends} {tv : List V} {tl : List A} (k : Dk K b D N tv tl) (h : ∀ s1, GO K b ty s1 N → True := by intros; trivial) : Dk K b { D with nx := ty D } { N with nx := fun s1 => GO K b ty s1 N } tv tl :=
  ⟨fun σ H s Hd ps q R => q D σ H tv tl Hd ps R k, k.rt, k.bk, k.ct⟩
theorem go_seq (h : GO K b tx s { N with nx := fun s1 => GO K b ty s1 N }) : GO K b (tSeq tx ty) s N := fun D σ H tv tl Hd ps R k => h _ σ H tv tl Hd ps R k.then
theorem go_next (q : N.nx s) : GO K b tNext s N := fun D σ H tv tl Hd ps R k => k.nx σ H s Hd ps q R
theorem go_brk (q : N.bk s) : GO K b tBreak s N := fun D σ H tv tl Hd ps R k => k.bk σ H s Hd ps q R
theorem go_cont (q : N.ct s) : GO K b tCont s N := fun D σ H tv tl Hd ps R k => k.ct σ H s Hd ps q R
theorem go_asg (h : EV K b te s fun a s1 => GT K b g a s1 N.nx) : GO K b (tAsg te g) s N := fun D σ H tv tl Hd ps R k =>
  h σ H tv tl Hd ps R _ fun v H1 a s1 Hd1 ps1 h1 R1 a1 => h1 σ H1 tv tl Hd1 ps1 v R1 a1 _ fun σ' H' s' Hd' ps' q R' => k.nx σ' H' s' Hd' ps' q R'
theorem go_drop (h : EV K b te s fun _ s1 => N.nx s1) : GO K b (tDrop te) s N := fun D σ H tv tl Hd ps R k =>
  h σ H tv tl Hd ps R _ fun v H1 a s1 Hd1 ps1 h1 R1 _ => k.nx σ H1 s1 Hd1 ps1 h1 R1
theorem go_ret (h : EV K b te s N.rt) : GO K b (tRet te) s N := fun D σ H tv tl Hd ps R k =>
  h σ H tv tl Hd ps R _ fun v H1 a s1 Hd1 ps1 h1 R1 a1 => k.rt v σ H1 a s1 Hd1 ps1 h1 R1 a1
theorem go_retN (h : N.rt (.d .none) s) : GO K b tRetN s N := fun D σ H tv tl Hd ps R k => k.rt .non σ H _ s Hd ps h R .non
theorem go_if (h : ET K b tt s fun k s1 => (k = true → GO K b tx s1 N) ∧ (k = false → GO K b ty s1 N)) : GO K b (tIfS tt tx ty) s N := fun D σ H tv tl Hd ps R k =>
  h σ H tv tl Hd ps R _ fun c H1 s1 Hd1 ps1 h1 R1 => by
    cases c with
    | true => exact h1.1 rfl D σ H1 tv tl Hd1 ps1 R1 k
    | false => exact h1.2 rfl D σ H1 tv tl Hd1 ps1 R1 k
theorem go_mono {N' : EE} (h : GO K b tx s N) (h1 : ∀ s, N.nx s → N'.nx s) (h2 : ∀ a s, N.rt a s → N'.rt a s) (h3 : ∀ s, N.bk s → N'.bk s) (h4 : ∀ s, N.ct s → N'.ct s) : GO K b tx s N' := fun D σ H tv tl Hd ps R k =>
  h D σ H tv tl Hd ps R ⟨fun σ H s Hd ps q R => k.nx σ H s Hd ps (h1 _ q) R, fun v σ H a s Hd ps q R => k.rt v σ H a s Hd ps (h2 _ _ q) R, fun σ H s Hd ps q R => k.bk σ H s Hd ps (h3 _ q) R, fun σ H s Hd ps q R => k.ct σ H s Hd ps (h4 _ q) R⟩
theorem ev_mono {Φ' : A → S → Prop} (h : EV K b te s Φ) (m : ∀ a s, Φ a s → Φ' a s) : EV K b te s Φ' := fun σ H tv tl Hd ps R Q k => h σ H tv tl Hd ps R Q fun v H' a s' Hd' ps' q => k v H' a s' Hd' ps' (m _ _ q)
theorem et_mono {Φ Φ' : Bool → S → Prop} (h : ET K b tt s Φ) (m : ∀ a s, Φ a s → Φ' a s) : ET K b tt s Φ' := fun σ H tv tl Hd ps R Q k => h σ H tv tl Hd ps R Q fun v H' s' Hd' ps' q => k v H' s' Hd' ps' (m _ _ q)
/-- x += e, ints -/
theorem go_aug {i : Nat} {f : Int → Int → Int} {m : Int} (hi : s.ss[i]? = some (some (.d (.int m)))) (h : EV K b te s fun a s1 => ∃ n, a = .d (.int n) ∧ N.nx (s1.set i (.d (.int (f m n))))) : GO K b (tAug i te (ipI f)) s N := fun D σ H tv tl Hd ps R k => by
  obtain ⟨v, hv, ha⟩ := R.sl i _ hi
  cases ha
  refine ⟨_, hv, h σ H tv tl Hd ps R _ fun w H1 a s1 Hd1 ps1 h1 R1 a1 => ?_⟩
  obtain ⟨n, rfl, q⟩ := h1
  cases a1
  exact ⟨m, n, rfl, rfl, k.nx _ H1 _ Hd1 ps1 q (R1.set (a := .d (.int _)) (Dr.int _) i)⟩
/-- while -/
theorem go_while (I : Nat → S → Prop) (m0 : Nat) (h0 : I m0 s)
    (hs : ∀ m s1, I m s1 → ET K b tt s1 fun k s2 => (k = true → GO K b tx s2 ⟨fun s3 => ∃ m', m' < m ∧ I m' s3, N.rt, N.nx, fun s3 => ∃ m', m' < m ∧ I m' s3⟩) ∧ (k = false → N.nx s2)) : GO K b (tWhile tt tx) s N := fun D σ H tv tl Hd ps R k => by
  refine ⟨fun m σ H => ∃ s1 Hd ps, I m s1 ∧ Rp K b s1 σ H tv tl Hd ps, ⟨m0, s, Hd, ps, h0, R⟩, fun m σ H hW => ?_⟩
  obtain ⟨s1, Hd, ps, hi, R⟩ := hW
  refine hs m s1 hi σ H tv tl Hd ps R _ fun c H1 s2 Hd1 ps1 h1 R1 => ?_
  cases c with
  | true =>
    refine ⟨fun σ H => ∃ m', m' < m ∧ ∃ s1 Hd ps, I m' s1 ∧ Rp K b s1 σ H tv tl Hd ps, fun σ' H' q => q, ?_⟩
    exact h1.1 rfl _ σ H1 tv tl Hd1 ps1 R1 ⟨fun σ H s3 Hd ps ⟨m', l, q⟩ R => ⟨m', l, s3, Hd, ps, q, R⟩, k.rt, k.nx, fun σ H s3 Hd ps ⟨m', l, q⟩ R => ⟨m', l, s3, Hd, ps, q, R⟩⟩
  | false => exact k.nx σ H1 s2 Hd1 ps1 (h1.2 rfl) R1
/-! methods of lists -/
theorem ev_bmL {rm : V → List V → Hp → VK → Prop} (h : EV K b te s fun x s1 => (∃ n ds, x = .o n ∧ s1.os[n]? = some (.lst ds)) ∧ EA K b t s1 fun as s2 => VM K b rm x as s2 Φ) : EV K b (tBM K "list" rm te t) s Φ := fun σ H tv tl Hd ps R Q k =>
  h σ H tv tl Hd ps R _ fun v H1 x s1 Hd1 ps1 h1 R1 a1 => by
    obtain ⟨⟨n, ds, rfl, hn⟩, h1⟩ := h1
    refine ⟨?_, h1 σ H1 (v :: tv) (.o n :: tl) Hd1 ps1 (R1.push a1) _ fun vs H2 as s2 Hd2 ps2 h2 R2 a2 => h2 σ H2 tv tl Hd2 ps2 v vs R2.pop.1 R2.pop.2 a2 Q k⟩
    obtain ⟨p, hp, rfl⟩ := a1
    obtain ⟨_, vs, hv, ha⟩ := R1.cl n _ p hn hp
    exact .inl ⟨rfl, vs, .inl (.inl hv)⟩
theorem ev_bmL0 {rm : V → List V → Hp → VK → Prop} (h : EV K b te s fun x s1 => (∃ n ds, x = .o n ∧ s1.os[n]? = some (.lst ds)) ∧ VM K b rm x [] s1 Φ) : EV K b (tBM0 K "list" rm te) s Φ := fun σ H tv tl Hd ps R Q k =>
  h σ H tv tl Hd ps R _ fun v H1 x s1 Hd1 ps1 h1 R1 a1 => by
    obtain ⟨⟨n, ds, rfl, hn⟩, h1⟩ := h1
    refine ⟨?_, h1 σ H1 tv tl Hd1 ps1 v [] R1 a1 .nil Q k⟩
    obtain ⟨p, hp, rfl⟩ := a1
    obtain ⟨_, vs, hv, ha⟩ := R1.cl n _ p hn hp
    exact .inl ⟨rfl, vs, .inl (.inl hv)⟩
theorem vm_append {n : Nat} {ds : List PyData} {z : PyData} (h : s.os[n]? = some (.lst ds)) (hl : ds.length < sizeLine) (q : Φ (.d .none) (s.put n (.lst (ds ++ [z])))) : VM K b rAppend (.o n) [.d z] s Φ := fun σ H tv tl Hd ps v vs R a1 a2 Q k => by
  cases a2 with
  | @cons w _ _ _ c1 c2 =>
  cases c2
  obtain ⟨p, hp, rfl⟩ := a1
  obtain ⟨hn, ws, hw, ha⟩ := R.cl n _ p h hp
  refine ⟨p, ws, w, rfl, rfl, hw, by rw [pair_len (da_paired ha)]; exact hl, ?_⟩
  exact k _ _ _ _ _ _ q (R.put h hp (fun z => nomatch z) ⟨hn, _, upd_same, paired_da (pair_app (da_paired ha) (.cons c1 .nil))⟩) .non
theorem vm_pop {n : Nat} {ds : List PyData} {z : PyData} (h : s.os[n]? = some (.lst ds)) (hz : ds[ds.length - 1]? = some z) (q : Φ (.d z) (s.put n (.lst ds.dropLast))) : VM K b rPop (.o n) [] s Φ := fun σ H tv tl Hd ps v vs R a1 a2 Q k => by
  cases a2
  obtain ⟨p, hp, rfl⟩ := a1
  obtain ⟨hn, ws, hw, ha⟩ := R.cl n _ p h hp
  have hlen := pair_len (da_paired ha)
  obtain ⟨w, hw1, hw2⟩ := pair_get (da_paired ha) hz
  refine ⟨p, ws, w, rfl, rfl, hw, by rw [hlen]; exact hw1, ?_⟩
  refine k _ _ _ _ _ _ q (R.put h hp (fun z => nomatch z) ⟨hn, _, upd_same, ?_⟩) hw2
  rw [List.dropLast_eq_take, List.dropLast_eq_take, hlen]
  exact paired_da (pair_take _ (da_paired ha))
theorem pair_erase {α β : Type} {G : α → β → Prop} : ∀ {xs : List α} {ys : List β} (n : Nat), Paired G xs ys → Paired G (xs.eraseIdx n) (ys.eraseIdx n)
  | _, _, _, .nil => .nil
  | _, _, 0, .cons _ t => t
  | _, _, n + 1, .cons r t => .cons r (pair_erase n t)
theorem vm_popAt {n : Nat} {ds : List PyData} {z : PyData} {i : Int} {m : Nat} (h : s.os[n]? = some (.lst ds)) (i0 : -(2 ^ 63) ≤ i) (i1 : i < 2 ^ 63) (hm : seqIndex? i ds.length = some m) (hz : ds[m]? = some z) (q : Φ (.d z) (s.put n (.lst (ds.eraseIdx m)))) :
    VM K b rPopAt (.o n) [.d (.int i)] s Φ := fun σ H tv tl Hd ps v vs R a1 a2 Q k => by
  cases a2 with
  | @cons w _ _ _ c1 c2 =>
  cases c2
  cases c1
  obtain ⟨p, hp, rfl⟩ := a1
  obtain ⟨hn, ws, hw, ha⟩ := R.cl n _ p h hp
  obtain ⟨u, hw1, hw2⟩ := pair_get (da_paired ha) hz
  refine ⟨p, ws, i, m, u, rfl, rfl, hw, i0, i1, by rw [pair_len (da_paired ha)]; exact hm, hw1, ?_⟩
  exact k _ _ _ _ _ _ q (R.put h hp (fun z => nomatch z) ⟨hn, _, upd_same, paired_da (pair_erase m (da_paired ha))⟩) hw2
theorem vm_clear {n : Nat} {ds : List PyData} (h : s.os[n]? = some (.lst ds)) (q : Φ (.d .none) (s.put n (.lst []))) : VM K b rClear (.o n) [] s Φ := fun σ H tv tl Hd ps v vs R a1 a2 Q k => by
  cases a2
  obtain ⟨p, hp, rfl⟩ := a1
  obtain ⟨hn, ws, hw, ha⟩ := R.cl n _ p h hp
  exact ⟨p, ws, rfl, rfl, hw, k _ _ _ _ _ _ q (R.put h hp (fun z => nomatch z) ⟨hn, _, upd_same, .nil⟩) .non⟩
/-! slices -/
theorem eo_none {Φ : Option Int → S → Prop} (q : Φ none s) : EO K b tNoPart s Φ := fun σ H tv tl Hd ps R Q k => k none H s Hd ps q R
theorem eo_some {Φ : Option Int → S → Prop} (h : EV K b te s fun a s1 => ∃ i, a = .d (.int i) ∧ Φ (some i) s1) : EO K b (tPart te) s Φ := fun σ H tv tl Hd ps R Q k =>
  h σ H tv tl Hd ps R _ fun v H1 a s1 Hd1 ps1 h1 R1 a1 => by
    obtain ⟨i, rfl, q⟩ := h1
    cases a1
    exact ⟨i, rfl, k _ H1 s1 Hd1 ps1 q R1⟩
def cutD (xs : List PyData) (lo hi : Option Int) : List PyData := (xs.drop (HT.sIx xs.length 0 lo)).take (HT.sIx xs.length xs.length hi - HT.sIx xs.length 0 lo)
theorem da_cut {H : Hp} {vs : List V} {ds : List PyData} (h : DrA K H vs ds) (lo hi : Option Int) : DrA K H (cutV vs lo hi) (cutD ds lo hi) := by
  unfold cutV cutD
  rw [pair_len (da_paired h)]
  exact paired_da (pair_take _ (pair_drop _ (da_paired h)))
theorem ev_slL {tlo thi : TO} (h : EV K b te s fun x s1 => EO K b tlo s1 fun lo s2 => EO K b thi s2 fun hi s3 => ∃ ds, Vw s3 x (.list ds) ∧ Φ (.d (.list (cutD ds lo hi))) s3) : EV K b (tSl (rSlL K) te tlo thi) s Φ := fun σ H tv tl Hd ps R Q k =>
  h σ H tv tl Hd ps R _ fun v H1 x s1 Hd1 ps1 h1 R1 a1 => h1 σ H1 (v :: tv) (x :: tl) Hd1 ps1 (R1.push a1) _ fun lo H2 s2 Hd2 ps2 h2 R2 => h2 σ H2 (v :: tv) (x :: tl) Hd2 ps2 R2 _ fun hi H3 s3 Hd3 ps3 h3 R3 => by
    obtain ⟨ds, e, q⟩ := h3
    obtain ⟨R4, a4⟩ := R3.pop
    obtain ⟨p, vs, rfl, hv, ha⟩ := vw_lst R4 a4 e
    refine ⟨p, vs, rfl, .inl (.inl hv), fun l hn => ?_⟩
    obtain ⟨R5, a5⟩ := R4.newLst hn (ars_of_da (da_cut ha lo hi))
    exact k _ _ _ _ _ _ q R5 a5
theorem ev_slLO {tlo thi : TO} (h : EV K b te s fun x s1 => EO K b tlo s1 fun lo s2 => EO K b thi s2 fun hi s3 => ∃ ds, Vw s3 x (.list ds) ∧ Φ (.o s3.os.length) (s3.add (.lst (cutD ds lo hi)))) : EV K b (tSl (rSlL K) te tlo thi) s Φ := fun σ H tv tl Hd ps R Q k =>
  h σ H tv tl Hd ps R _ fun v H1 x s1 Hd1 ps1 h1 R1 a1 => h1 σ H1 (v :: tv) (x :: tl) Hd1 ps1 (R1.push a1) _ fun lo H2 s2 Hd2 ps2 h2 R2 => h2 σ H2 (v :: tv) (x :: tl) Hd2 ps2 R2 _ fun hi H3 s3 Hd3 ps3 h3 R3 => by
    obtain ⟨ds, e, q⟩ := h3
    obtain ⟨R4, a4⟩ := R3.pop
    obtain ⟨p, vs, rfl, hv, ha⟩ := vw_lst R4 a4 e
    refine ⟨p, vs, rfl, .inl (.inl hv), fun l hn => ?_⟩
    obtain ⟨R5, a5⟩ := R4.new (c := .lst (cutD ds lo hi)) (o := .lst (cutV vs lo hi)) hn ⟨none_of_same R4.e1 hn, _, upd_same, da_cut ha lo hi⟩
    exact k _ _ _ _ _ _ q R5 a5
end
/-! ### what is walked -/
/-- the walk J yields ds, as long as Pc holds; tx, ax: the temporary that keeps it -/
structure Jok (K : PySem.W.Frag) (J : It) (ds : List PyData) (Pc : List C → Prop) (tx : V) (ax : A) : Prop where
  go : ∀ b s σ H tv ta Hd ps i x, Rp K b s σ H (tx :: tv) (ax :: ta) Hd ps → Pc s.os → ds[i]? = some x → J.go i H ∧ ∀ v H', J.yld i H v H' → ∃ Hd', Rp K b s σ H' (tx :: tv) (ax :: ta) Hd' ps ∧ AR K Hd' ps v (.d x)
  stop : ∀ b s σ H tv ta Hd ps, Rp K b s σ H (tx :: tv) (ax :: ta) Hd ps → Pc s.os → J.stop ds.length H
def EI (K : PySem.W.Frag) (b : B) (wi : TI) (s : S) (Φ : List PyData → (List C → Prop) → S → Prop) : Prop := ∀ σ H tv ta Hd ps, Rp K b s σ H tv ta Hd ps → ∀ R : It → Hp → Prop,
  (∀ J H' ds Pc s' Hd' ps' tx ax, Φ ds Pc s' → Rp K b s' σ H' (tx :: tv) (ax :: ta) Hd' ps' → Jok K J ds Pc tx ax → R J H') → wi σ H R
section
variable {K : PySem.W.Frag} {b : B} {s s1 : S} {te ta tb tc : TE} {tt tu : TT} {t : TA} {x y : A} {Φ Ψ : A → S → Prop} {r r' : R2} {tx ty : TS} {N : EE} {g : TG} {Ξ : List PyData → (List C → Prop) → S → Prop}
theorem ei_list (h : EV K b te s fun a s1 => ∃ ds Pc, (a = .d (.list ds) ∨ ∃ n, a = .o n ∧ ∀ o, Pc o → o[n]? = some (.lst ds)) ∧ Pc s1.os ∧ Ξ ds Pc s1) : EI K b (iList K te) s Ξ := fun σ H tv tl Hd ps R Q k =>
  h σ H tv tl Hd ps R _ fun v H1 a s1 Hd1 ps1 h1 R1 a1 => by
    obtain ⟨ds, Pc, hc, hp, q⟩ := h1
    have key : ∀ b s σ H tv ta Hd ps, Rp K b s σ H (v :: tv) (a :: ta) Hd ps → Pc s.os → ∃ p vs, v = .ref p ∧ H p = some (.lst vs) ∧ DrA K Hd vs ds := fun b s σ H tv ta Hd ps R h => by
      obtain ⟨R, a2⟩ := R.pop
      rcases hc with rfl | ⟨n, rfl, hn⟩
      · exact vw_lst R a2 rfl
      · exact vw_lst R a2 ⟨ds, hn _ h, rfl⟩
    obtain ⟨p, vs, rfl, hv, ha⟩ := key b s1 σ H1 tv tl Hd1 ps1 (R1.push a1) hp
    refine ⟨p, rfl, ⟨vs, .inl (.inl hv)⟩, k _ H1 ds Pc s1 Hd1 ps1 _ _ q (R1.push a1) ⟨fun b s σ H tv ta Hd ps i x R h hx => ?_, fun b s σ H tv ta Hd ps R h => ?_⟩⟩
    · obtain ⟨p', ws, e, hw, hb⟩ := key b s σ H tv ta Hd ps R h
      cases e
      obtain ⟨w, hw1, hw2⟩ := pair_get (da_paired hb) hx
      have hq : SqL K H p ws := .inl (.inl hw)
      refine ⟨⟨ws, w, hq, hw1⟩, fun u H' hy => ?_⟩
      obtain ⟨rfl, hu⟩ := hy
      have e : u = w := Option.some.inj ((hu ws hq).symm.trans hw1)
      subst e
      exact ⟨Hd, R, hw2⟩
    · obtain ⟨p', ws, e, hw, hb⟩ := key b s σ H tv ta Hd ps R h
      cases e
      exact ⟨ws, .inl (.inl hw), by rw [pair_len (da_paired hb)]; exact Nat.le_refl _⟩
theorem ei_tup (h : EV K b te s fun a s1 => ∃ ds, a = .d (.tuple ds) ∧ Ξ ds (fun _ => True) s1) : EI K b (iTup K te) s Ξ := fun σ H tv tl Hd ps R Q k =>
  h σ H tv tl Hd ps R _ fun v H1 a s1 Hd1 ps1 h1 R1 a1 => by
    obtain ⟨ds, rfl, q⟩ := h1
    have key : ∀ b s σ H tv ta Hd ps, Rp K b s σ H (v :: tv) (.d (.tuple ds) :: ta) Hd ps → ∃ p vs, v = .ref p ∧ SqT K H p vs ∧ DrA K Hd vs ds := fun b s σ H tv ta Hd ps R => by
      obtain ⟨R, a2⟩ := R.pop
      cases a2 with
      | tup hv ha => exact ⟨_, _, rfl, st_up R.e1 hv, ha⟩
    obtain ⟨p, vs, rfl, hv, ha⟩ := key b s1 σ H1 tv tl Hd1 ps1 (R1.push a1)
    refine ⟨p, rfl, ⟨vs, hv⟩, k _ H1 ds _ s1 Hd1 ps1 _ _ q (R1.push a1) ⟨fun b s σ H tv ta Hd ps i x R h hx => ?_, fun b s σ H tv ta Hd ps R h => ?_⟩⟩
    · obtain ⟨p', ws, e, hw, hb⟩ := key b s σ H tv ta Hd ps R
      cases e
      obtain ⟨w, hw1, hw2⟩ := pair_get (da_paired hb) hx
      refine ⟨⟨ws, w, hw, hw1⟩, fun u H' hy => ?_⟩
      obtain ⟨rfl, hu⟩ := hy
      have e : u = w := Option.some.inj ((hu ws hw).symm.trans hw1)
      subst e
      exact ⟨Hd, R, hw2⟩
    · obtain ⟨p', ws, e, hw, hb⟩ := key b s σ H tv ta Hd ps R
      cases e
      exact ⟨ws, hw, by rw [pair_len (da_paired hb)]; exact Nat.le_refl _⟩
def rngD (lo : Int) (n : Nat) : List PyData := (List.range n).map fun (i : Nat) => .int (lo + (i : Int))
theorem rngD_len (lo : Int) (n : Nat) : (rngD lo n).length = n := by simp [rngD]
theorem rngD_get {lo : Int} {n i : Nat} {x : PyData} (h : (rngD lo n)[i]? = some x) : i < n ∧ x = .int (lo + i) := by
  have hl : i < n := by
    have := (List.getElem?_eq_some_iff.mp h).1
    rw [rngD_len] at this
    exact this
  refine ⟨hl, ?_⟩
  simp [rngD, hl] at h
  exact h.symm
theorem jok_rng {lo : Int} {n : Nat} : Jok K (Itr lo n) (rngD lo n) (fun _ => True) .non (.d .none) :=
  ⟨fun b s σ H tv ta Hd ps i x R _ hx => by
    obtain ⟨hl, rfl⟩ := rngD_get hx
    refine ⟨hl, fun v H' hy => ?_⟩
    obtain ⟨rfl, rfl⟩ := hy
    exact ⟨Hd, R, .int _⟩, fun b s σ H tv ta Hd ps R _ => by rw [rngD_len]; exact Nat.le_refl n⟩
theorem ei_r1 (h : EA K b t s fun as s1 => ∃ n : Int, as = [.d (.int n)] ∧ -(2 ^ 62) ≤ n ∧ n < 2 ^ 62 ∧ Ξ (rngD 0 n.toNat) (fun _ => True) s1) : EI K b (iRng1 t) s Ξ := fun σ H tv tl Hd ps R Q k =>
  h σ H tv tl Hd ps R _ fun vs H1 as s1 Hd1 ps1 h1 R1 a1 => by
    obtain ⟨n, rfl, n1, n2, q⟩ := h1
    cases a1 with
    | cons c1 c2 =>
    cases c2
    cases c1
    exact ⟨n, rfl, n1, n2, k _ H1 _ _ s1 Hd1 ps1 .non (.d .none) q (R1.push (a := .d .none) Dr.non) jok_rng⟩
theorem ei_r2 (h : EA K b t s fun as s1 => ∃ lo n : Int, as = [.d (.int lo), .d (.int n)] ∧ (-(2 ^ 62) ≤ lo ∧ lo < 2 ^ 62 ∧ -(2 ^ 62) ≤ n ∧ n < 2 ^ 62) ∧ Ξ (rngD lo (n - lo).toNat) (fun _ => True) s1) : EI K b (iRng2 t) s Ξ := fun σ H tv tl Hd ps R Q k =>
  h σ H tv tl Hd ps R _ fun vs H1 as s1 Hd1 ps1 h1 R1 a1 => by
    obtain ⟨lo, n, rfl, n1, q⟩ := h1
    cases a1 with
    | cons c1 c2 =>
    cases c2 with
    | cons c2 c3 =>
    cases c3
    cases c1
    cases c2
    exact ⟨lo, n, rfl, n1, k _ H1 _ _ s1 Hd1 ps1 .non (.d .none) q (R1.push (a := .d .none) Dr.non) jok_rng⟩
def enumD (ds : List PyData) : List PyData := ds.mapIdx fun i x => .tuple [.int (i : Nat), x]
theorem ei_enum (h : EA K b t s fun as s1 => ∃ a ds Pc, as = [a] ∧ (a = .d (.list ds) ∨ ∃ n, a = .o n ∧ ∀ o, Pc o → o[n]? = some (.lst ds)) ∧ Pc s1.os ∧ Ξ (enumD ds) Pc s1) : EI K b (iEnum K t) s Ξ := fun σ H tv tl Hd ps R Q k =>
  h σ H tv tl Hd ps R _ fun vs H1 as s1 Hd1 ps1 h1 R1 a1 => by
    obtain ⟨a, ds, Pc, rfl, hc, hp, q⟩ := h1
    cases a1 with
    | @cons v _ _ _ c1 c2 =>
    cases c2
    have key : ∀ b s σ H tv ta Hd ps, Rp K b s σ H (v :: tv) (a :: ta) Hd ps → Pc s.os → ∃ p vs, v = .ref p ∧ H p = some (.lst vs) ∧ DrA K Hd vs ds := fun b s σ H tv ta Hd ps R h => by
      obtain ⟨R, a2⟩ := R.pop
      rcases hc with rfl | ⟨n, rfl, hn⟩
      · exact vw_lst R a2 rfl
      · exact vw_lst R a2 ⟨ds, hn _ h, rfl⟩
    obtain ⟨p, vs, rfl, hv, ha⟩ := key b s1 σ H1 tv tl Hd1 ps1 (R1.push c1) hp
    refine ⟨p, vs, rfl, .inl (.inl hv), k _ H1 _ Pc s1 Hd1 ps1 _ _ q (R1.push c1) ⟨fun b s σ H tv ta Hd ps i x R h hx => ?_, fun b s σ H tv ta Hd ps R h => ?_⟩⟩
    · obtain ⟨p', ws, e, hw, hb⟩ := key b s σ H tv ta Hd ps R h
      cases e
      have hi : i < ds.length := by
        have := (List.getElem?_eq_some_iff.mp hx).1
        rw [enumD, List.length_mapIdx] at this
        exact this
      have hx' : x = .tuple [.int (i : Nat), ds[i]] := by
        rw [enumD, List.getElem?_mapIdx, List.getElem?_eq_getElem hi] at hx
        exact (Option.some.inj hx).symm
      obtain ⟨w, hw1, hw2⟩ := pair_get (da_paired hb) (show ds[i]? = some ds[i] from List.getElem?_eq_getElem hi)
      have hq : SqL K H p ws := .inl (.inl hw)
      refine ⟨⟨ws, w, hq, hw1⟩, fun u H' hy => ?_⟩
      obtain ⟨T, z, rfl, hT, rfl, hz⟩ := hy
      have e : z = w := Option.some.inj ((hz ws hq).symm.trans hw1)
      subst e
      obtain ⟨R2, a2⟩ := R.newTup hT (vs := [.int (i : Nat), z]) (xs := [.int (i : Nat), ds[i]]) (.cons (Dr.int _) (.cons hw2 .nil))
      exact ⟨_, R2, by rw [hx']; exact a2⟩
    · obtain ⟨p', ws, e, hw, hb⟩ := key b s σ H tv ta Hd ps R h
      cases e
      exact ⟨ws, .inl (.inl hw), by rw [pair_len (da_paired hb), enumD, List.length_mapIdx]; exact Nat.le_refl _⟩
def signsD (t : Str) : List PyData := t.cps.toList.map fun c => .str ⟨#[c]⟩
theorem ei_str (h : EV K b te s fun a s1 => ∃ t, a = .d (.str t) ∧ Ξ (signsD t) (fun _ => True) s1) : EI K b (iStr te) s Ξ := fun σ H tv tl Hd ps R Q k =>
  h σ H tv tl Hd ps R _ fun v H1 a s1 Hd1 ps1 h1 R1 a1 => by
    obtain ⟨t, rfl, q⟩ := h1
    cases a1
    refine ⟨t, rfl, k _ H1 _ _ s1 Hd1 ps1 .non (.d .none) q (R1.push (a := .d .none) Dr.non) ⟨fun b s σ H tv ta Hd ps i x R _ hx => ?_, fun b s σ H tv ta Hd ps R _ => ?_⟩⟩
    · have hi : i < t.cps.size := by
        have := (List.getElem?_eq_some_iff.mp hx).1
        simpa [signsD] using this
      refine ⟨hi, fun u H' hy => ?_⟩
      obtain ⟨rfl, c, hc, rfl⟩ := hy
      have e : x = .str ⟨#[c]⟩ := by
        simp [signsD] at hx
        obtain ⟨c', h1, h2⟩ := hx
        rw [hc] at h1
        cases h1
        exact h2.symm
      exact ⟨Hd, R, by rw [e]; exact Dr.str _⟩
    · show t.cps.size ≤ _
      simp [signsD]
/-- for: I holds ahead of turn i -/
theorem go_for {wi : TI} (h : EI K b wi s fun ds Pc s1 => ∃ I : Nat → S → Prop, I 0 s1 ∧ (∀ i s2, i ≤ ds.length → I i s2 → Pc s2.os) ∧
      (∀ i x s2, ds[i]? = some x → I i s2 → GT K b g (.d x) s2 fun s3 => GO K b tx s3 ⟨I (i + 1), N.rt, N.nx, I (i + 1)⟩) ∧ ∀ s2, I ds.length s2 → N.nx s2) : GO K b (tFor wi g tx) s N := fun D σ H tv tl Hd ps R k =>
  h σ H tv tl Hd ps R _ fun J H1 ds Pc s1 Hd1 ps1 tx' ax h1 R1 jk => by
    obtain ⟨I, h0, hp, hs, hd⟩ := h1
    refine ⟨fun i m σ H => m = ds.length - i ∧ i ≤ ds.length ∧ ∃ s2 Hd2 ps2, I i s2 ∧ Rp K b s2 σ H (tx' :: tv) (ax :: tl) Hd2 ps2, ⟨ds.length, by simp, Nat.zero_le _, s1, Hd1, ps1, h0, R1⟩, fun i m σ H hW => ?_⟩
    obtain ⟨rfl, hi, s2, Hd2, ps2, q, R2⟩ := hW
    by_cases hlt : i < ds.length
    · have hx : ds[i]? = some ds[i] := List.getElem?_eq_getElem hlt
      obtain ⟨g1, g2⟩ := jk.go b s2 σ H tv tl Hd2 ps2 i _ R2 (hp i s2 hi q) hx
      refine .inr ⟨g1, fun σ H => ∃ s2 Hd2 ps2, I (i + 1) s2 ∧ Rp K b s2 σ H (tx' :: tv) (ax :: tl) Hd2 ps2, fun σ' H' q' => ⟨ds.length - (i + 1), by omega, rfl, hlt, q'⟩, fun v H' hy => ?_⟩
      obtain ⟨Hd3, R3, a3⟩ := g2 v H' hy
      refine hs i _ s2 hx q σ H' (tx' :: tv) (ax :: tl) Hd3 ps2 v R3 a3 _ fun σ' H' s' Hd' ps' g R' => ?_
      exact g _ σ' H' _ _ Hd' ps' R' ⟨fun σ H s Hd ps q R => ⟨s, Hd, ps, q, R⟩, fun v σ H a s Hd ps q R ha => k.rt v σ H a s Hd ps q R.pop.1 ha, fun σ H s Hd ps q R => k.nx σ H s Hd ps q R.pop.1, fun σ H s Hd ps q R => ⟨s, Hd, ps, q, R⟩⟩
    · have e : i = ds.length := by omega
      subst e
      exact .inl ⟨jk.stop b s2 σ H tv tl Hd2 ps2 R2 (hp _ s2 hi q), k.nx σ H s2 Hd2 ps2 (hd s2 q) R2.pop.1⟩
/-! comprehensions -/
def Tg (js : List Nat) (g : TG) : Prop := ∀ v σ H Q, g v σ H Q → g v σ H fun σ' H' => Q σ' H' ∧ σ'.length = σ.length ∧ ∀ i, i ∉ js → σ'[i]? = σ[i]?
def Tgs (js : List Nat) (g : TGs) : Prop := ∀ v σ H Q, g v σ H Q → g v σ H fun σ' H' => Q σ' H' ∧ σ'.length = σ.length ∧ ∀ i, i ∉ js → σ'[i]? = σ[i]?
theorem tg_name {js : List Nat} {j : Nat} (h : j ∈ js) : Tg js (gName j) := fun v σ H Q q => ⟨q, List.length_set, fun i hi => List.getElem?_set_ne (fun e => hi (by rw [← e]; exact h))⟩
theorem tg_nil {js : List Nat} : Tgs js gNil := fun v σ H Q q => ⟨q.1, q.2, rfl, fun _ _ => rfl⟩
theorem Tg.mono {js : List Nat} {g : TG} (h : Tg js g) (m : ∀ v σ H (Q Q' : L2.St → Hp → Prop), (∀ σ H, Q σ H → Q' σ H) → g v σ H Q → g v σ H Q') : True := trivial
def Mg (g : TG) : Prop := ∀ v σ H (Q Q' : L2.St → Hp → Prop), (∀ σ H, Q σ H → Q' σ H) → g v σ H Q → g v σ H Q'
def Mgs (g : TGs) : Prop := ∀ v σ H (Q Q' : L2.St → Hp → Prop), (∀ σ H, Q σ H → Q' σ H) → g v σ H Q → g v σ H Q'
theorem mg_name {j : Nat} : Mg (gName j) := fun _ _ _ _ _ m q => m _ _ q
theorem mg_nil : Mgs gNil := fun _ _ _ _ _ m q => ⟨q.1, m _ _ q.2⟩
theorem mg_cons {g : TG} {u : TGs} (h1 : Mg g) (h2 : Mgs u) : Mgs (gCons g u) := fun v σ H Q Q' m ⟨x, r, e, q⟩ => ⟨x, r, e, h1 _ _ _ _ _ (fun σ H q => h2 _ _ _ _ _ m q) q⟩
theorem mg_tup {n : Nat} {u : TGs} (h : Mgs u) : Mg (gTup K n u) := fun v σ H Q Q' m ⟨a, xs, e, h1, h2, q⟩ => ⟨a, xs, e, h1, h2, h _ _ _ _ _ m q⟩
theorem tg_cons {js : List Nat} {g : TG} {u : TGs} (m1 : Mg g) (m2 : Mgs u) (h1 : Tg js g) (h2 : Tgs js u) : Tgs js (gCons g u) := fun v σ H Q ⟨x, r, e, q⟩ =>
  ⟨x, r, e, m1 _ _ _ _ _ (fun σ' H' ⟨q, l, z⟩ => m2 _ _ _ _ _ (fun σ2 H2 ⟨q2, l2, z2⟩ => ⟨q2, l2.trans l, fun i hi => (z2 i hi).trans (z i hi)⟩) (h2 r σ' H' Q q)) (h1 x σ H _ q)⟩
theorem tg_tup {js : List Nat} {n : Nat} {u : TGs} (h : Tgs js u) : Tg js (gTup K n u) := fun v σ H Q ⟨a, xs, e, h1, h2, q⟩ => ⟨a, xs, e, h1, h2, h _ _ _ _ q⟩
theorem wipe_out {σ : L2.St} {i : Nat} : ∀ {vs : List Nat}, i ∉ vs → (wipe σ vs)[i]? = σ[i]?
  | [], _ => rfl
  | v :: vs, h => by
    unfold wipe
    rw [List.getElem?_set_ne (fun e => h (by rw [← e]; exact List.mem_cons_self))]
    exact wipe_out fun z => h (List.mem_cons_of_mem _ z)
theorem wipe_in {σ : L2.St} {i : Nat} : ∀ {vs : List Nat}, i ∈ vs → i < σ.length → (wipe σ vs)[i]? = some none
  | v :: vs, h, hl => by
    unfold wipe
    by_cases e : v = i
    · subst e
      exact List.getElem?_set_self (by rw [wipe_length]; exact hl)
    · rw [List.getElem?_set_ne e]
      exact wipe_in (List.mem_of_ne_of_mem (fun q => e q.symm) h) hl
theorem wipe_eq {σ σ' : L2.St} {vs : List Nat} (hl : σ'.length = σ.length) (h : ∀ i, i ∉ vs → σ'[i]? = σ[i]?) : wipe σ' vs = wipe σ vs := by
  apply List.ext_getElem?
  intro i
  by_cases hi : i ∈ vs
  · by_cases hlt : i < σ.length
    · rw [wipe_in hi hlt, wipe_in hi (by rw [hl]; exact hlt)]
    · rw [List.getElem?_eq_none (by rw [wipe_length]; omega), List.getElem?_eq_none (by rw [wipe_length]; omega)]
  · rw [wipe_out hi, wipe_out hi, h i hi]
theorem wp_some {s : S} {i : Nat} {a : A} : ∀ {vs : List Nat}, (s.wp vs).ss[i]? = some (some a) → s.ss[i]? = some (some a) ∧ i ∉ vs
  | [], h => ⟨h, by simp⟩
  | v :: vs, h => by
    have h' : ((s.wp vs).ss.set v none)[i]? = some (some a) := h
    by_cases e : v = i
    · subst e
      by_cases hv : v < (s.wp vs).ss.length
      · rw [List.getElem?_set_self hv] at h'; cases h'
      · rw [List.getElem?_eq_none (by rw [List.length_set]; omega)] at h'; cases h'
    · rw [List.getElem?_set_ne e] at h'
      obtain ⟨h1, h2⟩ := wp_some h'
      exact ⟨h1, by simp only [List.mem_cons, not_or]; exact ⟨fun q => e q.symm, h2⟩⟩
theorem wp_len {s : S} : ∀ {vs : List Nat}, (s.wp vs).ss.length = s.ss.length
  | [] => rfl
  | v :: vs => by
    show ((s.wp vs).ss.set v none).length = _
    rw [List.length_set]
    exact wp_len
theorem Rp.wipe {b : B} {σ : L2.St} {H Hd : Hp} {tv : List V} {ta : List A} {ps : List Addr} (R : Rp K b s σ H tv ta Hd ps) (vs : List Nat) : Rp K b (s.wp vs) (wipe σ vs) H tv ta Hd ps :=
  ⟨R.e0, R.e1, R.e2, R.nw, R.pl, R.nd, R.p0, R.fr, R.ex, R.cl, fun i a hi => by
    obtain ⟨h1, h2⟩ := wp_some hi
    obtain ⟨v, hv, ha⟩ := R.sl i a h1
    exact ⟨v, by rw [wipe_out h2]; exact hv, ha⟩, by rw [wipe_length, wp_len, R.ln], R.tm⟩
theorem Rp.unwipe {b : B} {σ σ' : L2.St} {H Hd : Hp} {tv : List V} {ta : List A} {ps : List Addr} (R : Rp K b s σ' H tv ta Hd ps) {vs : List Nat} (e : L2.wipe σ' vs = L2.wipe σ vs) : Rp K b (s.wp vs) σ H tv ta Hd ps :=
  ⟨R.e0, R.e1, R.e2, R.nw, R.pl, R.nd, R.p0, R.fr, R.ex, R.cl, fun i a hi => by
    obtain ⟨h1, h2⟩ := wp_some hi
    obtain ⟨v, hv, ha⟩ := R.sl i a h1
    exact ⟨v, by rw [← wipe_out h2, ← e, wipe_out h2]; exact hv, ha⟩, by
    have := congrArg List.length e
    rw [wipe_length, wipe_length] at this
    rw [wp_len, ← R.ln, this], R.tm⟩
/-- [elt for g in wi if tt]: the new list is the own cell n -/
theorem ev_lc {wi : TI} {vs : List Nat} (htg : Tg vs g) (hmg : Mg g) (h : EI K b wi s fun ds Pc s1 => ∃ I : Nat → List PyData → S → Prop, I 0 [] ((s1.add (.lst [])).wp vs) ∧
      (∀ i acc s2, i ≤ ds.length → I i acc s2 → Pc s2.os ∧ s2.os[s1.os.length]? = some (.lst acc)) ∧
      (∀ i x acc s2, ds[i]? = some x → I i acc s2 → GT K b g (.d x) (s2.wp vs) fun s3 => ET K b tt s3 fun k s4 =>
        (k = true → EV K b te s4 fun y s5 => ∃ z, y = .d z ∧ s5.os[s1.os.length]? = some (.lst acc) ∧ acc.length < sizeLine ∧ I (i + 1) (acc ++ [z]) ((s5.put s1.os.length (.lst (acc ++ [z]))).wp vs)) ∧
        (k = false → I (i + 1) acc (s4.wp vs))) ∧
      ∀ acc s2, I ds.length acc s2 → Φ (.o s1.os.length) s2) : EV K b (tLc wi g tt te vs) s Φ := fun σ H tv tl Hd ps R Q k =>
  h σ H tv tl Hd ps R _ fun J H1 ds Pc s1 Hd1 ps1 tx' ax h1 R1 jk => by
    obtain ⟨I, h0, hp, hs, hd⟩ := h1
    intro D hD
    obtain ⟨R2, a2⟩ := R1.new (c := .lst []) (o := .lst []) hD ⟨none_of_same R1.e1 hD, [], upd_same, .nil⟩
    have R2' : Rp K b ((s1.add (.lst [])).wp vs) σ _ _ _ Hd1 _ := R2.unwipe rfl
    have a2' : AR K Hd1 (ps1 ++ [D]) (.ref D) (.o s1.os.length) := a2
    refine ⟨fun i m H => m = ds.length - i ∧ i ≤ ds.length ∧ ∃ acc s2 Hd2 ps2, I i acc s2 ∧ Rp K b s2 σ H (tx' :: .ref D :: tv) (ax :: .o s1.os.length :: tl) Hd2 ps2, ⟨ds.length, by simp, Nat.zero_le _, [], _, Hd1, _, h0, (R2'.pop.1.push a2').push R2'.pop.2⟩, fun i m H hW => ?_⟩
    obtain ⟨rfl, hi, acc, s2, Hd2, ps2, q, R3⟩ := hW
    obtain ⟨hPc, hOs⟩ := hp i acc s2 hi q
    by_cases hlt : i < ds.length
    · have hx : ds[i]? = some ds[i] := List.getElem?_eq_getElem hlt
      have g1 := (jk.go b s2 σ H _ _ Hd2 ps2 i _ R3 hPc hx).1
      have g2 := (jk.go b (s2.wp vs) (L2.wipe σ vs) H _ _ Hd2 ps2 i _ (R3.wipe vs) hPc hx).2
      refine .inr ⟨g1, fun H => ∃ acc s2 Hd2 ps2, I (i + 1) acc s2 ∧ Rp K b s2 σ H (tx' :: .ref D :: tv) (ax :: .o s1.os.length :: tl) Hd2 ps2, fun H' q' => ⟨ds.length - (i + 1), by omega, rfl, hlt, q'⟩, fun v H' hy => ?_⟩
      obtain ⟨Hd3, R5, a5⟩ := g2 v H' hy
      refine hmg _ _ _ _ _ (fun σ2 H2 q => ⟨(wipe_eq q.2.1 q.2.2).trans (wipe_eq (wipe_length _ _) fun i hi => wipe_out hi), q.1 ((wipe_eq q.2.1 q.2.2).trans (wipe_eq (wipe_length _ _) fun i hi => wipe_out hi))⟩)
        (htg v (L2.wipe σ vs) H' (fun σ2 H2 => L2.wipe σ2 vs = L2.wipe σ vs → tt σ2 H2 fun b H3 => if b = true then te σ2 H3 fun y H4 => ∃ acc, H4 D = some (.lst acc) ∧ acc.length < sizeLine ∧
          ∃ acc' s2 Hd2 ps2, I (i + 1) acc' s2 ∧ Rp K _ s2 σ (upd H4 D (.lst (acc ++ [y]))) (tx' :: .ref D :: tv) (ax :: .o s1.os.length :: tl) Hd2 ps2 else ∃ acc s2 Hd2 ps2, I (i + 1) acc s2 ∧ Rp K _ s2 σ H3 (tx' :: .ref D :: tv) (ax :: .o s1.os.length :: tl) Hd2 ps2)
          (hs i _ acc s2 hx q (L2.wipe σ vs) H' _ _ Hd3 ps2 v R5 a5 _ fun σ2 H2 s3 Hd4 ps4 g R6 he => ?_))
      refine g σ2 H2 _ _ Hd4 ps4 R6 _ fun kk H3 s4 Hd5 ps5 g R7 => ?_
      cases kk with
      | false => exact ⟨acc, _, Hd5, ps5, g.2 rfl, R7.unwipe he⟩
      | true =>
        refine g.1 rfl σ2 H3 _ _ Hd5 ps5 R7 _ fun y H4 a s5 Hd6 ps6 g R8 a8 => ?_
        obtain ⟨z, rfl, ho, hl, hI⟩ := g
        obtain ⟨p, hpp, e⟩ := R8.pop.1.pop.2
        cases e
        obtain ⟨hn, ws, hw, ha⟩ := R8.cl _ _ D ho hpp
        refine ⟨ws, hw, by rw [pair_len (da_paired ha)]; exact hl, acc ++ [z], _, Hd6, ps6, hI, ?_⟩
        exact (R8.put (c := .lst (acc ++ [z])) ho hpp (fun z => nomatch z) ⟨hn, _, upd_same, paired_da (pair_app (da_paired ha) (.cons (show Dr K Hd6 y z from a8) .nil))⟩).unwipe he
    · have e : i = ds.length := by omega
      subst e
      exact .inl ⟨jk.stop b s2 σ H _ _ Hd2 ps2 R3 hPc, k _ _ _ _ _ _ (hd acc s2 q) R3.pop.1.pop.1 R3.pop.1.pop.2⟩
end
/-! ### defs -/
inductive Rv where
  | val (x : PyData)
  | new (c : C)
  | pv (φ : Hp → V → Prop) (m : ∀ H H' v, Same H H' → φ H v → φ H' v)
def RvR (K : PySem.W.Frag) (H Hd' H' : Hp) (v : V) : Rv → Prop
  | .val x => Dr K Hd' v x
  | .new c => ∃ p, v = .ref p ∧ H p = none ∧ c ≠ .dead ∧ CRp K Hd' H' p c
  | .pv φ _ => φ Hd' v
/-- an exception: its class, its own dict's fields if it has one -/
structure Xv where
  cls : Value
  fs : Option (List (Str × PyData))
structure Spc where
  I : Type
  args : I → List A
  cells : I → List C
  pre : I → Prop
  post : I → Rv → List C → Prop
  xpost : I → Xv → List C → Prop := fun _ _ _ => False
def XvR (K : PySem.W.Frag) (Hd' : Hp) (d : Option Addr) : Option (List (Str × PyData)) → Prop
  | none => d = none
  | some fs => ∃ a ws, d = some a ∧ Hd' a = some (.xd ws) ∧ Paired (fun (w : Str × V) f => w.1 = f.1 ∧ Dr K Hd' w.2 f.2) ws fs
/-- the end of a call: what stood stands, but for the cells ps; the data has grown -/
structure Fin' (K : PySem.W.Frag) (H Hd : Hp) (ps : List Addr) (n : Nat) (Hd' H' : Hp) (os' : List C) : Prop where
  e1 : Same Hd Hd'
  e2 : Same Hd' H'
  e3 : ∀ a o, a ∉ ps → H a = some o → H' a = some o
  e4 : ∀ a, a ∉ ps → H a ≠ none → Hd a = none → Hd' a = none
  e5 : ∀ p, p ∈ ps → H' p ≠ none
  e6 : os'.length = n
  e7 : ∀ (k : Nat) cc p, os'[k]? = some cc → ps[k]? = some p → CRp K Hd' H' p cc
/-- what a def promises -/
def SpB (K : PySem.W.Frag) (f : Spc) : Sp := fun vs H Q E => ∃ Hd ps i, Same Hd H ∧ ps.Nodup ∧ ps.length = (f.cells i).length ∧ (∀ p, p ∈ ps → H p ≠ none) ∧ (∀ (k : Nat) cc p, (f.cells i)[k]? = some cc → ps[k]? = some p → CRp K Hd H p cc) ∧ Paired (AR K Hd ps) vs (f.args i) ∧
  f.pre i ∧ (∀ r os', f.post i r os' → ∀ v Hd' H', Fin' K H Hd ps (f.cells i).length Hd' H' os' → RvR K H Hd' H' v r → Q v H') ∧
    ∀ x os', f.xpost i x os' → ∀ d Hd' H', Fin' K H Hd ps (f.cells i).length Hd' H' os' → XvR K Hd' d x.fs → E x.cls d H'
def RTn (n : Nat) (Φ : Rv → List C → Prop) (a : A) (s' : S) : Prop := match a with
  | .d x => Φ (.val x) (s'.os.take n)
  | .o k => ∃ c, n ≤ k ∧ s'.os[k]? = some c ∧ c ≠ .dead ∧ Φ (.new c) (s'.os.take n)
  | .p φ m => Φ (.pv φ m) (s'.os.take n)
def RTE (n : Nat) (Φ : Rv → List C → Prop) : EE := ⟨fun s' => RTn n Φ (.d .none) s', fun a s' => RTn n Φ a s', fun _ => False, fun _ => False⟩
def s0 (m : Nat) (as : List A) (os : List C) : S := ⟨as.map some ++ List.replicate (m - as.length) none, os⟩
section
variable {K : PySem.W.Frag} {b : B} {s s1 : S} {te ta tb tc : TE} {tt tu : TT} {t : TA} {x y : A} {Φ Ψ : A → S → Prop} {r r' : R2} {tx ty : TS} {N : EE} {g : TG} {f : Spc}
theorem go_fn {vs : List V} {H : Hp} {Q : VK} {E : XK} {L : List Str} (h : SpB K f vs H Q E)
    (body : ∀ b i, f.pre i → (∀ x d σ H s tv ta Hd ps, f.xpost i x (s.os.take (f.cells i).length) → Rp K b s σ H tv ta Hd ps → XvR K Hd d x.fs → E x.cls d H) → GO K b tx (s0 L.length (f.args i) (f.cells i)) (RTE (f.cells i).length (f.post i))) : tx { nx := fun _ H' => Q .non H', rt := Q } (L2.start L vs) H := by
  obtain ⟨Hd, ps, i, e1, nd, pl, ex, cl, ha, hpre, hf, hx⟩ := h
  have hb := fun b => body b i hpre
  generalize f.args i = as at ha hb
  generalize f.cells i = os at pl cl hf hb hx
  have hlen := pair_len ha
  obtain ⟨F, hF⟩ : ∃ F : Hp, F = fun a => if a ∈ ps then none else H a := ⟨_, rfl⟩
  have F1 : ∀ p, p ∈ ps → F p = none := fun p hp => by rw [hF]; exact if_pos hp
  have F2 : ∀ p, p ∉ ps → F p = H p := fun p hp => by rw [hF]; exact if_neg hp
  have R : Rp K ⟨Hd, F, ps⟩ (s0 L.length as os) (L2.start L vs) H [] [] Hd ps := by
    refine ⟨Same.refl _, e1, fun a o e => ?_, fun a _ z => z, pl, nd, ⟨[], by simp⟩, F1, ex, cl, fun i a hi => ?_, ?_, .nil⟩
    · by_cases z : a ∈ ps
      · rw [show (B.F ⟨Hd, F, ps⟩) a = F a from rfl, F1 a z] at e; cases e
      · rw [← F2 a z]; exact e
    · have hi' : (as.map some ++ List.replicate (L.length - as.length) none)[i]? = some (some a) := hi
      by_cases hl : i < as.length
      · rw [List.getElem?_append_left (by simpa using hl), List.getElem?_map] at hi'
        cases q : as[i]? with
        | none => rw [q] at hi'; cases hi'
        | some a' =>
          rw [q] at hi'
          have e : a' = a := by simpa using hi'
          subst e
          obtain ⟨v, hv, hr⟩ := pair_get ha q
          refine ⟨v, ?_, hr⟩
          unfold L2.start
          rw [List.getElem?_append_left (by simpa [hlen] using hl), List.getElem?_map, hv]
          rfl
      · rw [List.getElem?_append_right (by simpa using hl)] at hi'
        have := List.mem_of_getElem? hi'
        have := List.eq_of_mem_replicate this
        cases this
    · unfold L2.start
      show _ = (as.map some ++ _).length
      simp [hlen]
  have F3 : ∀ {σ H' s' tv ta Hd' ps'}, Rp K ⟨Hd, F, ps⟩ s' σ H' tv ta Hd' ps' → Fin' K H Hd ps os.length Hd' H' (s'.os.take os.length) ∧ ∃ more, ps' = ps ++ more := by
    intro σ H' s' tv ta Hd' ps' R'
    obtain ⟨more, hm⟩ := R'.p0
    have hm' : ps' = ps ++ more := hm
    have hle : os.length ≤ s'.os.length := by rw [← R'.pl, hm', List.length_append, pl]; omega
    refine ⟨⟨R'.e0, R'.e1, fun a o z e => R'.e2 a o (by show F a = some o; rw [F2 a z]; exact e), fun a z e e2 => R'.nw a (by show F a ≠ none; rw [F2 a z]; exact e) e2,
      fun p hp => R'.ex p (by rw [hm']; exact List.mem_append_left _ hp), by rw [List.length_take]; omega, fun k cc p hk hp => ?_⟩, more, hm'⟩
    have hkl : k < ps.length := (List.getElem?_eq_some_iff.mp hp).1
    refine R'.cl k cc p ?_ ?_
    · rw [List.getElem?_take, if_pos (by rw [← pl]; exact hkl)] at hk
      exact hk
    · rw [hm', List.getElem?_append_left hkl]
      exact hp
  have fin : ∀ v σ H' a s' Hd' ps', RTn os.length (f.post i) a s' → Rp K ⟨Hd, F, ps⟩ s' σ H' [] [] Hd' ps' → AR K Hd' ps' v a → Q v H' := by
    intro v σ H' a s' Hd' ps' q R' har
    obtain ⟨g, more, hm'⟩ := F3 R'
    cases a with
    | d x => exact hf _ _ q v Hd' H' g har
    | p φ m => exact hf _ _ q v Hd' H' g har
    | o k =>
      obtain ⟨c, hk, ho, hcd, q⟩ := q
      obtain ⟨p, hp, e⟩ := har
      refine hf _ _ q v Hd' H' g ⟨p, e, ?_, hcd, R'.cl k _ p ho hp⟩
      have hnp : p ∉ ps := by
        intro hm2
        obtain ⟨j, hj⟩ := List.getElem?_of_mem hm2
        have hjl : j < ps.length := (List.getElem?_eq_some_iff.mp hj).1
        have hj' : ps'[j]? = some p := by rw [hm', List.getElem?_append_left hjl]; exact hj
        exact nd_ne R'.nd hj' hp (by omega) rfl
      rw [← F2 p hnp]
      exact R'.fr p (List.mem_of_getElem? hp)
  refine hb ⟨Hd, F, ps⟩ (fun x d σ H' s' tv ta Hd' ps' q R' hd => hx x _ q d Hd' H' (F3 R').1 hd) _ _ H [] [] Hd ps R ⟨fun σ H' s' Hd' ps' q R' => ?_, fun v σ H' a s' Hd' ps' q R' har => ?_, fun _ _ _ _ _ z => z.elim, fun _ _ _ _ _ z => z.elim⟩
  · exact fin .non σ H' (.d .none) s' Hd' ps' q R' Dr.non
  · exact fin v σ H' a s' Hd' ps' q R' har
theorem spB_len {vs : List V} {H : Hp} {Q : VK} {E : XK} {n : Nat} (h : SpB K f vs H Q E) (hn : ∀ i, (f.args i).length = n) : vs.length = n := by
  obtain ⟨Hd, ps, i, e1, nd, pl, ex, cl, ha, hf⟩ := h
  rw [pair_len ha]
  exact hn _
/-- what a call leaves -/
def aft (s1 : S) (Φ : A → S → Prop) : Rv → Prop
  | .val x => Φ (.d x) s1
  | .new c => Φ (.o s1.os.length) (s1.add c)
  | .pv φ m => Φ (.p φ m) s1
theorem Rp.adopt {b : B} {σ : L2.St} {H Hd : Hp} {tv : List V} {ta : List A} {ps : List Addr} (R : Rp K b s σ H tv ta Hd ps) {p : Addr} {c : C} (h1 : p ∉ ps) (h2 : b.F p = none) (h3 : H p ≠ none) (hn : CRp K Hd H p c) :
    Rp K b (s.add c) σ H tv ta Hd (ps ++ [p]) ∧ AR K Hd (ps ++ [p]) (.ref p) (.o s.os.length) := by
  refine ⟨⟨R.e0, R.e1, R.e2, R.nw, ?_, ?_, ?_, ?_, ?_, ?_, ?_, R.ln, pair_mono (fun _ _ q => ar_more q) R.tm⟩, p, ?_, rfl⟩
  · show (ps ++ [p]).length = (s.os ++ [c]).length
    rw [List.length_append, List.length_append, R.pl]
    rfl
  · refine List.nodup_append.mpr ⟨R.nd, List.pairwise_singleton _ _, fun a ha c hc e => ?_⟩
    rw [List.mem_singleton.mp hc] at e
    exact h1 (by rw [← e]; exact ha)
  · obtain ⟨more, e⟩ := R.p0
    exact ⟨more ++ [p], by rw [e, List.append_assoc]⟩
  · intro q hq
    rcases List.mem_append.mp hq with hq | hq
    · exact R.fr q hq
    · rw [List.mem_singleton.mp hq]
      exact h2
  · intro q hq
    rcases List.mem_append.mp hq with hq | hq
    · exact R.ex q hq
    · rw [List.mem_singleton.mp hq]
      exact h3
  · intro k cc q hk hq
    by_cases hl : k < s.os.length
    · have hk' : s.os[k]? = some cc := by rw [show (s.add c).os = s.os ++ [c] from rfl, List.getElem?_append_left hl] at hk; exact hk
      have hq' : ps[k]? = some q := by rw [List.getElem?_append_left (by rw [R.pl]; exact hl)] at hq; exact hq
      exact R.cl k cc q hk' hq'
    · have e : k = s.os.length := by
        have := (List.getElem?_eq_some_iff.mp hk).1
        rw [show (s.add c).os = s.os ++ [c] from rfl, List.length_append, List.length_singleton] at this
        omega
      subst e
      rw [show (s.add c).os = s.os ++ [c] from rfl, List.getElem?_concat_length] at hk
      cases hk
      rw [← R.pl, List.getElem?_concat_length] at hq
      cases hq
      exact hn
  · intro i a hi
    obtain ⟨v, hv, ha⟩ := R.sl i a hi
    exact ⟨v, hv, ar_more ha⟩
  · rw [← R.pl, List.getElem?_concat_length]
/-- one own cell has changed, the heap has grown -/
theorem Rp.ext1 {b : B} {σ : L2.St} {H H' Hd Hd' : Hp} {tv : List V} {ta : List A} {ps : List Addr} (R : Rp K b s σ H tv ta Hd ps) {k : Nat} {p : Addr} {c c' : C} (hk : s.os[k]? = some c) (hp : ps[k]? = some p) (hc : c ≠ .dead)
    (e1 : Same Hd Hd') (e2 : Same Hd' H') (e3 : ∀ a o, a ≠ p → H a = some o → H' a = some o) (e4 : ∀ a, a ≠ p → H a ≠ none → Hd a = none → Hd' a = none) (e5 : H' p ≠ none) (hn : CRp K Hd' H' p c') : Rp K b (s.put k c') σ H' tv ta Hd' ps where
  e0 := R.e0.trans e1
  e1 := e2
  e2 := fun a o h => e3 a o (ne_of_none h (R.fr p (List.mem_of_getElem? hp))) (R.e2 a o h)
  nw := fun a ha hd => by
    have z : a ≠ p := fun e => ha (by rw [e]; exact R.fr p (List.mem_of_getElem? hp))
    refine e4 a z (fun q => ha ?_) (R.nw a ha hd)
    exact none_of_same R.e2 q
  pl := by rw [R.pl]; show _ = (s.os.set k c').length; rw [List.length_set]
  nd := R.nd
  p0 := R.p0
  fr := R.fr
  ex := fun q hq z => by
    by_cases e : q = p
    · exact e5 (by rw [← e]; exact z)
    · cases h : H q with
      | none => exact R.ex q hq h
      | some o => rw [e3 q o e h] at z; cases z
  cl := fun j cj q hj hq => by
    by_cases e : j = k
    · subst e
      rw [hp] at hq
      cases hq
      have : (s.os.set j c')[j]? = some c' := List.getElem?_set_self (List.getElem?_eq_some_iff.mp hk).1
      rw [show (s.put j c').os = s.os.set j c' from rfl, this] at hj
      cases hj
      exact hn
    · have hj' : s.os[j]? = some cj := by
        rw [show (s.put k c').os = s.os.set k c' from rfl, List.getElem?_set_ne (Ne.symm e)] at hj
        exact hj
      have z : q ≠ p := nd_ne R.nd hq hp e
      exact cr_up e1 (R.cl j cj q hj' hq) (fun x => e4 q z (R.ex q (List.mem_of_getElem? hq)) x) fun _ o' ho => e3 q o' z ho
  sl := fun i a hi => by
    obtain ⟨v, hv, ha⟩ := R.sl i a hi
    exact ⟨v, hv, ar_up e1 ha⟩
  ln := R.ln
  tm := pair_mono (fun _ _ q => ar_up e1 q) R.tm
theorem cr_some {Hd H : Hp} {p : Addr} {c : C} (h : CRp K Hd H p c) (hc : c ≠ .dead) : H p ≠ none := by
  cases c with
  | dead => exact absurd rfl hc
  | lst xs => rw [h.2.choose_spec.1]; exact fun z => nomatch z
  | dK kvs => rw [h.2.choose_spec.1]; exact fun z => nomatch z
/-- an exception of a callee is what is wished for here -/
def XOK1 (K : PySem.W.Frag) (b : B) (x : Xv) (s1 : S) (E : L2.St → XK) : Prop := ∀ d σ H' tv ta Hd' ps', Rp K b s1 σ H' tv ta Hd' ps' → XvR K Hd' d x.fs → E σ x.cls d H'
def XOK (K : PySem.W.Frag) (b : B) (f : Spc) (i : f.I) (s1 : S) (E : L2.St → XK) : Prop := ∀ x os', f.xpost i x os' → XOK1 K b x s1 E
/-- a call; the wish of an exception by the slots -/
def tCallG (sp : Sp) (E : L2.St → XK) (t : TA) : TE := fun σ H Q => t σ H fun vs H1 => sp (vs ++ []) H1 Q (E σ)
/-- a call with data alone -/
theorem ev_call0 {E : L2.St → XK} (h : EA K b t s fun as s1 => ∃ i, as = f.args i ∧ f.cells i = [] ∧ noO as = true ∧ f.pre i ∧ (∀ r os', f.post i r os' → aft s1 Φ r) ∧ XOK K b f i s1 E) : EV K b (tCallG (SpB K f) E t) s Φ := fun σ H tv tl Hd ps R Q k =>
  h σ H tv tl Hd ps R _ fun vs H1 as s1 Hd1 ps1 h1 R1 a1 => by
    obtain ⟨i, ei, ec, hno, hpre, hf, hx⟩ := h1
    have hno := noO_ok hno
    have ha : Paired (AR K Hd1 []) vs as := by
      have : ∀ {vs as}, Paired (AR K Hd1 ps1) vs as → (∀ a, a ∈ as → ∀ k, a ≠ .o k) → Paired (AR K Hd1 []) vs as := by
        intro vs as h
        induction h with
        | nil => intro _; exact .nil
        | @cons v a vs as h1 _ ih =>
          intro hno
          refine .cons ?_ (ih fun a ha => hno a (List.mem_cons_of_mem _ ha))
          cases a with
          | d x => exact h1
          | p φ m => exact h1
          | o k => exact absurd rfl (hno _ List.mem_cons_self k)
      exact this a1 hno
    rw [List.append_nil]
    refine ⟨Hd1, [], i, R1.e1, .nil, by rw [ec]; rfl, fun p hp => by simp at hp, fun k cc p hk hp => by simp at hp, by rw [← ei]; exact ha, hpre, fun r os' hr v Hd' H' ⟨e1, e2, e3, e4, _, _, _⟩ hv => ?_, fun x os' hr d Hd' H' ⟨e1, e2, e3, e4, _, _, _⟩ hv => hx x os' hr d _ H' _ _ _ _ (R1.ext e1 e2 (fun a o h => e3 a o (by simp) h) fun a h1 h2 => e4 a (by simp) h1 h2) hv⟩
    have R2 : Rp K b s1 σ H' tv tl Hd' ps1 := R1.ext e1 e2 (fun a o h => e3 a o (by simp) h) fun a h1 h2 => e4 a (by simp) h1 h2
    have q := hf r os' hr
    cases r with
    | val x => exact k v H' _ s1 Hd' ps1 q R2 hv
    | pv φ m => exact k v H' _ s1 Hd' ps1 q R2 hv
    | new xs =>
      obtain ⟨p, rfl, hn, hcd, hc⟩ := hv
      obtain ⟨R3, a3⟩ := R2.adopt (c := xs) (fun hm => R1.ex p hm hn) (none_of_same R1.e2 hn) (cr_some hc hcd) hc
      exact k _ H' _ _ Hd' _ q R3 a3
theorem ars_sub {Hd : Hp} {ps ps' : List Addr} : ∀ {vs : List V} {as : List A}, Paired (AR K Hd ps) vs as → (∀ a, a ∈ as → ∀ k, a ≠ .o k) → Paired (AR K Hd ps') vs as
  | _, _, .nil, _ => .nil
  | _, _, .cons (b := a) h1 h2, hno => .cons (by
      cases a with
      | d x => exact h1
      | p φ m => exact h1
      | o k => exact absurd rfl (hno _ List.mem_cons_self k)) (ars_sub h2 fun a ha => hno a (List.mem_cons_of_mem _ ha))
/-- a call whose first argument is the own cell n, which it may change -/
theorem ev_call1 {E : L2.St → XK} (n : Nat) (h : EA K b t s fun as s1 => ∃ i c rest, as = .o n :: rest ∧ f.args i = .o 0 :: rest ∧ f.cells i = [c] ∧ s1.os[n]? = some c ∧ c ≠ .dead ∧ noO rest = true ∧ f.pre i ∧ (∀ r c', f.post i r [c'] → aft (s1.put n c') Φ r) ∧ ∀ x c', f.xpost i x [c'] → XOK1 K b x (s1.put n c') E) :
    EV K b (tCallG (SpB K f) E t) s Φ := fun σ H tv tl Hd ps R Q k =>
  h σ H tv tl Hd ps R _ fun vs H1 as s1 Hd1 ps1 h1 R1 a1 => by
    obtain ⟨i, c, rest, rfl, ea, ec, ho, hc, hno, hpre, hf, hx⟩ := h1
    have hno := noO_ok hno
    rw [List.append_nil]
    cases a1 with
    | @cons v _ vs _ h1 h2 =>
    obtain ⟨p, hp, rfl⟩ := h1
    have hcell := R1.cl n c p ho hp
    refine ⟨Hd1, [p], i, R1.e1, List.pairwise_singleton _ _, by rw [ec]; rfl, fun q hq => by rw [List.mem_singleton.mp hq]; exact R1.ex p (List.mem_of_getElem? hp), fun j cc q hj hq => ?_, by rw [ea]; exact .cons ⟨p, rfl, rfl⟩ (ars_sub h2 hno), hpre, fun r os' hr v Hd' H' ⟨e1, e2, e3, e4, e5, e6, e7⟩ hv => ?_, fun x os' hr d Hd' H' ⟨e1, e2, e3, e4, e5, e6, e7⟩ hv => ?_⟩
    · rw [ec] at hj
      cases j with
      | zero =>
        cases hj
        cases hq
        exact hcell
      | succ j => cases hj
    · rw [ec] at e6
      obtain ⟨c', rfl⟩ : ∃ c', os' = [c'] := by
        cases os' with
        | nil => cases e6
        | cons c' l => cases l with
          | nil => exact ⟨c', rfl⟩
          | cons _ _ => cases e6
      have R2 : Rp K b (s1.put n c') σ H' tv tl Hd' ps1 := R1.ext1 ho hp hc e1 e2 (fun a o z h => e3 a o (by simpa using z) h) (fun a z h h' => e4 a (by simpa using z) h h') (e5 p (List.mem_singleton.mpr rfl)) (e7 0 c' p rfl rfl)
      have q := hf r c' hr
      cases r with
      | val x => exact k v H' _ _ Hd' ps1 q R2 hv
      | pv φ m => exact k v H' _ _ Hd' ps1 q R2 hv
      | new xs =>
        obtain ⟨p', rfl, hn, hcd, hc'⟩ := hv
        obtain ⟨R3, a3⟩ := R2.adopt (c := xs) (fun hm => R1.ex p' hm hn) (none_of_same R1.e2 hn) (cr_some hc' hcd) hc'
        exact k _ H' _ _ Hd' _ q R3 a3
    · rw [ec] at e6
      obtain ⟨c', rfl⟩ : ∃ c', os' = [c'] := by
        cases os' with
        | nil => cases e6
        | cons c' l => cases l with
          | nil => exact ⟨c', rfl⟩
          | cons _ _ => cases e6
      have R2 : Rp K b (s1.put n c') σ H' tv tl Hd' ps1 := R1.ext1 ho hp hc e1 e2 (fun a o z h => e3 a o (by simpa using z) h) (fun a z h h' => e4 a (by simpa using z) h h') (e5 p (List.mem_singleton.mpr rfl)) (e7 0 c' p rfl rfl)
      exact hx x c' hr d _ H' _ _ _ _ R2 hv
def flatD : PyData → Bool
  | .none | .bool _ | .int _ | .str _ => true
  | _ => false
theorem dr_flat {Hd Hd' : Hp} {v : V} : ∀ {d : PyData}, flatD d = true → Dr K Hd v d → Dr K Hd' v d
  | .none, _, h => by cases h; exact .non
  | .bool b, _, h => by cases h; exact .bl b
  | .int b, _, h => by cases h; exact .int b
  | .str b, _, h => by cases h; exact .str b
theorem vws_da {b : B} {σ : L2.St} {H Hd : Hp} {tv : List V} {ta : List A} {ps : List Addr} (R : Rp K b s σ H tv ta Hd ps) : ∀ {vs : List V} {as : List A} {xs : List PyData}, Paired (AR K Hd ps) vs as → Paired (Vw s) as xs → DrA K H vs xs
  | _, _, _, .nil, .nil => .nil
  | _, _, _, .cons h1 h2, .cons q1 q2 => .cons (vw_dr R h1 q1) (vws_da R h2 q2)
/-- a call that reads, own lists among what it reads, and answers with a flat thing -/
theorem ev_callS {E : L2.St → XK} (h : EA K b t s fun as s1 => ∃ i xs, Paired (Vw s1) as xs ∧ f.args i = xs.map A.d ∧ f.cells i = [] ∧ f.pre i ∧ (∀ r os', f.post i r os' → ∃ x, r = .val x ∧ flatD x = true ∧ Φ (.d x) s1) ∧ (∀ x os', f.xpost i x os' → x.fs = none) ∧ XOK K b f i s1 E) : EV K b (tCallG (SpB K f) E t) s Φ := fun σ H tv tl Hd ps R Q k =>
  h σ H tv tl Hd ps R _ fun vs H1 as s1 Hd1 ps1 h1 R1 a1 => by
    obtain ⟨i, xs, hw, ea, ec, hpre, hf, hn, hx⟩ := h1
    rw [List.append_nil]
    refine ⟨H1, [], i, Same.refl _, .nil, by rw [ec]; rfl, fun p hp => by simp at hp, fun k cc p hk hp => by simp at hp, by rw [ea]; exact ars_of_da (vws_da R1 a1 hw), hpre, fun r os' hr v Hd' H' ⟨e1, e2, e3, e4, _, _, _⟩ hv => ?_, fun x os' hr d Hd' H' ⟨e1, e2, e3, e4, _, _, _⟩ hv => ?_⟩
    · obtain ⟨x, rfl, fx, q⟩ := hf r os' hr
      have s1' : Same H1 H' := fun a o h => e3 a o (by simp) h
      exact k v H' _ s1 Hd1 ps1 q (R1.ext (Same.refl _) (R1.e1.trans s1') s1' fun a _ z => z) (dr_flat fx hv)
    · have s1' : Same H1 H' := fun a o h => e3 a o (by simp) h
      have en := hn x os' hr
      rw [en] at hv
      exact hx x os' hr d _ H' _ _ _ _ (R1.ext (Same.refl _) (R1.e1.trans s1') s1' fun a _ z => z) (by rw [en]; exact hv)
theorem xok_no {f : Spc} {i : f.I} {s1 : S} {E : L2.St → XK} (h : ∀ x os', ¬ f.xpost i x os' := by intro _ _ h; exact h) : XOK K b f i s1 E := fun x os' q => absurd q (h x os')
/-- a statement that raises -/
theorem go_rz {t : TS} (h : ∀ D σ H tv ta Hd ps, Rp K b s σ H tv ta Hd ps → t D σ H) : GO K b t s N := fun D σ H tv ta Hd ps R _ => h D σ H tv ta Hd ps R
/-- an own list that an expression hands over is from now on data -/
theorem ev_dat (h : EV K b te s fun a s1 => ∃ n xs, a = .o n ∧ s1.os[n]? = some (.lst xs) ∧ Φ (.d (.list xs)) (s1.frz n xs)) : EV K b te s Φ := fun σ H tv tl Hd ps R Q k =>
  h σ H tv tl Hd ps R _ fun v H1 a s1 Hd1 ps1 h1 R1 a1 => by
    obtain ⟨n, xs, rfl, ho, q⟩ := h1
    obtain ⟨Hd', _, R', h'⟩ := R1.frz ho
    exact k v H1 _ _ Hd' ps1 q R' (h' v a1)
/-- truth -/
def Tru (s : S) (a : A) (k : Bool) : Prop := match a with
  | .d (.bool c) => k = c
  | .d .none => k = false
  | .d (.int i) => k = (i != 0)
  | .d (.list ds) => k = !ds.isEmpty
  | .d (.tuple ds) => k = !ds.isEmpty
  | .d (.str t) => t.length ≤ sizeLine ∧ k = ((t.length : Int) != 0)
  | .o n => ∃ ds, s.os[n]? = some (.lst ds) ∧ k = !ds.isEmpty
  | _ => False
theorem tru_of {b : B} {σ : L2.St} {H Hd : Hp} {tv : List V} {ta : List A} {ps : List Addr} (R : Rp K b s σ H tv ta Hd ps) {v : V} {k : Bool} : ∀ {a : A}, AR K Hd ps v a → Tru s a k → TruV K v H k := by
  have nil_iff : ∀ {vs : List V} {ds : List PyData} {H : Hp}, DrA K H vs ds → vs.isEmpty = ds.isEmpty := fun h => by cases h <;> rfl
  intro a h e
  cases a with
  | d x =>
    cases h with
    | non => exact e
    | bl c => exact e
    | int i => exact e
    | str t => exact e
    | lst hv ha => exact .inl ⟨_, .inl (.inl (R.e1 _ _ hv)), by rw [nil_iff ha]; exact e⟩
    | tup hv ha => exact .inr (.inl ⟨_, st_up R.e1 hv, by rw [nil_iff ha]; exact e⟩)
  | o n =>
    obtain ⟨ds, hn, e⟩ := e
    obtain ⟨p, hp, rfl⟩ := h
    obtain ⟨_, vs, hv, ha⟩ := R.cl n _ p hn hp
    exact .inl ⟨vs, .inl (.inl hv), by rw [nil_iff ha]; exact e⟩
  | p φ m => exact e.elim
theorem et_truth {Φ : Bool → S → Prop} (h : EV K b te s fun a s1 => ∃ k, Tru s1 a k ∧ Φ k s1) : ET K b (fun σ H Q => te σ H fun x H' => ∃ k, TruV K x H' k ∧ Q k H') s Φ := fun σ H tv tl Hd ps R Q k =>
  h σ H tv tl Hd ps R _ fun v H1 a s1 Hd1 ps1 h1 R1 a1 => by
    obtain ⟨c, hc, q⟩ := h1
    exact ⟨c, tru_of R1 a1 hc, k c H1 s1 Hd1 ps1 q R1⟩
theorem ev_notT (h : EV K b te s fun a s1 => ∃ k, Tru s1 a k ∧ Φ (.d (.bool (!k))) s1) : EV K b (tNotT K te) s Φ := fun σ H tv tl Hd ps R Q k =>
  h σ H tv tl Hd ps R _ fun v H1 a s1 Hd1 ps1 h1 R1 a1 => by
    obtain ⟨c, hc, q⟩ := h1
    exact ⟨c, tru_of R1 a1 hc, k _ H1 _ s1 Hd1 ps1 q R1 (.bl _)⟩
end
/-! ### operators of any kind of value -/
section
variable {X : L2.Cx}
def rAddS : R2 := fun x y H Q => ∃ i j, x = .str i ∧ y = .str j ∧ i.length + j.length ≤ sizeLine ∧ Q (.str (i ++ j)) H
def rAddA (K : PySem.W.Frag) : R2 := fun x y H Q => (rI0 fun i j => .int (i + j)) x y H Q ∨ (fun x y H Q => rAddS x y H Q ∨ (fun x y H Q => rCat x y H Q ∨ rCatA K x y H Q) x y H Q) x y H Q
theorem op_addA : OpR X (binaryOp .Add) (rAddA X.K) := op_add.or (op_add_str.or (op_cat.or op_catA))
def rMulA : R2 := fun x y H Q => (rI CMulW fun i j => .int (i * j)) x y H Q ∨ (fun x y H Q => rRep x y H Q ∨ (rI CMul fun i j => .int (i * j)) x y H Q) x y H Q
theorem op_mulA : OpR X (binaryOp .Mult) rMulA := op_mulW.or (op_rep.or op_mul)
def rLtA : R2 := fun x y H Q => (rI0 fun i j => .bl (decide (i < j))) x y H Q ∨ (fun x y H Q => ∃ i j, x = .str i ∧ y = .str j ∧ Q (.bl (decide (i.cps.toList < j.cps.toList))) H) x y H Q
def rLeA : R2 := fun x y H Q => (rI0 fun i j => .bl (decide (i ≤ j))) x y H Q ∨ (fun x y H Q => ∃ i j, x = .str i ∧ y = .str j ∧ Q (.bl (!decide (j.cps.toList < i.cps.toList))) H) x y H Q
def rGtA : R2 := fun x y H Q => (rI0 fun i j => .bl (decide (j < i))) x y H Q ∨ (fun x y H Q => ∃ i j, x = .str i ∧ y = .str j ∧ Q (.bl (decide (j.cps.toList < i.cps.toList))) H) x y H Q
def rGeA : R2 := fun x y H Q => (rI0 fun i j => .bl (decide (j ≤ i))) x y H Q ∨ (fun x y H Q => ∃ i j, x = .str i ∧ y = .str j ∧ Q (.bl (!decide (i.cps.toList < j.cps.toList))) H) x y H Q
theorem op_ltA : OpR X (compareOp .Lt) rLtA := op_lt.or op_lt_str
theorem op_leA : OpR X (compareOp .LtE) rLeA := op_le.or op_le_str
theorem op_gtA : OpR X (compareOp .Gt) rGtA := op_gt.or op_gt_str
theorem op_geA : OpR X (compareOp .GtE) rGeA := op_ge.or op_ge_str
def rIsA : R2 := fun x y H Q => (fun x y H Q => y = .non ∧ Q (.bl (decide (x = .non))) H : R2) x y H Q ∨ rIsB x y H Q
def rNotA : R2 := fun x y H Q => (fun x y H Q => y = .non ∧ Q (.bl (!decide (x = .non))) H : R2) x y H Q ∨ rNotB x y H Q
theorem op_isA : OpR X (compareOp .Is) rIsA := op_isN.or op_isBl
theorem op_notA : OpR X (compareOp .IsNot) rNotA := op_notN.or op_notBl
abbrev R3 := V → Option Int → Option Int → Hp → VK → Prop
def rSlAny (K : PySem.W.Frag) : R3 := fun x lo hi H Q => rSlL K x lo hi H Q ∨ (fun x lo hi H Q => rSlS x lo hi H Q ∨ rSlA K x lo hi H Q) x lo hi H Q
theorem sl_any : SlR X (rSlAny X.K) := sl_list.or (sl_str.or sl_tupA)
def iAny (K : PySem.W.Frag) (te : TE) : TI := fun σ H R => iList K te σ H R ∨ (iTup K te σ H R ∨ iStr te σ H R)
theorem pi_any {tg e : Expr} {te : TE} (he : PE X e te) : PI X tg e (iAny X.K te) := ⟨fun pins s σ H R I h => by
  rcases h with h | h | h
  · exact (pi_list he).run pins s σ H R I h
  · exact (pi_tup he).run pins s σ H R I h
  · exact (pi_str he).run pins s σ H R I h⟩
theorem pg_tup2 {K : PySem.W.Frag} (hK : X.K = K) {i j : Nat} {x y : Str} {p1 p2 pos : Pos} {k : Nat} (hc : X.calm = true) (hN : X.N.Nodup) (hi : X.N[i]? = some x) (hj : X.N[j]? = some y) (hx : Loc X.env.scope x) (hy : Loc X.env.scope y)
    (hfx : X.fn x = true ∨ X.env.scope.names.lookup x = some .local) (hfy : X.fn y = true ∨ X.env.scope.names.lookup y = some .local) : PG X (.Tuple [.Name x p1, .Name y p2] k pos) (gTup K 2 (gCons (gName i) (gCons (gName j) gNil))) := by
  subst hK
  exact pg_tup hc (pgs_cons (pg_name hN hi hx hfx) (pgs_cons (pg_name hN hj hy hfy) pgs_nil))
theorem pg_tup3 {K : PySem.W.Frag} (hK : X.K = K) {i j l : Nat} {x y z : Str} {p1 p2 p3 pos : Pos} {k : Nat} (hc : X.calm = true) (hN : X.N.Nodup) (hi : X.N[i]? = some x) (hj : X.N[j]? = some y) (hl : X.N[l]? = some z) (hx : Loc X.env.scope x) (hy : Loc X.env.scope y) (hz : Loc X.env.scope z)
    (hfx : X.fn x = true ∨ X.env.scope.names.lookup x = some .local) (hfy : X.fn y = true ∨ X.env.scope.names.lookup y = some .local) (hfz : X.fn z = true ∨ X.env.scope.names.lookup z = some .local) :
    PG X (.Tuple [.Name x p1, .Name y p2, .Name z p3] k pos) (gTup K 3 (gCons (gName i) (gCons (gName j) (gCons (gName l) gNil)))) := by
  subst hK
  exact pg_tup hc (pgs_cons (pg_name hN hi hx hfx) (pgs_cons (pg_name hN hj hy hfy) (pgs_cons (pg_name hN hl hz hfz) pgs_nil)))
/-! the same, K named (within a comprehension) -/
section
variable {K : PySem.W.Frag} {a b : Expr} {ta tb : TE} {pos : Pos}
theorem op_addAK (hK : X.K = K) : OpR X (binaryOp .Add) (rAddA K) := by subst hK; exact op_addA
theorem op_eqDK (hK : X.K = K) (hu : X.A.units + 64 < cLine) : OpR X (compareOp .Eq) (rEqD K) := by subst hK; exact op_eqD hu
theorem op_neDK (hK : X.K = K) (hu : X.A.units + 64 < cLine) : OpR X (compareOp .NotEq) (rNeD K) := by subst hK; exact op_neD hu
theorem ix_seqK (hK : X.K = K) : IxR X (rIx K) := by subst hK; exact ix_seq
theorem sl_anyK (hK : X.K = K) : SlR X (rSlAny K) := by subst hK; exact sl_any
theorem call_lenK (hK : X.K = K) : CallR X (.builtin "len") (fun xs H Q => ∃ x n, xs = [x] ∧ LenV K x H n ∧ Q (.int n) H) := by subst hK; exact call_len
theorem pt_truthK (hK : X.K = K) (ha : PE X a ta) (he : ∀ whole, isTrue a X.env whole = (do let v ← whole; standAt a.pos; holding [v] (truthy v))) : PT X a (fun σ H Q => ta σ H fun x H' => ∃ k, TruV K x H' k ∧ Q k H') := by subst hK; exact pt_truth ha he
theorem pe_notTK (hK : X.K = K) (ha : PE X a ta) : PE X (.UnaryOp .Not a pos) (tNotT K ta) := by subst hK; exact pe_notT ha
end
theorem Room_units65 {A : Around} {k : Nat} (hr : Room k A) : A.units + 65 < cLine := by have := hr.un; omega
end
theorem L2.Room.units65 {A : Around} {k : Nat} (hr : Room k A) : A.units + 65 < cLine := by have := hr.un; omega
section
variable {K : PySem.W.Frag} {b : B} {s s1 : S} {te ta tb tc : TE} {tt tu : TT} {t : TA} {x y : A} {Φ Ψ : A → S → Prop} {r r' : R2} {tx ty : TS} {N : EE} {g : TG} {Ξ : List PyData → (List C → Prop) → S → Prop}
theorem v2_addI {i j : Int} (q : Φ (.d (.int (i + j))) s) : V2 K b (rAddA K) (.d (.int i)) (.d (.int j)) s Φ := v2_l (v2_ii q)
theorem v2_addT {i j : Str} (hl : i.length + j.length ≤ sizeLine) (q : Φ (.d (.str (i ++ j))) s) : V2 K b (rAddA K) (.d (.str i)) (.d (.str j)) s Φ := v2_r (v2_l (v2_addS hl q))
theorem v2_addL {xs ys : List PyData} (h1 : Vw s x (.list xs)) (h2 : Vw s y (.list ys)) (hl : xs.length + ys.length ≤ sizeLine) (q : Φ (.d (.list (xs ++ ys))) s) : V2 K b (rAddA K) x y s Φ := v2_r (v2_r (v2_l (v2_cat h1 h2 hl q)))
theorem v2_addLO {xs ys : List PyData} (h1 : Vw s x (.list xs)) (h2 : Vw s y (.list ys)) (hl : xs.length + ys.length ≤ sizeLine) (q : Φ (.o s.os.length) (s.add (.lst (xs ++ ys)))) : V2 K b (rAddA K) x y s Φ := v2_r (v2_r (v2_l (v2_catO h1 h2 hl q)))
theorem v2_catT {xs ys : List PyData} (hl : xs.length + ys.length ≤ sizeLine) (q : Φ (.d (.tuple (xs ++ ys))) s) : V2 K b (rCatA K) (.d (.tuple xs)) (.d (.tuple ys)) s Φ := fun σ H tv tl Hd ps v w R a1 a2 Q k => by
  cases id a1 with
  | @tup p vs _ hv ha =>
  cases id a2 with
  | @tup p' ws _ hw hb =>
  have l1 := pair_len (da_paired ha)
  have l2 := pair_len (da_paired hb)
  refine ⟨p, p', vs, ws, rfl, rfl, st_up R.e1 hv, st_up R.e1 hw, by rw [l1, l2]; exact hl, fun e => ?_, fun _ e => ?_, fun _ _ l hn => ?_⟩
  · have e' : xs = [] := List.length_eq_zero_iff.mp (by rw [← l1, e]; rfl)
    subst e'
    exact k _ H _ s Hd ps q R a2
  · have e' : ys = [] := List.length_eq_zero_iff.mp (by rw [← l2, e]; rfl)
    subst e'
    rw [List.append_nil] at q
    exact k _ H _ s Hd ps q R a1
  · obtain ⟨R2, h2⟩ := R.newTup hn (vs := vs ++ ws) (xs := xs ++ ys) (by rw [List.map_append]; exact pair_app (ars_of_da ha) (ars_of_da hb))
    exact k _ _ _ _ _ _ q R2 h2
theorem v2_addU {xs ys : List PyData} (hl : xs.length + ys.length ≤ sizeLine) (q : Φ (.d (.tuple (xs ++ ys))) s) : V2 K b (rAddA K) (.d (.tuple xs)) (.d (.tuple ys)) s Φ := v2_r (v2_r (v2_r (v2_catT hl q)))
theorem v2_mulI {i j : Int} (c : CMulW i j) (q : Φ (.d (.int (i * j))) s) : V2 K b rMulA (.d (.int i)) (.d (.int j)) s Φ := v2_l (v2_ic c q)
theorem v2_mulL {xs : List PyData} {n : Int} (h1 : Vw s x (.list xs)) (h0 : -(2 ^ 63) ≤ n) (h2 : n < 2 ^ 63) (hl : xs.length * n.toNat ≤ sizeLine) (q : Φ (.o s.os.length) (s.add (.lst (List.replicate n.toNat xs).flatten))) : V2 K b rMulA x (.d (.int n)) s Φ := v2_r (v2_l (v2_rep h1 h0 h2 hl q))
theorem v2_mulJ {i j : Int} (c : CMul i j) (q : Φ (.d (.int (i * j))) s) : V2 K b rMulA (.d (.int i)) (.d (.int j)) s Φ := v2_r (v2_r (v2_ic c q))
theorem v2_ltI {i j : Int} (q : Φ (.d (.bool (decide (i < j)))) s) : V2 K b rLtA (.d (.int i)) (.d (.int j)) s Φ := v2_l (v2_ib (f := fun i j => decide (i < j)) q)
theorem v2_leI {i j : Int} (q : Φ (.d (.bool (decide (i ≤ j)))) s) : V2 K b rLeA (.d (.int i)) (.d (.int j)) s Φ := v2_l (v2_ib (f := fun i j => decide (i ≤ j)) q)
theorem v2_gtI {i j : Int} (q : Φ (.d (.bool (decide (j < i)))) s) : V2 K b rGtA (.d (.int i)) (.d (.int j)) s Φ := v2_l (v2_ib (f := fun i j => decide (j < i)) q)
theorem v2_geI {i j : Int} (q : Φ (.d (.bool (decide (j ≤ i)))) s) : V2 K b rGeA (.d (.int i)) (.d (.int j)) s Φ := v2_l (v2_ib (f := fun i j => decide (j ≤ i)) q)
theorem v2_isNA (n : ∀ φ m, x ≠ .p φ m) (q : Φ (.d (.bool (isNo x))) s) : V2 K b rIsA x (.d .none) s Φ := v2_l (v2_isN n q)
theorem v2_notNA (n : ∀ φ m, x ≠ .p φ m) (q : Φ (.d (.bool (!isNo x))) s) : V2 K b rNotA x (.d .none) s Φ := v2_l (v2_notN n q)
/-! slices of any kind -/
def VS (K : PySem.W.Frag) (b : B) (r : R3) (x : A) (lo hi : Option Int) (s : S) (Φ : A → S → Prop) : Prop := ∀ σ H tv ta Hd ps v, Rp K b s σ H tv ta Hd ps → AR K Hd ps v x → ∀ Q : VK,
  (∀ u H' a s' Hd' ps', Φ a s' → Rp K b s' σ H' tv ta Hd' ps' → AR K Hd' ps' u a → Q u H') → r v lo hi H Q
theorem ev_sl {r : R3} {tlo thi : TO} (h : EV K b te s fun x s1 => EO K b tlo s1 fun lo s2 => EO K b thi s2 fun hi s3 => VS K b r x lo hi s3 Φ) : EV K b (tSl r te tlo thi) s Φ := fun σ H tv tl Hd ps R Q k =>
  h σ H tv tl Hd ps R _ fun v H1 x s1 Hd1 ps1 h1 R1 a1 => h1 σ H1 (v :: tv) (x :: tl) Hd1 ps1 (R1.push a1) _ fun lo H2 s2 Hd2 ps2 h2 R2 => h2 σ H2 (v :: tv) (x :: tl) Hd2 ps2 R2 _ fun hi H3 s3 Hd3 ps3 h3 R3 =>
    h3 σ H3 tv tl Hd3 ps3 v R3.pop.1 R3.pop.2 Q k
theorem vs_list {lo hi : Option Int} {ds : List PyData} (e : Vw s x (.list ds)) (q : Φ (.d (.list (cutD ds lo hi))) s) : VS K b (rSlAny K) x lo hi s Φ := fun σ H tv tl Hd ps v R a Q k => by
  obtain ⟨p, vs, rfl, hv, ha⟩ := vw_lst R a e
  refine .inl ⟨p, vs, rfl, .inl (.inl hv), fun l hn => ?_⟩
  obtain ⟨R5, a5⟩ := R.newLst hn (ars_of_da (da_cut ha lo hi))
  exact k _ _ _ _ _ _ q R5 a5
theorem vs_listO {lo hi : Option Int} {ds : List PyData} (e : Vw s x (.list ds)) (q : Φ (.o s.os.length) (s.add (.lst (cutD ds lo hi)))) : VS K b (rSlAny K) x lo hi s Φ := fun σ H tv tl Hd ps v R a Q k => by
  obtain ⟨p, vs, rfl, hv, ha⟩ := vw_lst R a e
  refine .inl ⟨p, vs, rfl, .inl (.inl hv), fun l hn => ?_⟩
  obtain ⟨R5, a5⟩ := R.new (c := .lst (cutD ds lo hi)) (o := .lst (cutV vs lo hi)) hn ⟨none_of_same R.e1 hn, _, upd_same, da_cut ha lo hi⟩
  exact k _ _ _ _ _ _ q R5 a5
theorem vs_str {lo hi : Option Int} {t : Str} (hl : t.length ≤ sizeLine) (q : Φ (.d (.str (cutS t lo hi))) s) : VS K b (rSlAny K) (.d (.str t)) lo hi s Φ := fun σ H tv tl Hd ps v R a Q k => by
  cases a
  exact .inr (.inl ⟨t, rfl, hl, k _ H _ s Hd ps q R (.str _)⟩)
theorem cutD_all {ds : List PyData} {lo hi : Option Int} (h : HT.sIx ds.length 0 lo = 0 ∧ HT.sIx ds.length ds.length hi = ds.length) : cutD ds lo hi = ds := by
  unfold cutD
  rw [h.1, h.2]
  simp
theorem vs_tup {lo hi : Option Int} {ds : List PyData} (q : Φ (.d (.tuple (cutD ds lo hi))) s) : VS K b (rSlAny K) (.d (.tuple ds)) lo hi s Φ := fun σ H tv tl Hd ps v R a Q k => by
  cases id a with
  | @tup p vs _ hv ha =>
  have hl := pair_len (da_paired ha)
  refine .inr (.inr ⟨p, vs, rfl, st_up R.e1 hv, fun e => ?_, fun _ l hn => ?_⟩)
  · rw [hl] at e
    rw [cutD_all e] at q
    exact k _ H _ s Hd ps q R a
  · obtain ⟨R5, a5⟩ := R.newTup hn (ars_of_da (da_cut ha lo hi))
    exact k _ _ _ _ _ _ q R5 a5
/-- the script -/
def scrP (K : PySem.W.Frag) (ns : List Int) : A := .p (fun H v => ∃ a, v = .ref a ∧ SqL K H a (ns.map V.int)) fun _ _ _ e ⟨a, h1, h2⟩ => ⟨a, h1, sl_up e h2⟩
theorem da_ints {H : Hp} : ∀ ns : List Int, DrA K H (ns.map V.int) (ns.map PyData.int)
  | [] => .nil
  | n :: ns => .cons (.int n) (da_ints ns)
theorem vs_scr {lo hi : Option Int} {ns : List Int} (q : Φ (.d (.list (cutD (ns.map .int) lo hi))) s) : VS K b (rSlAny K) (scrP K ns) lo hi s Φ := fun σ H tv tl Hd ps v R a Q k => by
  obtain ⟨p, rfl, hs⟩ := a
  refine .inl ⟨p, _, rfl, sl_up R.e1 hs, fun l hn => ?_⟩
  obtain ⟨R5, a5⟩ := R.newLst hn (ars_of_da (da_cut (da_ints ns) lo hi))
  exact k _ _ _ _ _ _ q R5 a5
/-! walks of any kind -/
theorem ei_anyL (h : EI K b (iList K te) s Ξ) : EI K b (iAny K te) s Ξ := fun σ H tv tl Hd ps R Q k => .inl (h σ H tv tl Hd ps R Q k)
theorem ei_anyT (h : EI K b (iTup K te) s Ξ) : EI K b (iAny K te) s Ξ := fun σ H tv tl Hd ps R Q k => .inr (.inl (h σ H tv tl Hd ps R Q k))
theorem ei_anyS (h : EI K b (iStr te) s Ξ) : EI K b (iAny K te) s Ξ := fun σ H tv tl Hd ps R Q k => .inr (.inr (h σ H tv tl Hd ps R Q k))
theorem vm_insert {n : Nat} {ds : List PyData} {z : PyData} {i : Int} (h : s.os[n]? = some (.lst ds)) (hl : ds.length < sizeLine) (i0 : 0 ≤ i) (i1 : i < 2 ^ 63) (q : Φ (.d .none) (s.put n (.lst (ds.take i.toNat ++ [z] ++ ds.drop i.toNat)))) :
    VM K b (fun x vs H Q => ∃ (l : Addr) (xs : List V) (i : Int) (y : V), x = .ref l ∧ vs = [.int i, y] ∧ H l = some (.lst xs) ∧ xs.length < sizeLine ∧ 0 ≤ i ∧ i < 2 ^ 63 ∧ Q .non (upd H l (.lst (xs.take i.toNat ++ [y] ++ xs.drop i.toNat)))) (.o n) [.d (.int i), .d z] s Φ := fun σ H tv tl Hd ps v vs R a1 a2 Q k => by
  cases a2 with
  | @cons w _ _ _ c1 c2 =>
  cases c2 with
  | @cons w2 _ _ _ c2 c3 =>
  cases c3
  cases c1
  obtain ⟨p, hp, rfl⟩ := a1
  obtain ⟨hn, ws, hw, ha⟩ := R.cl n _ p h hp
  refine ⟨p, ws, i, w2, rfl, rfl, hw, by rw [pair_len (da_paired ha)]; exact hl, i0, i1, ?_⟩
  exact k _ _ _ _ _ _ q (R.put h hp (fun z => nomatch z) ⟨hn, _, upd_same, paired_da (pair_app (pair_app (pair_take _ (da_paired ha)) (.cons c2 .nil)) (pair_drop _ (da_paired ha)))⟩) .non
theorem vc_gcd {i j : Int} (q : Φ (.d (.int ((Nat.gcd i.natAbs j.natAbs : Nat) : Int))) s) : VC K b rGcd [.d (.int i), .d (.int j)] s Φ := fun σ H tv tl Hd ps vs R a Q k => by
  cases a with
  | @cons v _ _ _ a1 t =>
    cases t with
    | @cons v _ _ _ a2 t =>
      cases t
      cases a1; cases a2
      exact ⟨i, j, rfl, k _ H _ s Hd ps q R (.int _)⟩
/-! ### dicts of one's own -/
def keyD : Key → PyData
  | .inl i => .int i
  | .inr x => .str x
def lkD (kvs : List (Key × PyData)) (k : Key) : Option PyData := (kvs.find? fun kv => decide (kv.1 = k)).map (·.2)
def putD (kvs : List (Key × PyData)) (k : Key) (v : PyData) : List (Key × PyData) := if (kvs.any fun kv => decide (kv.1 = k)) = true then kvs.map (fun kv => if kv.1 = k then (kv.1, v) else kv) else kvs ++ [(k, v)]
abbrev KVR (K : PySem.W.Frag) (Hd : Hp) : List (Key × V) → List (Key × PyData) → Prop := Paired fun a b => a.1 = b.1 ∧ Dr K Hd a.2 b.2
theorem kv_look {Hd : Hp} {k : Key} : ∀ {ws : List (Key × V)} {kvs : List (Key × PyData)}, KVR K Hd ws kvs → (lkD kvs k = none → valV ws k = none) ∧ ∀ z, lkD kvs k = some z → ∃ v, valV ws k = some v ∧ Dr K Hd v z
  | _, _, .nil => ⟨fun _ => rfl, fun z h => by cases h⟩
  | w :: ws, kv :: kvs, .cons h t => by
    obtain ⟨i1, i2⟩ := kv_look (k := k) t
    by_cases e : kv.1 = k
    · have e' : w.1 = k := h.1.trans e
      have l1 : lkD (kv :: kvs) k = some kv.2 := by simp [lkD, List.find?_cons, e]
      rw [l1, valV_pos e']
      refine ⟨fun q => (nomatch q), fun z hz => ?_⟩
      cases hz
      exact ⟨w.2, rfl, h.2⟩
    · have e' : ¬ w.1 = k := fun q => e (h.1.symm.trans q)
      have l1 : lkD (kv :: kvs) k = lkD kvs k := by simp [lkD, List.find?_cons, e]
      rw [l1, valV_neg e']
      exact ⟨i1, i2⟩
theorem kv_isSome {Hd : Hp} {k : Key} {ws : List (Key × V)} {kvs : List (Key × PyData)} (ha : KVR K Hd ws kvs) : (valV ws k).isSome = (lkD kvs k).isSome := by
  obtain ⟨h1, h2⟩ := kv_look (k := k) ha
  cases q : lkD kvs k with
  | none => rw [h1 q]; rfl
  | some z =>
    obtain ⟨u, hu, _⟩ := h2 z q
    rw [hu]
    rfl
theorem kv_any {Hd : Hp} {k : Key} : ∀ {ws : List (Key × V)} {kvs : List (Key × PyData)}, KVR K Hd ws kvs → (ws.any fun kv => decide (kv.1 = k)) = kvs.any fun kv => decide (kv.1 = k)
  | _, _, .nil => rfl
  | w :: ws, kv :: kvs, .cons h t => by rw [List.any_cons, List.any_cons, h.1, kv_any t]
theorem kv_map {Hd : Hp} {k : Key} {v : V} {z : PyData} (hv : Dr K Hd v z) : ∀ {ws : List (Key × V)} {kvs : List (Key × PyData)}, KVR K Hd ws kvs → KVR K Hd (ws.map fun kv => if kv.1 = k then (kv.1, v) else kv) (kvs.map fun kv => if kv.1 = k then (kv.1, z) else kv)
  | _, _, .nil => .nil
  | w :: ws, kv :: kvs, .cons h t => by
    refine .cons ?_ (kv_map hv t)
    dsimp only
    by_cases e : kv.1 = k
    · rw [if_pos e, if_pos (h.1.trans e)]
      exact ⟨h.1, hv⟩
    · rw [if_neg e, if_neg (fun q => e (h.1.symm.trans q))]
      exact h
theorem kv_put {Hd : Hp} {k : Key} {v : V} {z : PyData} (hv : Dr K Hd v z) {ws : List (Key × V)} {kvs : List (Key × PyData)} (h : KVR K Hd ws kvs) : KVR K Hd (putK ws k v) (putD kvs k z) := by
  unfold putK putD
  rw [kv_any h]
  split
  · exact kv_map hv h
  · exact pair_app h (.cons ⟨rfl, hv⟩ .nil)
theorem keyD_V {Hd : Hp} {v : V} {key : Key} (h : Dr K Hd v (keyD key)) : v = kV key := by
  cases key with
  | inl i => cases h; rfl
  | inr x => cases h; rfl
theorem ev_dget {td ty : TE} (h : EV K b td s fun x s1 => EV K b ty s1 fun y s2 => ∃ n kvs key z, x = .o n ∧ s2.os[n]? = some (.dK kvs) ∧ y = .d (keyD key) ∧ lkD kvs key = some z ∧ Φ (.d z) s2) : EV K b (tDGet td ty) s Φ := fun σ H tv tl Hd ps R Q k =>
  h σ H tv tl Hd ps R _ fun v H1 x s1 Hd1 ps1 h1 R1 a1 => h1 σ H1 (v :: tv) (x :: tl) Hd1 ps1 (R1.push a1) _ fun w H2 y s2 Hd2 ps2 h2 R2 a2 => by
    obtain ⟨n, kvs, key, z, rfl, hn, rfl, hl, q⟩ := h2
    obtain ⟨R3, p, hp, rfl⟩ := R2.pop
    obtain ⟨_, ws, hw, ha⟩ := R3.cl n _ p hn hp
    obtain ⟨u, hu, hz⟩ := (kv_look ha).2 z hl
    rw [keyD_V a2]
    exact ⟨p, u, rfl, by rw [← hu]; exact DGet.k hw, k _ H2 _ s2 Hd2 ps2 q R3 hz⟩
theorem ev_din {td ty : TE} (h : EV K b ty s fun y s1 => EV K b td s1 fun x s2 => ∃ n kvs key, x = .o n ∧ s2.os[n]? = some (.dK kvs) ∧ y = .d (keyD key) ∧ Φ (.d (.bool (lkD kvs key).isSome)) s2) : EV K b (tDIn ty td) s Φ := fun σ H tv tl Hd ps R Q k =>
  h σ H tv tl Hd ps R _ fun v H1 y s1 Hd1 ps1 h1 R1 a1 => h1 σ H1 (v :: tv) (y :: tl) Hd1 ps1 (R1.push a1) _ fun w H2 x s2 Hd2 ps2 h2 R2 a2 => by
    obtain ⟨n, kvs, key, rfl, hn, rfl, q⟩ := h2
    obtain ⟨R3, a3⟩ := R2.pop
    obtain ⟨p, hp, rfl⟩ := a2
    obtain ⟨_, ws, hw, ha⟩ := R3.cl n _ p hn hp
    rw [keyD_V a3]
    refine ⟨p, _, rfl, DGet.k hw, ?_⟩
    rw [kv_isSome ha]
    exact k _ H2 _ s2 Hd2 ps2 q R3 (.bl _)
theorem ev_dnin {td ty : TE} (h : EV K b ty s fun y s1 => EV K b td s1 fun x s2 => ∃ n kvs key, x = .o n ∧ s2.os[n]? = some (.dK kvs) ∧ y = .d (keyD key) ∧ Φ (.d (.bool (!(lkD kvs key).isSome))) s2) : EV K b (tDNotIn ty td) s Φ := fun σ H tv tl Hd ps R Q k =>
  h σ H tv tl Hd ps R _ fun v H1 y s1 Hd1 ps1 h1 R1 a1 => h1 σ H1 (v :: tv) (y :: tl) Hd1 ps1 (R1.push a1) _ fun w H2 x s2 Hd2 ps2 h2 R2 a2 => by
    obtain ⟨n, kvs, key, rfl, hn, rfl, q⟩ := h2
    obtain ⟨R3, a3⟩ := R2.pop
    obtain ⟨p, hp, rfl⟩ := a2
    obtain ⟨_, ws, hw, ha⟩ := R3.cl n _ p hn hp
    rw [keyD_V a3]
    refine ⟨p, _, rfl, DGet.k hw, ?_⟩
    rw [kv_isSome ha]
    exact k _ H2 _ s2 Hd2 ps2 q R3 (.bl _)
theorem go_dput {td ty tv' : TE} (h : EV K b tv' s fun z s1 => EV K b td s1 fun x s2 => EV K b ty s2 fun y s3 => ∃ n kvs key d, z = .d d ∧ x = .o n ∧ s3.os[n]? = some (.dK kvs) ∧ y = .d (keyD key) ∧ kvs.length < sizeLine ∧ N.nx (s3.put n (.dK (putD kvs key d)))) : GO K b (sDPut td ty tv') s N := fun D σ H tv tl Hd ps R k =>
  h σ H tv tl Hd ps R _ fun u H1 z s1 Hd1 ps1 h1 R1 a1 => h1 σ H1 (u :: tv) (z :: tl) Hd1 ps1 (R1.push a1) _ fun v H2 x s2 Hd2 ps2 h2 R2 a2 => h2 σ H2 (v :: u :: tv) (x :: z :: tl) Hd2 ps2 (R2.push a2) _ fun w H3 y s3 Hd3 ps3 h3 R3 a3 => by
    obtain ⟨n, kvs, key, d, rfl, rfl, hn, rfl, hl, q⟩ := h3
    obtain ⟨R4, p, hp, rfl⟩ := R3.pop
    obtain ⟨R5, a5⟩ := R4.pop
    obtain ⟨h0, ws, hw, ha⟩ := R5.cl n _ p hn hp
    rw [keyD_V a3]
    refine ⟨p, _, rfl, DPut.k hw (by rw [pair_len ha]; exact hl), ?_⟩
    exact k.nx _ _ _ _ _ q (R5.put hn hp (fun z => nomatch z) ⟨h0, _, upd_same, kv_put a5 ha⟩)
theorem ev_dnew (q : Φ (.o s.os.length) (s.add (.dK []))) : EV K b tDNewK s Φ := fun σ H tv tl Hd ps R Q k p hn => by
  obtain ⟨R2, a2⟩ := R.new (c := .dK []) (o := .dK []) hn ⟨none_of_same R.e1 hn, [], upd_same, .nil⟩
  exact k _ _ _ _ _ _ q R2 a2
/-- a written dict -/
def EPs (K : PySem.W.Frag) (b : B) : List (TE × TE) → S → (List (Key × PyData) → S → Prop) → Prop
  | [], s, Φ => Φ [] s
  | (tk, tv) :: r, s, Φ => EV K b tk s fun x s1 => EV K b tv s1 fun y s2 => ∃ key z, x = .d (keyD key) ∧ y = .d z ∧ EPs K b r s2 fun l s3 => Φ ((key, z) :: l) s3
theorem eps_ok {b : B} : ∀ {trs : List (TE × TE)} {s : S} {Φ : List (Key × PyData) → S → Prop} {σ : L2.St} {H Hd : Hp} {tv : List V} {tl : List A} {ps : List Addr}, EPs K b trs s Φ → Rp K b s σ H tv tl Hd ps → ∀ Q : List (V × V) → Hp → Prop,
    (∀ l H' s' Hd' ps' ws, Φ l s' → Rp K b s' σ H' tv tl Hd' ps' → KVR K Hd' ws l → Q (ws.map fun w => (kV w.1, w.2)) H') → tPairs trs σ H Q
  | [], s, Φ, σ, H, Hd, tv, tl, ps, h, R, Q, k => k [] H s Hd ps [] h R .nil
  | (tk, tv') :: r, s, Φ, σ, H, Hd, tv, tl, ps, h, R, Q, k =>
    h σ H tv tl Hd ps R _ fun u H1 x s1 Hd1 ps1 h1 R1 a1 => h1 σ H1 (u :: tv) (x :: tl) Hd1 ps1 (R1.push a1) _ fun v H2 y s2 Hd2 ps2 h2 R2 a2 => by
      obtain ⟨key, z, rfl, rfl, h3⟩ := h2
      refine eps_ok h3 (R2.push a2) _ fun l H3 s3 Hd3 ps3 ws h4 R3 a3 => ?_
      obtain ⟨R4, a4⟩ := R3.pop
      obtain ⟨R5, a5⟩ := R4.pop
      have := k ((key, z) :: l) H3 s3 Hd3 ps3 ((key, v) :: ws) h4 R5 (.cons ⟨rfl, a4⟩ a3)
      rw [keyD_V a5]
      exact this
def mergeD (kvs more : List (Key × PyData)) : List (Key × PyData) := more.foldl (fun acc kv => putD acc kv.1 kv.2) kvs
theorem kv_merge {Hd : Hp} : ∀ {more : List (Key × V)} {mores : List (Key × PyData)} {ws : List (Key × V)} {kvs : List (Key × PyData)}, KVR K Hd more mores → KVR K Hd ws kvs → KVR K Hd (mergeK ws more) (mergeD kvs mores)
  | _, _, _, _, .nil, h => h
  | w :: more, kv :: mores, ws, kvs, .cons h t, q => by
    have e : w.1 = kv.1 := h.1
    show KVR K Hd (mergeK (putK ws w.1 w.2) more) (mergeD (putD kvs kv.1 kv.2) mores)
    rw [e]
    exact kv_merge t (kv_put h.2 q)
theorem ev_disp {trs : List (TE × TE)} (h : EPs K b trs (s.add (.dK [])) fun l s1 => s1.os[s.os.length]? = some (.dK []) ∧ l.length ≤ 15 ∧ Φ (.o s.os.length) (s1.put s.os.length (.dK (mergeD [] l)))) : EV K b (tDisp trs) s Φ := fun σ H tv tl Hd ps R Q k p hn => by
  obtain ⟨R2, a2⟩ := R.new (c := .dK []) (o := .dK []) hn ⟨none_of_same R.e1 hn, [], upd_same, .nil⟩
  refine eps_ok h (R2.push a2) _ fun l H3 s3 Hd3 ps3 ws h4 R3 a3 => ?_
  obtain ⟨ho, hl, q⟩ := h4
  obtain ⟨R4, p', hp, e⟩ := R3.pop
  cases e
  obtain ⟨h0, ws0, hw, ha⟩ := R4.cl _ _ p ho hp
  cases ha
  refine ⟨hw, ws, rfl, by rw [pair_len a3]; exact hl, ?_⟩
  exact k _ _ _ _ _ _ q (R4.put (c := .dK (mergeD [] l)) ho hp (fun z => nomatch z) ⟨h0, _, upd_same, kv_merge a3 .nil⟩) ⟨p, hp, rfl⟩
/-! ### isinstance of data -/
def tyN : PyData → String
  | .none => "NoneType"
  | .bool _ => "bool"
  | .int _ => "int"
  | .str _ => "str"
  | .list _ => "list"
  | .tuple _ => "tuple"
  | .dict _ => "dict"
def isTy (n : String) (d : PyData) : Bool := tyN d == n || (tyN d == "bool" && n == "int")
theorem tyx_of {H : Hp} {v : V} : ∀ {d : PyData}, Dr K H v d → TyX K H v (.type (tyN d))
  | .none, h => by cases h; exact .base .non
  | .bool b, h => by cases h; exact .base (.bl b)
  | .int b, h => by cases h; exact .base (.int b)
  | .str b, h => by cases h; exact .base (.str b)
  | .list ds, h => by
    cases h with
    | lst hv ha => exact .base (.lst hv)
  | .tuple ds, h => by
    cases h with
    | tup hv ha =>
      rcases hv with (hv | ⟨o, hv⟩) | ⟨o, its, n, hk, hc, _⟩
      · exact .base (.tup hv)
      · exact .fTuple hv
      · exact .kTuple hk hc
  | .dict _, h => by cases h
theorem kit_isTy {n : String} (hn : n = "int" ∨ n = "bool" ∨ n = "str" ∨ n = "list" ∨ n = "tuple") (d : PyData) (hd : ∀ kvs, d ≠ .dict kvs) : PySem.W.kitOne K (.type (tyN d)) (.type n) = some (isTy n d) := by
  have ht : tyN d = "NoneType" ∨ tyN d = "bool" ∨ tyN d = "int" ∨ tyN d = "str" ∨ tyN d = "list" ∨ tyN d = "tuple" := by
    cases d with
    | none => exact .inl rfl
    | bool b => exact .inr (.inl rfl)
    | int b => exact .inr (.inr (.inl rfl))
    | str b => exact .inr (.inr (.inr (.inl rfl)))
    | list b => exact .inr (.inr (.inr (.inr (.inl rfl))))
    | tuple b => exact .inr (.inr (.inr (.inr (.inr rfl))))
    | dict b => exact absurd rfl (hd b)
  unfold isTy
  generalize tyN d = m at ht
  rcases hn with rfl | rfl | rfl | rfl | rfl <;> rcases ht with rfl | rfl | rfl | rfl | rfl | rfl <;> exact kit_ty (by decide +kernel)
theorem ev_isi {n : String} (hn : n = "int" ∨ n = "bool" ∨ n = "str" ∨ n = "list" ∨ n = "tuple") (h : EV K b te s fun a s1 => ∃ d, Vw s1 a d ∧ Φ (.d (.bool (isTy n d))) s1) : EV K b (tCB (rIsi K) (tCons te (tCons (tC (.ty n)) tNil))) s Φ := fun σ H tv tl Hd ps R Q k =>
  h σ H tv tl Hd ps R _ fun v H1 a s1 Hd1 ps1 h1 R1 a1 => by
    obtain ⟨d, hv, q⟩ := h1
    have hd := vw_dr R1 a1 hv
    exact ⟨v, .ty n, _, _, isTy n d, rfl, .ty n, tyx_of hd, kit_isTy hn d (fun kvs e => by subst e; cases hd), k _ H1 _ s1 Hd1 ps1 q R1 (.bl _)⟩
end
section
variable {K : PySem.W.Frag} {b : B} {s s1 : S} {te ta tb tc : TE} {tt tu : TT} {t : TA} {x y : A} {Φ Ψ : A → S → Prop} {r r' : R2} {tx ty : TS} {N : EE} {g : TG} {f : Spc}
/-- some own cells have changed, the heap has grown -/
theorem Rp.extN {b : B} {σ : L2.St} {H H' Hd Hd' : Hp} {tv : List V} {ta : List A} {ps : List Addr} (R : Rp K b s σ H tv ta Hd ps) (P : Addr → Prop) (hP : ∀ p, P p → p ∈ ps) {os2 : List C} (hl : os2.length = s.os.length)
    (hc : ∀ (k : Nat) c p, os2[k]? = some c → ps[k]? = some p → (¬ P p ∧ s.os[k]? = some c) ∨ (P p ∧ CRp K Hd' H' p c))
    (e1 : Same Hd Hd') (e2 : Same Hd' H') (e3 : ∀ a o, ¬ P a → H a = some o → H' a = some o) (e4 : ∀ a, ¬ P a → H a ≠ none → Hd a = none → Hd' a = none) (e5 : ∀ p, P p → H' p ≠ none) : Rp K b ⟨s.ss, os2⟩ σ H' tv ta Hd' ps where
  e0 := R.e0.trans e1
  e1 := e2
  e2 := fun a o h => e3 a o (fun hp => by rw [R.fr a (hP a hp)] at h; cases h) (R.e2 a o h)
  nw := fun a ha hd => by
    refine e4 a (fun hp => ha (R.fr a (hP a hp))) (fun q => ha ?_) (R.nw a ha hd)
    exact none_of_same R.e2 q
  pl := by rw [R.pl]; exact hl.symm
  nd := R.nd
  p0 := R.p0
  fr := R.fr
  ex := fun q hq z => by
    by_cases e : P q
    · exact e5 q e z
    · cases h : H q with
      | none => exact R.ex q hq h
      | some o => rw [e3 q o e h] at z; cases z
  cl := fun j cj q hj hq => by
    rcases hc j cj q hj hq with ⟨n, h⟩ | ⟨_, h⟩
    · exact cr_up e1 (R.cl j cj q h hq) (fun x => e4 q n (R.ex q (List.mem_of_getElem? hq)) x) fun _ o' ho => e3 q o' n ho
    · exact h
  sl := fun i a hi => by
    obtain ⟨v, hv, ha⟩ := R.sl i a hi
    exact ⟨v, hv, ar_up e1 ha⟩
  ln := R.ln
  tm := pair_mono (fun _ _ q => ar_up e1 q) R.tm
/-- a call whose first two arguments are the own cells n and m -/
theorem ev_call2 {E : L2.St → XK} (n m : Nat) (hnm : n ≠ m) (h : EA K b t s fun as s1 => ∃ i c c2 rest, as = .o n :: .o m :: rest ∧ f.args i = .o 0 :: .o 1 :: rest ∧ f.cells i = [c, c2] ∧ s1.os[n]? = some c ∧ s1.os[m]? = some c2 ∧ c ≠ .dead ∧ c2 ≠ .dead ∧ noO rest = true ∧ f.pre i ∧
      (∀ r c' c2', f.post i r [c', c2'] → aft ((s1.put n c').put m c2') Φ r) ∧ ∀ x os', ¬ f.xpost i x os') :
    EV K b (tCallG (SpB K f) E t) s Φ := fun σ H tv tl Hd ps R Q k =>
  h σ H tv tl Hd ps R _ fun vs H1 as s1 Hd1 ps1 h1 R1 a1 => by
    obtain ⟨i, c, c2, rest, rfl, ea, ec, ho, ho2, hc, hc2, hno, hpre, hf, hx⟩ := h1
    have hno := noO_ok hno
    rw [List.append_nil]
    cases a1 with
    | @cons v _ vs _ h1 h2 =>
    cases h2 with
    | @cons v2 _ vs _ h2 h3 =>
    obtain ⟨p, hp, rfl⟩ := h1
    obtain ⟨p2, hp2, rfl⟩ := h2
    have hne : p ≠ p2 := nd_ne R1.nd hp hp2 hnm
    have hcell := R1.cl n c p ho hp
    have hcell2 := R1.cl m c2 p2 ho2 hp2
    refine ⟨Hd1, [p, p2], i, R1.e1, ?_, by rw [ec]; rfl, fun q hq => ?_, fun j cc q hj hq => ?_, by rw [ea]; exact .cons ⟨p, rfl, rfl⟩ (.cons ⟨p2, rfl, rfl⟩ (ars_sub h3 hno)), hpre, fun r os' hr v Hd' H' ⟨e1, e2, e3, e4, e5, e6, e7⟩ hv => ?_, fun x os' hr => absurd hr (hx x os')⟩
    · exact List.nodup_cons.mpr ⟨by simpa using hne, List.pairwise_singleton _ _⟩
    · rcases List.mem_cons.mp hq with e | hq
      · rw [e]; exact R1.ex p (List.mem_of_getElem? hp)
      · rw [List.mem_singleton.mp hq]; exact R1.ex p2 (List.mem_of_getElem? hp2)
    · rw [ec] at hj
      match j, hj, hq with
      | 0, hj, hq => cases hj; cases hq; exact hcell
      | 1, hj, hq => cases hj; cases hq; exact hcell2
    · rw [ec] at e6
      obtain ⟨c', c2', rfl⟩ : ∃ c' c2', os' = [c', c2'] := by
        match os', e6 with
        | [c', c2'], _ => exact ⟨c', c2', rfl⟩
      have R2 : Rp K b ((s1.put n c').put m c2') σ H' tv tl Hd' ps1 := by
        refine R1.extN (fun a => a = p ∨ a = p2) (fun q hq => ?_) (os2 := (s1.os.set n c').set m c2') (by rw [List.length_set, List.length_set]) (fun k cc q hk hq => ?_) e1 e2 (fun a o z h => e3 a o (by simpa using z) h) (fun a z h h' => e4 a (by simpa using z) h h') (fun q hq => e5 q (by simpa using hq))
        · rcases hq with rfl | rfl
          · exact List.mem_of_getElem? hp
          · exact List.mem_of_getElem? hp2
        · by_cases e : k = m
          · subst e
            rw [hp2] at hq
            cases hq
            rw [List.getElem?_set_self (by rw [List.length_set]; exact (List.getElem?_eq_some_iff.mp ho2).1)] at hk
            cases hk
            exact .inr ⟨.inr rfl, e7 1 _ _ rfl rfl⟩
          · rw [List.getElem?_set_ne (Ne.symm e)] at hk
            by_cases e2 : k = n
            · subst e2
              rw [hp] at hq
              cases hq
              rw [List.getElem?_set_self (List.getElem?_eq_some_iff.mp ho).1] at hk
              cases hk
              exact .inr ⟨.inl rfl, e7 0 _ _ rfl rfl⟩
            · rw [List.getElem?_set_ne (Ne.symm e2)] at hk
              refine .inl ⟨fun z => ?_, hk⟩
              rcases z with z | z
              · exact nd_ne R1.nd hq hp e2 z
              · exact nd_ne R1.nd hq hp2 e z
      have q := hf r c' c2' hr
      cases r with
      | val x => exact k v H' _ _ Hd' ps1 q R2 hv
      | pv φ m => exact k v H' _ _ Hd' ps1 q R2 hv
      | new xs =>
        obtain ⟨p', rfl, hn, hcd, hc'⟩ := hv
        obtain ⟨R3, a3⟩ := R2.adopt (c := xs) (fun hm => R1.ex p' hm hn) (none_of_same R1.e2 hn) (cr_some hc' hcd) hc'
        exact k _ H' _ _ Hd' _ q R3 a3
/-- products -/
def Sm (x : Int) : Prop := x.natAbs < 2 ^ 4000
theorem cmS {i j : Int} (hi : Sm i) (hj : Sm j) : CMulW i j := wide_mul hi hj (by decide) (by decide) (by decide)
theorem cm64 {i j : Int} (hi : -(2 ^ 63) ≤ i ∧ i < 2 ^ 63) (hj : -(2 ^ 63) ≤ j ∧ j < 2 ^ 63) : CMulW i j :=
  wide_mul (a := 64) (b := 64) (by omega) (by omega) (by decide) (by decide) (by decide)
theorem fd64 {i j : Int} (hi : 0 < j ∧ j < 2 ^ 63) : CDivW i j := wide_div (b := 64) hi.1 (by omega) (by decide) (by decide)
theorem fdS {i j : Int} (h0 : 0 < j) (hj : Sm j) : CDivW i j := wide_div h0 hj (by decide) (by decide)
theorem sm64 {i : Int} (hi : -(2 ^ 63) ≤ i ∧ i < 2 ^ 63) : Sm i := by
  have : i.natAbs < 2 ^ 64 := by omega
  exact Nat.lt_trans this (Nat.pow_lt_pow_right (by decide) (by decide))
end
section
variable {K : PySem.W.Frag} {b : B} {s s1 : S} {te ta tb tc : TE} {tt tu : TT} {t : TA} {x y : A} {Φ Ψ : A → S → Prop} {r r' : R2} {tx ty : TS} {N : EE} {g : TG} {f : Spc}
theorem gts_consD {g : TG} {u : TGs} {d : PyData} {ds : List PyData} {N : S → Prop} (h : GT K b g (.d d) s fun s1 => GTs K b u (ds.map A.d) s1 N) : GTs K b (gCons g u) ((d :: ds).map A.d) s N := gts_cons h
theorem gts_nilD {N : S → Prop} (q : N s) : GTs K b gNil (([] : List PyData).map A.d) s N := gts_nil q
theorem rt_val {n : Nat} {Φ : Rv → List C → Prop} {z : PyData} (q : Φ (.val z) (s.os.take n)) : (RTE n Φ).rt (.d z) s := q
theorem rt_new {n k : Nat} {Φ : Rv → List C → Prop} {c : C} (h1 : n ≤ k) (h2 : s.os[k]? = some c) (h3 : c ≠ .dead) (q : Φ (.new c) (s.os.take n)) : (RTE n Φ).rt (.o k) s := ⟨c, h1, h2, h3, q⟩
/-- a call that reads data and answers with the datum z -/
theorem ev_callV {E : L2.St → XK} (h : EA K b t s fun as s1 => ∃ i z, as = f.args i ∧ f.cells i = [] ∧ noO as = true ∧ f.pre i ∧ (∀ r os', f.post i r os' → r = .val z) ∧ (∀ x os', ¬ f.xpost i x os') ∧ Φ (.d z) s1) : EV K b (tCallG (SpB K f) E t) s Φ :=
  ev_call0 fun σ H tv tl Hd ps R Q k => h σ H tv tl Hd ps R Q fun vs H' as s' Hd' ps' ⟨i, z, e1, e2, e3, e4, e5, e6, e7⟩ => k vs H' as s' Hd' ps' ⟨i, e1, e2, e3, e4, fun r os' q => by rw [e5 r os' q]; exact e7, xok_no e6⟩
theorem go_sAsg (h : EV K b te s fun a s1 => GT K b g a s1 fun s2 => GO K b ty s2 N) : GO K b (tSeq (tAsg te g) ty) s N := go_seq (go_asg h)
theorem go_sDrop (h : EV K b te s fun _ s1 => GO K b ty s1 N) : GO K b (tSeq (tDrop te) ty) s N := go_seq (go_drop h)
theorem go_sAug {i : Nat} {f : Int → Int → Int} {m : Int} (hi : s.ss[i]? = some (some (.d (.int m)))) (h : EV K b te s fun a s1 => ∃ n, a = .d (.int n) ∧ GO K b ty (s1.set i (.d (.int (f m n)))) N) : GO K b (tSeq (tAug i te (ipI f)) ty) s N := go_seq (go_aug hi h)
/-- a statement, then the rest, with a word between them -/
theorem go_mid (M : S → Prop) (h : GO K b tx s { N with nx := M }) (k : ∀ s1, M s1 → GO K b ty s1 N) : GO K b (tSeq tx ty) s N := go_seq (go_mono h k (fun _ _ q => q) (fun _ q => q) (fun _ q => q))
theorem ev_const {v : V} {d : PyData} (hv : ∀ H, Dr K H v d) (q : Φ (.d d) s) : EV K b (tC v) s Φ := fun σ H tv tl Hd ps R Q k => k v H _ s Hd ps q R (hv Hd)
theorem put_same {k : Nat} {c : C} (h : s.os[k]? = some c) : s.put k c = s := by
  obtain ⟨hl, e⟩ := List.getElem?_eq_some_iff.mp h
  show S.mk s.ss (s.os.set k c) = s
  rw [← e, List.set_getElem_self]
/-- an argument that is an own list or data -/
def vA (o : Bool) (k : Nat) (xs : List PyData) : A := if o then .o k else .d (.list xs)
theorem ev_callA {E : L2.St → XK} {o : Bool} {n m : Nat} {xs ys : List PyData} {i : f.I} (hi : f.args i = [vA o 0 xs, vA o 1 ys]) (hc : f.cells i = if o then [.lst xs, .lst ys] else []) (hp : f.pre i) (hx : ∀ x os', ¬ f.xpost i x os') (hq : ∀ r os', f.post i r os' → os' = f.cells i) (hnm : n ≠ m)
    (h : EA K b t s fun as s1 => as = [vA o n xs, vA o m ys] ∧ (o = true → s1.os[n]? = some (.lst xs) ∧ s1.os[m]? = some (.lst ys)) ∧ ∀ r os', f.post i r os' → aft s1 Φ r) : EV K b (tCallG (SpB K f) E t) s Φ := by
  cases o with
  | false =>
    refine ev_call0 fun σ H tv tl Hd ps R Q k => h σ H tv tl Hd ps R Q fun vs H' as s' Hd' ps' g => k vs H' as s' Hd' ps' ?_
    obtain ⟨rfl, _, g⟩ := g
    exact ⟨i, by rw [hi]; rfl, by rw [hc]; rfl, rfl, hp, g, xok_no hx⟩
  | true =>
    refine ev_call2 n m hnm fun σ H tv tl Hd ps R Q k => h σ H tv tl Hd ps R Q fun vs H' as s' Hd' ps' g => k vs H' as s' Hd' ps' ?_
    obtain ⟨rfl, g1, g⟩ := g
    obtain ⟨g2, g3⟩ := g1 rfl
    refine ⟨i, .lst xs, .lst ys, [], rfl, by rw [hi]; rfl, by rw [hc]; rfl, g2, g3, (fun z => nomatch z), (fun z => nomatch z), rfl, hp, fun r c c' hr => ?_, hx⟩
    have e := hq r _ hr
    rw [hc] at e
    cases e
    rw [put_same g2, put_same g3]
    exact g r _ hr
theorem ev_callA1 {E : L2.St → XK} {o : Bool} {n : Nat} {xs : List PyData} {i : f.I} (hi : f.args i = [vA o 0 xs]) (hc : f.cells i = if o then [.lst xs] else []) (hp : f.pre i) (hx : ∀ x os', ¬ f.xpost i x os') (hq : ∀ r os', f.post i r os' → os' = f.cells i)
    (h : EA K b t s fun as s1 => as = [vA o n xs] ∧ (o = true → s1.os[n]? = some (.lst xs)) ∧ ∀ r os', f.post i r os' → aft s1 Φ r) : EV K b (tCallG (SpB K f) E t) s Φ := by
  cases o with
  | false =>
    refine ev_call0 fun σ H tv tl Hd ps R Q k => h σ H tv tl Hd ps R Q fun vs H' as s' Hd' ps' g => k vs H' as s' Hd' ps' ?_
    obtain ⟨rfl, _, g⟩ := g
    exact ⟨i, by rw [hi]; rfl, by rw [hc]; rfl, rfl, hp, g, xok_no hx⟩
  | true =>
    refine ev_call1 n fun σ H tv tl Hd ps R Q k => h σ H tv tl Hd ps R Q fun vs H' as s' Hd' ps' g => k vs H' as s' Hd' ps' ?_
    obtain ⟨rfl, g1, g⟩ := g
    have g2 := g1 rfl
    refine ⟨i, .lst xs, [], rfl, by rw [hi]; rfl, by rw [hc]; rfl, g2, (fun z => nomatch z), rfl, hp, fun r c hr => ?_, fun x c' q => absurd q (hx x _)⟩
    have e := hq r _ hr
    rw [hc] at e
    cases e
    rw [put_same g2]
    exact g r _ hr
theorem put_last {ss : List (Option A)} {cs : List C} {c c' : C} : (S.mk ss (cs ++ [c])).put cs.length c' = S.mk ss (cs ++ [c']) := by
  show S.mk ss ((cs ++ [c]).set cs.length c') = _
  rw [List.set_append_right _ _ (Nat.le_refl _), Nat.sub_self]
  rfl
theorem vm_appL {ss : List (Option A)} {cs : List C} {ds : List PyData} {z : PyData} (hl : ds.length ≤ 100000) (q : Φ (.d .none) ⟨ss, cs ++ [.lst (ds ++ [z])]⟩) : VM K b rAppend (.o cs.length) [.d z] ⟨ss, cs ++ [.lst ds]⟩ Φ :=
  vm_append List.getElem?_concat_length (Nat.lt_of_le_of_lt hl (by decide)) (by rw [put_last]; exact q)
theorem vm_popL {ss : List (Option A)} {cs : List C} {ds : List PyData} {z : PyData} (q : Φ (.d z) ⟨ss, cs ++ [.lst ds]⟩) : VM K b rPop (.o cs.length) [] ⟨ss, cs ++ [.lst (ds ++ [z])]⟩ Φ :=
  vm_pop List.getElem?_concat_length (by rw [List.length_append, List.length_singleton, Nat.add_sub_cancel, List.getElem?_append_right (Nat.le_refl _), Nat.sub_self]; rfl) (by rw [put_last, List.dropLast_concat]; exact q)
theorem get_last {cs : List C} {c : C} : (cs ++ [c])[cs.length]? = some c := List.getElem?_concat_length
theorem sh_int {i : Int} : SeqAt.shaped (.int i) = true := rfl
theorem sh_bool {i : Bool} : SeqAt.shaped (.bool i) = true := rfl
theorem v2_eqI {i j : Int} (q : Φ (.d (.bool (decide (i = j)))) s) : V2 K b (rEqD K) (.d (.int i)) (.d (.int j)) s Φ := v2_eq rfl rfl rfl rfl q
theorem v2_neI {i j : Int} (q : Φ (.d (.bool (!decide (i = j)))) s) : V2 K b (rNeD K) (.d (.int i)) (.d (.int j)) s Φ := v2_ne rfl rfl rfl rfl q
theorem v2_eqB {i j : Bool} (q : Φ (.d (.bool (i == j))) s) : V2 K b (rEqD K) (.d (.bool i)) (.d (.bool j)) s Φ := v2_eq rfl rfl rfl rfl q
theorem v2_neB {i j : Bool} (q : Φ (.d (.bool (!(i == j)))) s) : V2 K b (rNeD K) (.d (.bool i)) (.d (.bool j)) s Φ := v2_ne rfl rfl rfl rfl q
theorem v2_eqS {i j : Str} (z1 : SeqAt.shaped (.str i) = true) (z2 : SeqAt.shaped (.str j) = true) (q : Φ (.d (.bool (i == j))) s) : V2 K b (rEqD K) (.d (.str i)) (.d (.str j)) s Φ := v2_eq rfl rfl z1 z2 q
theorem v2_neS {i j : Str} (z1 : SeqAt.shaped (.str i) = true) (z2 : SeqAt.shaped (.str j) = true) (q : Φ (.d (.bool (!(i == j)))) s) : V2 K b (rNeD K) (.d (.str i)) (.d (.str j)) s Φ := v2_ne rfl rfl z1 z2 q
theorem v2_ixV {ds : List PyData} {i : Int} {z : PyData} (h : Vw s x (.list ds)) (e : atI ds i = some z) (q : Φ (.d z) s) : V2 K b (rIx K) x (.d (.int i)) s Φ := by
  cases x with
  | d d => cases h; exact v2_ixL e q
  | o k =>
    obtain ⟨xs, hk, e2⟩ := h
    cases e2
    exact v2_ixO hk e q
  | p _ _ => exact h.elim
theorem atI_n {α : Type} {xs : List α} {i : Nat} {z : α} (h : xs[i]? = some z) : atI xs (i : Int) = some z := atI_nat h
theorem vc_lenV {ds : List PyData} (h : Vw s x (.list ds)) (q : Φ (.d (.int ds.length)) s) : VC K b (fun xs H Q => ∃ x n, xs = [x] ∧ LenV K x H n ∧ Q (.int n) H) [x] s Φ := vc_len (.inl h) q
theorem vc_lenT {ds : List PyData} (q : Φ (.d (.int ds.length)) s) : VC K b (fun xs H Q => ∃ x n, xs = [x] ∧ LenV K x H n ∧ Q (.int n) H) [.d (.tuple ds)] s Φ := vc_len (.inr rfl) q
theorem v2_isBA {i j : Bool} (q : Φ (.d (.bool (decide (i = j)))) s) : V2 K b rIsA (.d (.bool i)) (.d (.bool j)) s Φ := fun σ H tv tl Hd ps v w R a1 a2 Q k => by
  cases a1; cases a2
  exact .inr ⟨i, j, rfl, rfl, k _ H _ s Hd ps q R (.bl _)⟩
theorem v2_notBA {i j : Bool} (q : Φ (.d (.bool (!decide (i = j)))) s) : V2 K b rNotA (.d (.bool i)) (.d (.bool j)) s Φ := fun σ H tv tl Hd ps v w R a1 a2 Q k => by
  cases a1; cases a2
  exact .inr ⟨i, j, rfl, rfl, k _ H _ s Hd ps q R (.bl _)⟩
def SmC (a : Int × Int) : Prop := Sm a.1 ∧ Sm a.2
end
end Dw

/-! super().__init__(..) in an error's own __init__, the error two and more deep over ValueError -/
namespace Dw
open PySem
open _root_.L2
section
open PySem.W PySem.Calls PyProof.Rows
variable {prog : Program} {w : World} {A : Around} {E : Value → Shared → Prop} {h : Heap} {g : Array GenState} {d : Drawn} {t : Nat} {os : OsState}
variable {nm q : Str} {C N : Addr} {bs bm : List Value} {hdct : Bool} {sn : List Str} {sub : List Value} {ab : Bool} {col : Option Bool} {dd : Option Addr} {k0 k1 k2 k3 k5 : Option Value}
theorem call_mwV {u e t0 : Addr} {rest : List Value} {Q : Value → Shared → Prop}
    (hC : h.get? C = some (excClassObj nm q C N bs bm hdct sn sub ab col dd k0 k1 k2 k3 k5 "ValueError.__new__")) (he : h.get? e = some (HandSPX.excO C t0)) (hu : h.get? u = some (kxs_mw "ValueError.__init__" e)) (hrest : rest.length ≤ sizeLine)
    (hq : ∀ h' t1, (∀ b o, b ≠ e → h.get? b = some o → h'.get? b = some o) → h'.get? e = some (HandSPX.excO C t1) → Q .none ⟨h', g, d, t, os⟩) :
    wpAny (model prog w) A (call (.ref u) rest) Q E ⟨h, g, d, t, os⟩ := by
  refine wpAny_call (codeAny_of_tree ?_)
  show wpAny _ A.in1 (callAny (.ref u) ⟨rest, []⟩) _ _ _
  simp only [callAny]
  refine wpAny_bind (wpAny_load hu ?_)
  simp only [kxs_mw, show (Value.type "method-wrapper" == Value.type "method" || Value.type "method-wrapper" == Value.type "builtin_function_or_method" || Value.type "method-wrapper" == Value.type "method-wrapper") = true by decide, if_true]
  refine W.KFB.if_so (by decide) ?_
  refine wpAny_bind (ESX.check_bound F.excBase_ValueError hC he rfl ?_)
  refine wpAny_bind (wpAny_pure (wpAny_pure ?_))
  refine ⟨Code.quiet_builtin _ (by decide +kernel), codeAny_builtin F.excBase_ValueError.initEntry ?_⟩
  rw [Around.under_plainId F.excBase_ValueError.init.plain _]
  wp_walk
  refine hq _ h.objs.size (fun b o hb ho => ?_) ?_
  · rw [Heap.get?_update_other _ _ (Ne.symm hb)]
    exact Heap.get?_push_of_some _ ho
  · rw [Heap.get?_update_self _ (Heap.get?_push_of_some _ he) rfl]
    rfl
end
/-- what the written part says for super() in the __init__ of the class at C: its cell, its code -/
structure SupC (K : PySem.W.Frag) (P : Program) (C cc cda : Addr) : Prop where
  cell : ∃ cl cld csl, K.lookup cc = some ⟨cl, cld, .cell (some (.ref C)), csl⟩
  code : ∃ ccl cdd vs ccs file tf, K.lookup cda = some ⟨ccl, cdd, .fields vs, ccs⟩ ∧ vs[2]? = some (.str file tf) ∧ (P.main.file == file) = true
  sup : PySem.W.ks_superIn K C C "__init__" = some (some (.builtin "ValueError.__init__"))
  sb : PySem.W.subIn K (.ref C) (.type "ValueError") = some true
  any : PySem.W.nsIn K cStatics "thirdparty.any" = some none
  mro : PySem.W.mroIn K C (.ref C) = some true
/-- names: the parameters first; no cells of its own; free: __class__ alone -/
structure FnScopeS (N P : List Str) (sc : Scope) : Prop where
  kind : sc.kind = .function
  co : sc.isCoroutine = false
  gen : sc.isGenerator = false
  nd : N.Nodup
  pre : N.take P.length = P
  par : ∀ x ∈ P, sc.names.lookup x = some .local
  nocell : ∀ y ∈ sc.names, y.2 ≠ .cell
  fre : ∀ x, sc.names.lookup x = some .free → x = "__class__"
  hs : sc.names.lookup ("super" : Str) = some .globalImplicit
  hc : sc.names.lookup ("__class__" : Str) = some .free
/-- such a def -/
structure FunS (K : PySem.W.Frag) (P : Program) (x qual : Str) (params : Arguments) (body : List Stmt) (scope : Scope) (C : Addr) (f : Addr) (fd : FuncData) : Prop where
  ex : ∃ (oc : Value) (od : Option Addr) (kV doc pm : Value) (an : Option Addr) (cda cc : Addr) (ct : Value) (osl : Array (Option Value)),
    fd = PySem.W.fnX x qual params body scope [("__class__", cc)] .none kV doc pm an (.ref cda) ct ∧ K.lookup f = some ⟨oc, od, .func fd, osl⟩ ∧ PySem.W.codeIn K (.ref cda) qual = true ∧ SupC K P C cc cda
  kp : PySem.W.keepIn K (.ref f) = true
def cxS (CX : CXT) (P : Program) (w : World) (K : PySem.W.Frag) (mg : Str → Option Value) (base : Heap) (N : List Str) (qual : Str) (scope : Scope) (f : Addr) (cd : Value) (cc : Addr) (A : Around) (outer : List Env) (s : Shared) (H : Hp) (E : XK) : Cx where
  prog := P
  w := w
  K := K
  mg := mg
  base := base
  A := A.deeper (PySem.W.ksEnv qual scope s.heap.objs.size f cd cc)
  N := N
  s_0 := s
  H_0 := H
  env := PySem.W.ksEnv qual scope s.heap.objs.size f cd cc
  outer := outer
  stack := PySem.W.ksEnv qual scope s.heap.objs.size f cd cc :: outer
  ex := []
  calm := true
  fn := fun _ => false
  pn := []
  xe := fun e s' => wpAny (model P w) (A.deeper (PySem.W.ksEnv qual scope s.heap.objs.size f cd cc)) (leaving (PySem.W.ksEnv qual scope s.heap.objs.size f cd cc) e) (fun _ s'' => CX outer H s E e s'') (fun e' s'' => CX outer H s E e' s'') s'
theorem zip_rev_lookup {ps : List Str} (nd : ps.Nodup) : ∀ {us : List Value} {i : Nat} {y : Str} {u : Value}, ps[i]? = some y → us[i]? = some u → (ps.zip us).reverse.lookup y = some u := by
  have key : ∀ {l : List (Str × Value)} {y : Str} {u : Value}, (l.map (·.1)).Nodup → (y, u) ∈ l → l.lookup y = some u := by
    intro l
    induction l with
    | nil => intro y u _ h; cases h
    | cons p l ih =>
      intro y u nd h
      obtain ⟨a, v⟩ := p
      rw [List.map_cons, List.nodup_cons] at nd
      rcases List.mem_cons.mp h with e | h
      · cases e
        simp [List.lookup]
      · have ne : y ≠ a := fun e => nd.1 (by rw [← e]; exact List.mem_map_of_mem (f := (·.1)) h)
        have e : (y == a) = false := by simpa using ne
        simp [List.lookup, e, ih nd.2 h]
  intro us i y u h1 h2
  have sub : ∀ {ps : List Str} {us : List Value}, ((ps.zip us).map (·.1)).Sublist ps := by
    intro ps us
    have e : (ps.zip us).map (·.1) = ps.take (min ps.length us.length) := by
      induction ps generalizing us with
      | nil => simp
      | cons p ps ih =>
        cases us with
        | nil => simp
        | cons u us => simp [ih, Nat.add_min_add_right]
    rw [e]
    exact List.take_sublist _ _
  refine key ?_ ?_
  · rw [List.map_reverse]
    exact List.pairwise_reverse.mpr ((nd.sublist sub).imp fun h => h.symm)
  · rw [List.mem_reverse]
    refine List.mem_of_getElem? (i := i) ?_
    rw [List.getElem?_zip_eq_some]
    exact ⟨h1, h2⟩
theorem cell_of {f : Str} {cc c : Addr} {x : Str} (h : List.lookup x [(("__class__" : Str), cc)] = some c) : x = "__class__" ∧ c = cc := by
  by_cases e : x = "__class__"
  · subst e
    simp [List.lookup] at h
    exact ⟨rfl, h.symm⟩
  · have e' : (x == ("__class__" : Str)) = false := by simpa using e
    simp [List.lookup, e'] at h
theorem inv_startS {CX : CXT} {P : Program} {w : World} {K : PySem.W.Frag} {mg : Str → Option Value} {base : Heap} {N ps : List Str} {qual : Str} {scope : Scope} {f : Addr} {cd : Value} {C cc cda : Addr} {A : Around} {outer : List Env} {s : Shared} {h1 : Heap} {tk : Nat} {H : Hp} {E : XK} {us : List Value} {vs : List V}
    (S : FnScopeS N ps scope) (SC : SupC K P C cc cda) (hd : A.handled = none) (e0 : Env0 P w K mg base A outer s H) (hl : vs.length = ps.length) (r : Vals vs us)
    (hns : h1.Ns s.heap.objs.size (fun x => (ps.zip us).reverse.lookup x)) (hk : ∀ b o, s.heap.get? b = some o → h1.get? b = some o) :
    Inv (cxS CX P w K mg base N qual scope f cd cc A outer s H E) [] (L2.start N vs) H { s with heap := h1, toks := tk } := by
  have hpl : ps.length ≤ N.length := by have := congrArg List.length S.pre; rw [List.length_take] at this; omega
  have noA : ∀ b : Addr, b ∉ (cxS CX P w K mg base N qual scope f cd cc A outer s H E).ex := fun b z => absurd (show b ∈ ([] : List Addr) from z) (by simp)
  obtain ⟨cl, cld, csl, hcell⟩ := SC.cell
  have hb := e0.mod.kin _ _ hcell
  refine ⟨⟨e0.mod, S.kind, rfl, rfl, Nat.le_refl _, fun y z c h1 h2 => ?_, fun y hy => ?_, fun y c h _ => ?_, fun _ => hd, Around.frames_deeper e0.frames, .inr ⟨rfl, rfl⟩, fun b z => absurd z (noA b), e0.bs, e0.bsz, fun b _ _ => noA b, fun b z => absurd z (noA b), e0.funs, e0.frf⟩,
    rfl, e0.bare, Un.kept hk, ⟨_, hns, fun i y v h1 h2 h3 => ?_⟩, fun y c h => ?_, e0.hok.fresh (Nat.le_refl _), fun y c h => ?_, fun p hp => absurd (show p ∈ ([] : List (Addr × Obj)) from hp) (by simp), e0.hok.kept hk, ?_⟩
  · exact (cell_of (f := y) h1).1.trans (cell_of (f := y) h2).1.symm
  · have hy : scope.names.lookup y = some .cell ∨ scope.names.lookup y = some .free := hy
    rcases hy with hy | hy
    · exact absurd rfl (S.nocell _ (PySem.mem_of_lookup hy))
    · rw [S.fre y hy]
      exact ⟨cc, by simp [cxS, List.lookup]⟩
  · cases (show false = true from h)
  · have hi : i < vs.length := by
      unfold L2.start at h2
      by_cases hi : i < vs.length
      · exact hi
      · rw [List.getElem?_append_right (by simpa using hi)] at h2
        rw [List.getElem?_replicate] at h2
        split at h2 <;> cases h2
    have ha : vs[i]? = some v := by
      unfold L2.start at h2
      rw [List.getElem?_append_left (by simpa using hi), List.getElem?_map] at h2
      cases e : vs[i]? with
      | none => rw [e] at h2; cases h2
      | some a => rw [e] at h2; cases h2; rfl
    obtain ⟨u, hu, rv⟩ := r.get ha
    have hp : ps[i]? = some y := by
      rw [← S.pre, List.getElem?_take_of_lt (by omega)]; exact h1
    have ndP : ps.Nodup := by rw [← S.pre]; exact S.nd.sublist (List.take_sublist _ _)
    exact ⟨u, rv, .inl ⟨S.par y (List.mem_of_getElem? hp), zip_rev_lookup ndP hp hu⟩⟩
  · obtain ⟨rfl, rfl⟩ := cell_of (f := y) h
    exact ⟨_, _, hk _ _ (e0.bs _ _ hb).1, rfl⟩
  · obtain ⟨rfl, rfl⟩ := cell_of (f := y) h
    exact (e0.bs _ _ hb).2
  · unfold L2.start
    show _ = N.length
    rw [List.length_append, List.length_map, List.length_replicate]
    omega

theorem pin1 {X : Cx} {σ : L2.St} {H : Hp} {s : Shared} {u : Addr} {o : Obj} (I : Inv X [] σ H s) (h1 : s.heap.get? u = some o) (h2 : H u = none) (h3 : u ≠ X.env.locals) (h4 : u ∉ X.fs) (h5 : ∀ v, o.data ≠ .cell v) : Inv X [(u, o)] σ H s :=
  I.pins_of fun p hp => by
    rw [List.mem_singleton.mp hp]
    exact ⟨h1, h2, h3, h4, h5⟩
theorem unpin {X : Cx} {σ : L2.St} {H : Hp} {s : Shared} {l : List (Addr × Obj)} (I : Inv X l σ H s) : Inv X [] σ H s := I.pins_of fun p hp => by simp at hp
section
open PySem.W PySem.Calls PyProof.Rows
/-- THE RULE: an __init__ that begins with super().__init__(e, ..) -/
theorem fn_super {CX : CXT} {P : Program} {w : World} {K : PySem.W.Frag} {mg : Str → Option Value} {base : Heap} {k : Nat} {f : Addr} {name qual : Str} {params : Arguments} {rest : List Stmt} {scope : Scope} {dV kV doc pm ct oc : Value} {an od : Option Addr}
    {osl : Array (Option Value)} {N ps : List Str} {sp : Sp} {C cc cda : Addr} {p0 p1 p2 p3 p4 : Pos} {e : Expr} {es : List Expr} {pl : Sem Bool} {ar : Arg}
    (lk : K.lookup f = some ⟨oc, od, .func (fnX name qual params (.Expr (.Call (.Attribute (.Call (.Name "super" p0) [] [] p1) "__init__" p2) (e :: es) [] p3) p4 :: rest) scope [("__class__", cc)] dV kV doc pm an (.ref cda) ct), osl⟩)
    (hcd : codeIn K (.ref cda) qual = true) (S : FnScopeS N ps scope) (SC : SupC K P C cc cda) (T : OexC K C) (hmg : mg "super" = none) (htop : (P.main.scope.names.lookup ("super" : Str)).isSome = false)
    (hp : (params.posonlyargs ++ params.args).head? = some ar) (hps : ps.head? = some ar.arg)
    (len : ∀ vs H Q E, sp vs H Q E → vs.length = ps.length)
    (hi : ∀ L, interactive (ksEnv qual scope L f (.ref cda) cc) = false)
    (hsw : ∀ L, swapsWith (.Call (.Attribute (.Call (.Name "super" p0) [] [] p1) "__init__" p2) (e :: es) [] p3) none p4.line (ksEnv qual scope L f (.ref cda) cc) = pure false)
    (hev : ∀ L, eval (.Call (.Attribute (.Call (.Name "super" p0) [] [] p1) "__init__" p2) (e :: es) [] p3) (ksEnv qual scope L f (.ref cda) cc) = (do
      let ov ← attributeBase (.Call (.Name "super" p0) [] [] p1) "__init__" (ksEnv qual scope L f (.ref cda) cc) (eval (.Call (.Name "super" p0) [] [] p1) (ksEnv qual scope L f (.ref cda) cc))
      standAt p2.atName
      let (fx, first) ← holding [ov] (getMethod ov "__init__" pl)
      callWith p3 fx first (backTo p3 (starEach (e :: es) (ksEnv qual scope L f (.ref cda) cc))) []))
    (he : ∀ L, starEach (e :: es) (ksEnv qual scope L f (.ref cda) cc) = (false, eval e (ksEnv qual scope L f (.ref cda) cc)) :: starEach es (ksEnv qual scope L f (.ref cda) cc))
    (hpl : ∀ L, (backTo p3 (starEach es (ksEnv qual scope L f (.ref cda) cc))).any (·.1) = false)
    (hbody : ∀ (A : Around) (outer : List Env) (s : Shared) (H : Hp) (vs : List V) (Q : VK) (E : XK), Room k (A.deeper (ksEnv qual scope s.heap.objs.size f (.ref cda) cc)) → sp vs H Q E →
      ∃ ta t a, PA (cxS CX P w K mg base N qual scope f (.ref cda) cc A outer s H E) (e :: es) ta ∧ PSs (cxS CX P w K mg base N qual scope f (.ref cda) cc A outer s H E) rest t ∧ vs.head? = some (.ref a) ∧ H a = some (exo a C none) ∧
        ta (L2.start N vs) H fun us H1 => us.length ≤ 1000 ∧ H1 a = some (exo a C none) ∧ t { nx := fun _ H' => Q .non H', rt := Q } (L2.start N vs) H1) :
    FnOk P w K mg base CX (k + 1) f (fnX name qual params (.Expr (.Call (.Attribute (.Call (.Name "super" p0) [] [] p1) "__init__" p2) (e :: es) [] p3) p4 :: rest) scope [("__class__", cc)] dV kV doc pm an (.ref cda) ct) ps sp := by
  refine ⟨len, fun A outer s H args us vs Q E hr e0 hb r hsp => ?_⟩
  have hl := len _ _ _ _ hsp
  have KX : K.In s.heap := e0.mod.kin.keeps fun b o e => (e0.bs b o e).1
  have lim : s.heap.NoLimit := e0.mod.nolimit.keeps fun b o e => (e0.bs b o e).1
  refine ks_codeAny_call_defAt (binds := ps.zip us) hr.depth (KX _ _ lk) rfl lim (codeRec_of KX hcd) rfl hb S.nocell (fun y hy => S.par y.1 (List.of_mem_zip hy).1) (fun h1 hns hk => ?_) S.co S.gen S.kind
  have I := inv_startS (qual := qual) (CX := CX) (P := P) (w := w) (mg := mg) (base := base) (N := N) (ps := ps) (f := f) (cd := .ref cda) (A := A) (outer := outer) (tk := s.toks + (ps.zip us).length) (E := E) S SC hr.hd e0 hl r hns hk
  obtain ⟨ta, t, a, hA, hS, hva, hHa, hq⟩ := hbody A outer s H vs Q E (hr.deeper _) hsp
  obtain ⟨nm, q, CN, bs, bm, sn, sub, ab, col, dd, k0, k1, k2, k3, k5, hC, hbm⟩ := T.cls
  have hcl : clsIn K C = some { name := nm, bases := bs, mro := .ref C :: bm, ns := CN, qualname := q, hasDict := true, slotNames := sn, subclasses := sub, abstract := ab, collection := col, hasDel := false } := by unfold clsIn; rw [hC] <;> rfl
  obtain ⟨t1, ho⟩ := exo_at I.hok hHa
  obtain ⟨ccl, cdd, cvs, ccs, file, tf, hcode, hvs, hfile⟩ := SC.code
  obtain ⟨cl, cld, csl, hcell⟩ := SC.cell
  obtain ⟨mb, hb1, hb2⟩ := I.mod.blt
  have K1 := I.kIn
  have hself : (ps.zip us).reverse.lookup ar.arg = some (.ref a) := by
    have ndP : ps.Nodup := by rw [← S.pre]; exact S.nd.sublist (List.take_sublist _ _)
    refine zip_rev_lookup ndP (i := 0) (by rw [← List.head?_eq_getElem?]; exact hps) ?_
    cases r with
    | nil => cases hva
    | cons h _ => cases hva; rw [show _ = Value.ref a from h]; rfl
  have har : scope.names.lookup ar.arg = some .local := S.par _ (List.mem_of_mem_head? hps)
  obtain ⟨hh, g, d, tk, os⟩ := s
  have I' := I
  show PySem.wpAt (model P w) (A.deeper (ksEnv qual scope hh.objs.size f (.ref cda) cc)) (.func _ (ksEnv qual scope hh.objs.size f (.ref cda) cc)) (execs (_ :: rest) (ksEnv qual scope hh.objs.size f (.ref cda) cc)) _ _ _
  refine ks_wpAt_execs_cons (ks_wpAt_Expr_any ?_ (hi _) (hsw _))
  refine ks_wpAt_MethodCall (pl := pl) ?_ (hev _)
  refine ks_wpAt_super_base (f := f) (cc := cda) S.hs S.hc (by decide) rfl (K1 _ _ lk) rfl hp rfl (K1 _ _ hcode) rfl hvs hfile htop ?_
  refine ks_loadName_global S.kind S.hs (loadGlobal_builtin (I.mod.glob.keeps I.bk) hmg (hb1.keeps I.bk) ((hb2 _ (by decide)).trans (by decide +kernel)) ⟨rfl, ?_⟩)
  refine wpAny_loadName_free S.kind S.hc rfl ⟨_, K1 _ _ hcell, rfl⟩ ?_
  refine wpAny_loadName_local S.kind har hns hself ?_
  refine ks_wpAny_isType_cls (K1 _ _ hC) rfl ⟨rfl, ?_⟩
  refine ks_wpAny_call_super (K1 _ _ hC) rfl ho rfl (fun c z => by cases z) (looks_mroIn K1 SC.mro) (fun h2 e2 kp2 => ?_)
  have I2 : Inv (cxS CX P w K mg base N qual scope f (.ref cda) cc A outer ⟨hh, g, d, tk, os⟩ H E) [] (L2.start N vs) H ⟨h2, g, d, tk + (ps.zip us).length, os⟩ := I.kept (t' := tk + (ps.zip us).length) kp2
  have K2 := I2.kIn
  have hf := SC.sup
  unfold ks_superIn at hf
  rw [hcl] at hf
  have J2 : InstAt h2 a { cls := .ref C, dict := none, data := .fields #[.ref t1, .none, .none, .none, .bool false, .none] } C none := ⟨kp2 _ _ ho, rfl, rfl, trivial⟩
  have hxC : a ≠ C := ks_ne K2 J2 hcl
  refine kxs_getMethod kxs_ValueError e2 (looks_opaque K2 SC.any) (fun A Q E s k q => wpAny_bind ((looks_clsIn K2 hcl) A _ E s k (wpAny_pure q))) rfl K2 hf (J2.type.andThen (looks_subIn K2 SC.sb)) hxC (by decide) ?_
  have hget : (h2.push (kxs_mw "ValueError.__init__" a)).get? h2.objs.size = some (kxs_mw "ValueError.__init__" a) := Heap.get?_push_at rfl rfl
  have I3 := pin1 (I2.kept (h' := h2.push (kxs_mw "ValueError.__init__" a)) (t' := tk + (ps.zip us).length + 1) fun b o e => Heap.get?_push_of_some _ e) hget (I2.hok.fresh (Nat.le_refl _)) (Nat.ne_of_gt I2.lt) (I2.nofs (Nat.le_refl _)) (fun v z => by cases z)
  rw [he]
  refine kxs_callWith (i := "ValueError.__init__") (x := a) (by show (false || (backTo p3 (starEach es _)).any (·.1)) = false; rw [hpl]; rfl) (evalArgs_plain ?_)
  have hA' := hA.run p3 _ _ _ _ _ I3 hq
  rw [show starEach (e :: es) (cxS CX P w K mg base N qual scope f (.ref cda) cc A outer ⟨hh, g, d, tk, os⟩ H E).env = _ from he _] at hA'
  refine thn hA' fun us4 s4 ⟨vs4, H4, I4, r4, hlen4, hHa4, q4⟩ => ⟨(I4.pin _ (List.mem_append_right _ (List.mem_singleton.mpr rfl))).1, ?_⟩
  obtain ⟨t4, ho4⟩ := exo_at I4.hok hHa4
  have hu4 := (I4.pin _ (List.mem_append_right _ (List.mem_singleton.mpr rfl))).1
  have K4 := I4.kIn
  obtain ⟨hp4, g4, d4, tk4, os4⟩ := s4
  refine call_mwV (K4 _ _ hC) ho4 hu4 (by show us4.length ≤ sizeLine; rw [← Paired.length r4, sizeLine_eq]; omega) fun h5 t5 k5 hx5 => ?_
  have J := I4.write (t' := tk4) (x := a) (e := a) (o := exo a C none) (by rw [hHa4]; exact True.intro) (.inl rfl) k5 ⟨_, hx5⟩ (exo_ok hx5)
  have eu : upd H4 a (exo a C none) = H4 := by
    funext b
    by_cases hb : b = a
    · rw [hb, upd_same, hHa4]
    · rw [upd_ne hb]
  rw [eu] at J
  refine PySem.wpAt_of_wpAny (wpAny_mono (hS.run [] _ _ _ _ (unpin J) q4) (fun fl s' hs => ?_) fun e s' hs => hs)
  have fin : ∀ {σ' : L2.St} {H' : Hp} {v : V} {u : Value}, Inv (cxS CX P w K mg base N qual scope f (.ref cda) cc A outer ⟨hh, g, d, tk, os⟩ H E) [] σ' H' s' → RelV v u → Q v H' → CE outer P w H ⟨hh, g, d, tk, os⟩ Q u s' :=
    fun {σ' H' v u} J rv q => ⟨v, H', J.os, J.bare, J.base, J.hok, rv, q⟩
  cases fl with
  | ret u =>
    obtain ⟨v, σ', H', J, rv, q⟩ := hs
    exact fin J rv q
  | next =>
    obtain ⟨σ', H', J, q⟩ := hs
    exact fin (v := V.non) (u := Value.none) J rfl q
  | brk =>
    obtain ⟨_, _, _, q⟩ := hs
    exact False.elim q
  | cont =>
    obtain ⟨_, _, _, q⟩ := hs
    exact False.elim q
end
end Dw

/-! errors over the engine: made, raised, caught, asked -/
namespace Dw
open PySem
open _root_.L2
/-! ### making, with the context told -/
section
open PySem.Spec PyProof.Rows
variable {X : Cx} {e : Expr} {es : List Expr} {ta : TA} {p pos : Pos}
theorem pmk_oexN {CX : CXT} {x : Str} {C fI : Addr} {k : Nat} {fd : FuncData} {ps : List Str} {sp : Sp} {ds : List Value} {dvs : List V} (T : OexC X.K C) (iC : PySem.W.findIn X.K (.ref C) "__init__" = some (some (.ref fI))) (tI : PySem.W.typeIn X.K (.ref fI) = some (.type "function"))
    (F1 : FnOk X.prog X.w X.K X.mg X.base CX k fI fd ps sp) (hr : Room (k + 1) X.A) (hb : Binds X.K fd ps ds) (hd : Vals dvs ds) (hx : Passes CX X (fun _ _ _ => False)) (hg : Gl X x) (hm : X.mg x = some (.ref C)) (ha : PA X (e :: es) ta)
    (hdb : (x == ("__debug__" : Str)) = false := by decide) (he : starEach (e :: es) X.env = (false, eval e X.env) :: starEach es X.env := by rfl) (hpl : (backTo pos (starEach es X.env)).any (·.1) = false := by rfl) :
    L2N.PMk X (.Call (.Name x p) (e :: es) [] pos) (tMkO C sp dvs ta) := by
  intro pins s σ H Q I h
  obtain ⟨nm, q, N, bs, bm, sn, sub, ab, col, dd, k0, k1, k2, k3, k5, hC, hbm⟩ := T.cls
  refine wpAny_Call_Name_kw (ld_glob I hg hm ?_ hdb)
  refine PySem.W.callWith_K (h₀ := X.base) I.ok.mod.kin T.kC (thn (ha.run pos pins s σ H _ I h) fun us s1 ⟨vs, H1, I1, r1, hz, q1⟩ => ⟨I1.kIn, ?_⟩) he hpl
  show wpAny _ _ (call (.ref C) us) _ _ _
  obtain ⟨hp, g, dr, tk, os⟩ := s1
  have hsz : hp.objs.size ≤ hp.objs.size + 1 := Nat.le_succ _
  have hn : H1 (hp.objs.size + 1) = none := I1.hok.fresh hsz
  have hq := q1 (hp.objs.size + 1) hn
  have kk : ∀ b o, hp.get? b = some o → ((hp.push (PySem.W.kdv_tup us)).push (PySem.HandSPX.excO C hp.objs.size)).get? b = some o := fun b o e => Heap.get?_push_of_some _ (Heap.get?_push_of_some _ e)
  have hget : ((hp.push (PySem.W.kdv_tup us)).push (PySem.HandSPX.excO C hp.objs.size)).get? (hp.objs.size + 1) = some (PySem.HandSPX.excO C hp.objs.size) := by heap_get
  have I2 : Inv X pins σ (upd H1 (hp.objs.size + 1) (exo (hp.objs.size + 1) C none)) ⟨(hp.push (PySem.W.kdv_tup us)).push (PySem.HandSPX.excO C hp.objs.size), g, dr, tk, os⟩ :=
    I1.laid (t' := tk) (a := hp.objs.size + 1) (o := exo (hp.objs.size + 1) C none) (h' := (hp.push (PySem.W.kdv_tup us)).push (PySem.HandSPX.excO C hp.objs.size)) kk hsz (exo_ok hget)
  have r2 : Vals (V.ref (hp.objs.size + 1) :: (vs ++ dvs)) (Value.ref (hp.objs.size + 1) :: (us ++ ds)) := .cons rfl (r1.append hd)
  have hl : (Value.ref (hp.objs.size + 1) :: us ++ ds).length = ps.length := by
    have e := r2.length
    rw [F1.len _ _ _ _ hq] at e
    exact e.symm
  have hus : us.length ≤ sizeLine := by
    rw [← Paired.length r1, sizeLine_eq]
    omega
  refine wpAny_call (PySem.HandSPX.call_own F.excBase_ValueError (fun Y => PySem.HandSPX.refsVE_contains Y bm hbm) (I1.kIn _ _ hC) (PySem.W.looks_findIn I1.kIn iC) (fun self => PySem.W.bind_fn I1.kIn self tI) hus
    (codeAny_mono (F1.run _ X.stack _ _ ⟨Value.ref (hp.objs.size + 1) :: us, []⟩ (Value.ref (hp.objs.size + 1) :: (us ++ ds)) _ _ (fun _ _ _ => False) (hr.make C us []) (I2.env0.make C us []) (hb _ (Value.ref (hp.objs.size + 1) :: us) I2.kIn hl) r2 hq) fun r s' hq' => ?_))
  cases r with
  | error er => exact hx pins σ _ _ er s' I2 hq'
  | ok fl =>
    cases fl with
    | ret u =>
      obtain ⟨v, H2, os2, bare2, un2, hok2, rv, ev, d, fs, ea, ed, hd1, q2⟩ := hq'
      subst ev
      obtain ⟨h2, g2, d2, t2, os'⟩ := s'
      obtain ⟨t0, G, J, kG, ge, hoe, na⟩ := mk_end0 (d2 := d2) (t2 := t2) I1 hsz kk un2 hok2 os2 bare2 ea ed hd1
      exact ⟨rv, _, _, _, ⟨G, g2, d2, t2, os'⟩, _, .ref C, some d, rfl, J, kG, ge, hoe, ⟨rfl, rfl, fun vs e => by cases e; rfl⟩, rfl, rfl, na, rfl, bare2, raises_own T.exC T.tyC, q2⟩
    | next => exact False.elim hq'
    | brk => exact False.elim hq'
    | cont => exact False.elim hq'
theorem passN {X : Cx} : Passes (L2N.CX X.prog X.w) X E0 := fun _ _ _ _ _ _ _ h => by
  obtain ⟨_, _, _, _, _, _, _, _, _, _, _, _, z⟩ := h
  exact z.elim
end

/-! ### fields -/
/-- what may stand in an error's text -/
def Fm (w : V) : Prop := (∃ y : Str, w = .str y ∧ y.length ≤ 4096) ∨ ∃ i : Int, w = .int i ∧ i.natAbs.log2 < 1920
def FmD : PyData → Prop
  | .str y => y.length ≤ 4096
  | .int i => i.natAbs.log2 < 1920
  | _ => False
def Part (σ : L2.St) (H : Hp) (t : TE) : Prop := ∀ Q : VK, (∀ y : Str, y.length ≤ 4096 → Q (.str y) H) → t σ H Q
section
variable {σ : L2.St} {H : Hp}
theorem part_c {x : Str} (h : x.length ≤ 4096) : Part σ H (tC (.str x)) := fun Q q => q x h
theorem part_f {i : Nat} {v : V} (h : σ[i]? = some (some v)) (hv : Fm v) : Part σ H (tFmt (tVar i)) := fun Q q => ⟨v, h, by
  rcases hv with ⟨y, rfl, hy⟩ | ⟨i, rfl, hi⟩
  · exact .inl ⟨y, rfl, Nat.le_trans hy (by decide), q y hy⟩
  · refine .inr ⟨i, rfl, hi, q _ ?_⟩
    have e := int_text_length_le (k := 1920) (by decide) hi
    show (Str.ofString (toString i)).length ≤ 4096
    rw [ofString_length]
    omega⟩
theorem js_ok : ∀ {ts : List TE} {acc : Str} {Q : Str → Hp → Prop}, (∀ t ∈ ts, Part σ H t) → acc.length + 4096 * ts.length ≤ sizeLine → (∀ out, Q out H) → tJs ts acc σ H Q
  | [], acc, Q, _, _, q => q acc
  | t :: ts, acc, Q, h, hl, q => h t List.mem_cons_self _ fun y hy => ⟨y, rfl, by
      rw [Str.length_append]
      rw [List.length_cons] at hl
      omega, js_ok (fun t ht => h t (List.mem_cons_of_mem _ ht)) (by
      rw [Str.length_append]
      rw [List.length_cons] at hl
      omega) q⟩
end
/-- C's __init__: the text of super() told from the arguments, each kept as a field -/
def spE (K : PySem.W.Frag) (C : Addr) (fs : List Str) : Sp := fun vs H Q _ => ∃ a ws, vs = .ref a :: ws ∧ ws.length = fs.length ∧ (∀ w ∈ ws, Fm w) ∧ H a = some (exo a C none) ∧
  ∀ dx, H dx = none → dx ≠ a → Q .non (upd (upd H dx (exd dx (fs.zip ws).reverse)) a (exo a C (some dx)))
theorem spE_len {K : PySem.W.Frag} {C : Addr} {fs : List Str} {n : Nat} (hn : fs.length + 1 = n) : ∀ vs H Q E, spE K C fs vs H Q E → vs.length = n := by
  rintro vs H Q E ⟨a, ws, rfl, hl, _⟩
  rw [List.length_cons, hl]
  exact hn
theorem ost1 {K : PySem.W.Frag} {C a : Addr} {f : Str} {v : V} {D : Ends} {σ : L2.St} {H : Hp} (T : OexC K C) (n : PySem.W.findIn K (.ref C) f = some none) (h0 : σ[0]? = some (some (.ref a))) {i : Nat} (h1 : σ[i]? = some (some v)) (ha : H a = some (exo a C none))
    (q : ∀ dx, H dx = none → dx ≠ a → D.nx σ (upd (upd H dx (exd dx [(f, v)])) a (exo a C (some dx)))) : tOst K f (tVar 0) (tVar i) D σ H := ⟨v, h1, .ref a, h0, a, C, rfl, T, n, .inl ⟨ha, q⟩⟩
theorem ost2 {K : PySem.W.Frag} {C a dx : Addr} {f : Str} {v : V} {D : Ends} {σ : L2.St} {H0 : Hp} {fs : List (Str × V)} (T : OexC K C) (n : PySem.W.findIn K (.ref C) f = some none) (h0 : σ[0]? = some (some (.ref a))) {i : Nat} (h1 : σ[i]? = some (some v)) (hne : dx ≠ a) (hl : fs.length ≤ 900)
    (q : D.nx σ (upd (upd H0 dx (exd dx ((f, v) :: fs))) a (exo a C (some dx)))) : tOst K f (tVar 0) (tVar i) D σ (upd (upd H0 dx (exd dx fs)) a (exo a C (some dx))) := ⟨v, h1, .ref a, h0, a, C, rfl, T, n, .inr ⟨dx, fs, upd_same, by rw [upd_ne hne, upd_same], hl, by
    have e : upd (upd (upd H0 dx (exd dx fs)) a (exo a C (some dx))) dx (exd dx ((f, v) :: fs)) = upd (upd H0 dx (exd dx ((f, v) :: fs))) a (exo a C (some dx)) := by
      funext b
      by_cases hb : b = dx
      · subst hb; rw [upd_same, upd_ne hne, upd_same]
      · rw [upd_ne hb]
        by_cases ha : b = a
        · subst ha; rw [upd_same, upd_same]
        · rw [upd_ne ha, upd_ne hb, upd_ne ha, upd_ne hb]
    rw [e]
    exact q⟩⟩
theorem pair_zip {K : PySem.W.Frag} {Hd : Hp} : ∀ {fs : List Str} {vs : List V} {xs : List PyData}, DrA K Hd vs xs → Paired (fun (w : Str × V) f => w.1 = f.1 ∧ Dr K Hd w.2 f.2) (fs.zip vs) (fs.zip xs)
  | [], _, _, _ => .nil
  | f :: fs, _, _, .nil => .nil
  | f :: fs, _, _, .cons h t => .cons ⟨rfl, h⟩ (pair_zip t)
theorem pair_rev {α β : Type} {G : α → β → Prop} : ∀ {xs : List α} {ys : List β}, Paired G xs ys → Paired G xs.reverse ys.reverse
  | _, _, .nil => .nil
  | _, _, .cons h t => by
    rw [List.reverse_cons, List.reverse_cons]
    exact pair_app (pair_rev t) (.cons h .nil)
section
variable {K : PySem.W.Frag} {b : B} {s s1 : S} {te ta tb tc : TE} {tt tu : TT} {t : TA} {x y : A} {Φ Ψ : A → S → Prop} {N : EE} {f : Spc}
theorem fm_of {H : Hp} {v : V} : ∀ {d : PyData}, FmD d → Dr K H v d → Fm v
  | .str y, h, e => by cases e; exact .inl ⟨_, rfl, h⟩
  | .int i, h, e => by cases e; exact .inr ⟨_, rfl, h⟩
/-- raise C(x, ..) -/
theorem go_raiseE {C : Addr} {fs : List Str} {W : WX} (h : EA K b t s fun as s1 => ∃ xs, as = xs.map A.d ∧ xs.length = fs.length ∧ xs.length ≤ 1000 ∧ (∀ x ∈ xs, FmD x) ∧ ∀ d σ H' tv ta Hd' ps', Rp K b s1 σ H' tv ta Hd' ps' → XvR K Hd' d (some (fs.zip xs).reverse) → W (.ref C) d σ H') :
    GO K b (fun _ σ H => tMkO C (spE K C fs) [] t σ H fun cls d H' => W cls d σ H') s N := fun D σ H tv tl Hd ps R _ =>
  h σ H tv tl Hd ps R _ fun vs H1 as s1 Hd1 ps1 h1 R1 a1 => by
    obtain ⟨xs, rfl, hl, h1000, hf, hx⟩ := h1
    have hda := da_of_ars a1
    have hlen := pair_len (da_paired hda)
    refine ⟨by omega, fun a ha => ?_⟩
    rw [List.append_nil]
    have fm : ∀ {vs : List V} {xs : List PyData}, DrA K Hd1 vs xs → (∀ x ∈ xs, FmD x) → ∀ w ∈ vs, Fm w := by
      intro vs xs h
      induction xs generalizing vs with
      | nil => cases h; intro _ w hw; cases hw
      | cons x xs ih =>
        cases h with
        | cons h t =>
          intro hf w hw
          rcases List.mem_cons.mp hw with e | hw
          · rw [e]; exact fm_of (hf x List.mem_cons_self) h
          · exact ih t (fun y hy => hf y (List.mem_cons_of_mem _ hy)) w hw
    refine ⟨a, vs, rfl, by omega, fm hda hf, upd_same, fun dx hdx hne => ⟨rfl, dx, (fs.zip vs).reverse, upd_same, by rw [upd_ne hne, upd_same], by rw [upd_ne hne] at hdx; exact hdx, ?_⟩⟩
    rw [upd_ne hne] at hdx
    have e : upd (del (upd (upd (upd H1 a (exo a C none)) dx (exd dx (fs.zip vs).reverse)) a (exo a C (some dx))) a) dx (.xd (fs.zip vs).reverse) = upd H1 dx (.xd (fs.zip vs).reverse) := by
      funext c
      by_cases hc : c = dx
      · subst hc; rw [upd_same, upd_same]
      · rw [upd_ne hc, upd_ne hc]
        by_cases hca : c = a
        · subst hca; rw [del_same]; exact ha.symm
        · rw [del_ne hca, upd_ne hca, upd_ne hc, upd_ne hca]
    rw [e]
    have R2 := R1.newD (.xd (fs.zip vs).reverse) hdx
    refine hx (some dx) _ _ _ _ _ _ R2 ⟨dx, _, rfl, upd_same, ?_⟩
    exact pair_mono (fun w f q => ⟨q.1, dp_up (same_new (none_of_same R1.e1 hdx)) _ _ q.2⟩) (pair_rev (pair_zip (fs := fs) hda))
/-- raise C('..') -/
theorem go_raise0 {C : Addr} {W : WX} (hx : ∀ σ H' tv ta Hd' ps', Rp K b s σ H' tv ta Hd' ps' → W (.ref C) none σ H') : GO K b (fun _ σ H => W (.ref C) none σ H) s N := fun D σ H tv tl Hd ps R _ => hx σ H tv tl Hd ps R
/-! ### try -/
theorem xvr_up {Hd Hd' : Hp} (e : Same Hd Hd') {d : Option Addr} : ∀ {fs : Option (List (Str × PyData))}, XvR K Hd d fs → XvR K Hd' d fs
  | none, h => h
  | some fs, ⟨a, ws, h1, h2, h3⟩ => ⟨a, ws, h1, e _ _ h2, pair_mono (fun w f q => ⟨q.1, dp_up e _ _ q.2⟩) h3⟩
/-- the exception at a, its dict d -/
def exX (K : PySem.W.Frag) (a : Addr) (d : Option Addr) (fs : Option (List (Str × PyData))) : Dw.A := .p (fun H v => v = .ref a ∧ XvR K H d fs) fun _ _ _ e h => ⟨h.1, xvr_up e h.2⟩
theorem Rp.enter {σ : L2.St} {H Hd : Hp} {tv : List V} {ta : List A} {ps : List Addr} (R : Rp K b s σ H tv ta Hd ps) : Rp K ⟨Hd, b.F, ps⟩ s σ H tv ta Hd ps :=
  ⟨Same.refl _, R.e1, R.e2, fun _ _ z => z, R.pl, R.nd, ⟨[], by simp⟩, R.fr, R.ex, R.cl, R.sl, R.ln, R.tm⟩
theorem Rp.back {s' : S} {σ σ' : L2.St} {H H' Hd Hd' : Hp} {tv tv' : List V} {ta ta' : List A} {ps ps' : List Addr} (R : Rp K b s σ H tv ta Hd ps) (R' : Rp K ⟨Hd, b.F, ps⟩ s' σ' H' tv' ta' Hd' ps') : Rp K b s' σ' H' tv' ta' Hd' ps' :=
  ⟨R.e0.trans R'.e0, R'.e1, R'.e2, fun a h1 h2 => R'.nw a h1 (R.nw a h1 h2), R'.pl, R'.nd, by
    obtain ⟨m1, e1⟩ := R.p0
    obtain ⟨m2, e2⟩ := R'.p0
    have e2 : ps' = ps ++ m2 := e2
    exact ⟨m1 ++ m2, by rw [e2, e1, List.append_assoc]⟩, R'.fr, R'.ex, R'.cl, R'.sl, R'.ln, R'.tm⟩
theorem Rp.tms {s' : S} {σ σ' : L2.St} {H H' Hd Hd' : Hp} {tv tv' : List V} {ta ta' : List A} {ps ps' : List Addr} (R : Rp K b s σ H tv ta Hd ps) (R' : Rp K ⟨Hd, b.F, ps⟩ s' σ' H' tv' ta' Hd' ps') : Rp K b s' σ' H' tv ta Hd' ps' := by
  refine (R.back R').tmp ?_
  obtain ⟨m2, e2⟩ := R'.p0
  have e2 : ps' = ps ++ m2 := e2
  rw [e2]
  exact pair_mono (fun _ _ q => ar_more (ar_up R'.e0 q)) R.tm
theorem go_try {tb : WX → TS} {ts : Addr → Value → Option Addr → TS} {c : Value} {i : Nat} {Wout : WX} (XP : Xv → S → Prop)
    (hb : ∀ b' (W : WX), (∀ x d σ H s tv ta Hd ps, XP x s → Rp K b' s σ H tv ta Hd ps → XvR K Hd d x.fs → W x.cls d σ H) → GO K b' (tb W) s N)
    (hs : ∀ x s1, XP x s1 → PySem.W.exmOne K x.cls c = some true ∧ ∀ a d, GO K b (ts a x.cls d) (s1.set i (exX K a d x.fs)) ⟨fun s2 => N.nx (s2.wp [i]), N.rt, fun s2 => N.bk (s2.wp [i]), fun s2 => N.ct (s2.wp [i])⟩) :
    GO K b (fun D σ H => tb (wAs K c i ts Wout D) D σ H) s N := fun D σ H tv tl Hd ps R k => by
  refine hb ⟨Hd, b.F, ps⟩ _ (fun x d σ1 H1 s1 tv1 ta1 Hd1 ps1 hx R1 hd => ?_) D σ H tv tl Hd ps R.enter ⟨fun σ' H' s' Hd' ps' q R' => k.nx σ' H' s' Hd' ps' q (R.back R'), fun v σ' H' a s' Hd' ps' q R' ha => k.rt v σ' H' a s' Hd' ps' q (R.back R') ha, fun σ' H' s' Hd' ps' q R' => k.bk σ' H' s' Hd' ps' q (R.back R'), fun σ' H' s' Hd' ps' q R' => k.ct σ' H' s' Hd' ps' q (R.back R')⟩
  obtain ⟨em, hgo⟩ := hs x s1 hx
  refine ⟨true, em, fun _ a _ => ?_, fun z => nomatch z⟩
  refine hgo a d _ _ _ tv tl Hd1 ps1 ((R.tms R1).set (a := exX K a d x.fs) ⟨rfl, hd⟩ i) ⟨fun σ H s Hd ps q R => ?_, fun v σ H a s Hd ps q R ha => k.rt v σ H a s Hd ps q R ha, fun σ H s Hd ps q R => ?_, fun σ H s Hd ps q R => ?_⟩
  · exact k.nx _ H _ Hd ps q (R.wipe [i])
  · exact k.bk _ H _ Hd ps q (R.wipe [i])
  · exact k.ct _ H _ Hd ps q (R.wipe [i])
theorem ev_S {sp : Sp} {E : L2.St → XK} (h : EV K b (tCallG sp E t) s Φ) : EV K b (tCallS sp E t) s Φ := fun σ H tv tl Hd ps R Q k => by
  have e : tCallS sp E t = tCallG sp E t := by
    funext σ H Q
    show (t σ H fun vs H1 => sp vs H1 Q (E σ)) = t σ H fun vs H1 => sp (vs ++ []) H1 Q (E σ)
    congr 1
    funext vs H1
    rw [List.append_nil]
  rw [e]
  exact h σ H tv tl Hd ps R Q k
/-! ### asking the caught error -/
def XdAt (H : Hp) : Option Addr → Prop
  | none => True
  | some dd => ∃ fs, H dd = some (.xd fs)
def clsA : Value → Addr
  | .ref D => D
  | _ => 0
def rIsY (K : PySem.W.Frag) (D a : Addr) (d : Option Addr) : List V → Hp → VK → Prop := fun xs H Q => ∃ (c : V) (cv : Value) (b : Bool), xs = [.ref a, c] ∧ (∀ u, RelV c u → u = cv) ∧ PySem.W.kitOne K (.ref D) cv = some b ∧ XdAt H d ∧ Q (.bl b) H
def rIsYT (K : PySem.W.Frag) (D a : Addr) (d : Option Addr) : List V → Hp → VK → Prop := fun xs H Q => ∃ (tp : Addr) (cs : List V) (cvs : List Value) (b : Bool), xs = [.ref a, .ref tp] ∧ H tp = some (.tup cs) ∧ (∀ us, Vals cs us → us = cvs) ∧ PySem.W.kitAny K (.ref D) cvs = some b ∧ XdAt H d ∧ Q (.bl b) H
theorem inst_of {X : Cx} {a D : Addr} {oe : Obj} {d : Option Addr} {H : Hp} {s : Shared} (hget : s.heap.get? a = some oe) (hz : Zc (.ref D) d oe) (hf : ∃ vs, oe.data = .fields vs) (hok : HOk X.prog X.w H s.heap) (hx : XdAt H d) : ∃ od, PySem.W.InstAt s.heap a oe D od := by
  obtain ⟨vs, hv⟩ := hf
  cases d with
  | none => exact ⟨none, hget, hz.1, by unfold PySem.W.notCls; rw [hv] <;> rfl, by rw [hz.2]; trivial⟩
  | some dd =>
    obtain ⟨fs, hd⟩ := hx
    obtain ⟨mA, hns, hr⟩ : ObjOk X.prog X.w H s.heap dd (.xd fs) := hok dd _ hd
    obtain ⟨od, ho, hl⟩ := lookIn_ns hns
    exact ⟨some od, hget, hz.1, by unfold PySem.W.notCls; rw [hv] <;> rfl, by rw [hz.2]; exact ho⟩
theorem call_isY {X : Cx} {K : PySem.W.Frag} {a D : Addr} {oe : Obj} {cls : Value} {d : Option Addr} {pn : List (Addr × Obj)} (hK : X.K = K) (C : ExcC K D) (hcls : cls = .ref D) (hz : L2N.Zn cls d oe) (hf : ∃ vs, oe.data = .fields vs) :
    CallR (X.suite a ((a, oe) :: pn)) (.builtin "isinstance") (rIsY K D a d) := by
  subst hK hcls
  intro pins s σ H xs us Q I r h
  obtain ⟨c, cv, b, rfl, hcv, e, hd, q⟩ := h
  match us, r with
  | [_, u2], .cons rx (.cons rt .nil) =>
    have ex : _ = Value.ref a := rx
    have ec := hcv _ rt
    subst ex ec
    obtain ⟨od, J⟩ := inst_of (X := X.suite a ((a, oe) :: pn)) (I.pin (a, oe) (List.mem_append.mpr (.inl List.mem_cons_self))).1 hz.zc hf I.hok hd
    exact PySem.W.kia_one (PySem.W.kitx_exc (od := od) (by obtain ⟨cd, hc, _⟩ := PySem.W.any_some C.hd; rw [hc]; rfl) C.hg C.hk C.hs C.ha C.hn C.ht C.hm) I.kIn J e (fun z => nomatch z) fun tk => ⟨.bl b, H, I.kept (t' := tk) fun _ _ z => z, rfl, q⟩
theorem call_isYT {X : Cx} {K : PySem.W.Frag} {a D : Addr} {oe : Obj} {cls : Value} {d : Option Addr} {pn : List (Addr × Obj)} (hK : X.K = K) (C : ExcC K D) (hcls : cls = .ref D) (hz : L2N.Zn cls d oe) (hf : ∃ vs, oe.data = .fields vs) :
    CallR (X.suite a ((a, oe) :: pn)) (.builtin "isinstance") (rIsYT K D a d) := by
  subst hK hcls
  intro pins s σ H xs us Q I r h
  obtain ⟨tp, cs, cvs, b, rfl, hT, hcv, e, hd, q⟩ := h
  match us, r with
  | [_, u2], .cons rx (.cons rt .nil) =>
    have ex : _ = Value.ref a := rx
    have et : u2 = Value.ref tp := rt
    subst ex et
    obtain ⟨od, J⟩ := inst_of (X := X.suite a ((a, oe) :: pn)) (I.pin (a, oe) (List.mem_append.mpr (.inl List.mem_cons_self))).1 hz.zc hf I.hok hd
    obtain ⟨_, its, rv, o, h1, h2, n, h3⟩ := (show ObjOk _ _ H s.heap tp (.tup cs) from I.hok tp _ hT)
    have e3 := hcv _ rv
    subst e3
    obtain ⟨oc, od2, dt, sl⟩ := o
    simp only at h2 h3
    subst h2 h3
    exact PySem.W.kia_tup (PySem.W.kitx_exc (od := od) (by obtain ⟨cd, hc, _⟩ := PySem.W.any_some C.hd; rw [hc]; rfl) C.hg C.hk C.hs C.ha C.hn C.ht C.hm) I.kIn J h1 e (fun z => nomatch z) fun tk => ⟨.bl b, H, I.kept (t' := tk) fun _ _ z => z, rfl, q⟩
theorem xdat {Hd H : Hp} (e : Same Hd H) {d : Option Addr} : ∀ {fs : Option (List (Str × PyData))}, XvR K Hd d fs → XdAt H d
  | none, h => by cases (show d = none from h); trivial
  | some fs, ⟨a, ws, h1, h2, _⟩ => by subst h1; exact ⟨ws, e _ _ h2⟩
theorem ev_isY {i : Nat} {D a : Addr} {d : Option Addr} {fs : Option (List (Str × PyData))} {c : V} {cv : Value} {r : Bool} (hi : s.ss[i]? = some (some (exX K a d fs))) (hc : ∀ u, RelV c u → u = cv) (hk : PySem.W.kitOne K (.ref D) cv = some r) (q : Φ (.d (.bool r)) s) : EV K b (tCB (rIsY K D a d) (tCons (tVar i) (tCons (tC c) tNil))) s Φ := fun σ H tv tl Hd ps R Q k => by
  obtain ⟨v, hv, ha⟩ := R.sl i _ hi
  obtain ⟨rfl, hx⟩ := ha
  exact ⟨_, hv, _, _, r, rfl, hc, hk, xdat R.e1 hx, k _ H _ s Hd ps q R (.bl _)⟩
theorem ev_isY1 {i : Nat} {D a c : Addr} {d : Option Addr} {fs : Option (List (Str × PyData))} {r : Bool} (hi : s.ss[i]? = some (some (exX K a d fs))) (hk : PySem.W.kitOne K (.ref D) (.ref c) = some r) (q : Φ (.d (.bool r)) s) : EV K b (tCB (rIsY K D a d) (tCons (tVar i) (tCons (tC (.ref c)) tNil))) s Φ := ev_isY (cv := .ref c) hi (fun _ h => h) hk q
theorem ev_isY2 {i : Nat} {D a : Addr} {n : String} {d : Option Addr} {fs : Option (List (Str × PyData))} {r : Bool} (hi : s.ss[i]? = some (some (exX K a d fs))) (hk : PySem.W.kitOne K (.ref D) (.type n) = some r) (q : Φ (.d (.bool r)) s) : EV K b (tCB (rIsY K D a d) (tCons (tVar i) (tCons (tC (.ty n)) tNil))) s Φ := ev_isY (cv := .type n) hi (fun _ h => h) hk q
def tCls : List V → TA
  | [] => tNil
  | c :: cs => tCons (tC c) (tCls cs)
theorem tCls_ok {σ : L2.St} {H : Hp} : ∀ {cs : List V} {Q : List V → Hp → Prop}, Q cs H → tCls cs σ H Q
  | [], Q, q => q
  | c :: cs, Q, q => tCls_ok (cs := cs) (Q := fun xs H2 => Q (c :: xs) H2) q
theorem ev_isYT {i : Nat} {D a : Addr} {d : Option Addr} {fs : Option (List (Str × PyData))} {cs : List V} {cvs : List Value} {r : Bool} (hi : s.ss[i]? = some (some (exX K a d fs))) (hc : ∀ us, Vals cs us → us = cvs) (hl : cs.length ≤ 1000) (hk : PySem.W.kitAny K (.ref D) cvs = some r) (q : Φ (.d (.bool r)) s) :
    EV K b (tCB (rIsYT K D a d) (tCons (tVar i) (tCons (tTup (tCls cs)) tNil))) s Φ := fun σ H tv tl Hd ps R Q k => by
  obtain ⟨v, hv, ha⟩ := R.sl i _ hi
  obtain ⟨rfl, hx⟩ := ha
  refine ⟨_, hv, tCls_ok ⟨by rw [sizeLine_eq]; omega, fun p hp => ?_⟩⟩
  have R2 := R.newD (.tup cs) hp
  exact ⟨p, cs, cvs, r, rfl, upd_same, hc, hk, xdat R2.e1 (xvr_up (same_new (none_of_same R.e1 hp)) hx), k _ _ _ s _ ps q R2 (.bl _)⟩
theorem look_cons {α : Type} (f g : Str) (y : α) (fs : List (Str × α)) : ((f, y) :: fs).lookup g = if g = f then some y else fs.lookup g := by
  by_cases h : g = f
  · subst h
    simp [List.lookup]
  · have e : (g == f) = false := by simpa using h
    rw [if_neg h]
    simp [List.lookup, e]
theorem ev_xf {i : Nat} {C a : Addr} {cls : Value} {d : Option Addr} {fs : List (Str × PyData)} {n : Str} {z : PyData} (hi : s.ss[i]? = some (some (exX K a d (some fs)))) (hc : cls = .ref C) (hz : fs.lookup n = some z) (q : Φ (.d z) s) : EV K b (tXf a cls d C n (tVar i)) s Φ := fun σ H tv tl Hd ps R Q k => by
  obtain ⟨v, hv, ha⟩ := R.sl i _ hi
  obtain ⟨rfl, dd, ws, hd, h2, h3⟩ := ha
  have key : ∀ {ws : List (Str × V)} {fs : List (Str × PyData)}, Paired (fun (w : Str × V) f => w.1 = f.1 ∧ Dr K Hd w.2 f.2) ws fs → fs.lookup n = some z → ∃ v, ws.lookup n = some v ∧ Dr K Hd v z := by
    intro ws fs h
    induction h with
    | nil => intro h; cases h
    | @cons w f ws fs h t ih =>
      obtain ⟨w1, w2⟩ := w
      obtain ⟨f1, f2⟩ := f
      obtain ⟨h1, h2⟩ := h
      dsimp only at h1 h2
      subst h1
      intro hl
      rw [look_cons] at hl ⊢
      by_cases e : n = w1
      · rw [if_pos e] at hl ⊢
        cases hl
        exact ⟨w2, rfl, h2⟩
      · rw [if_neg e] at hl ⊢
        exact ih hl
  obtain ⟨u, hu, hr⟩ := key h3 hz
  exact ⟨_, hv, rfl, hc, dd, ws, u, hd, R.e1 _ _ h2, hu, k u H _ s Hd ps q R hr⟩
/-! ### suites -/
def tGuard (p : Prop) (t : TS) : TS := fun D σ H => p ∧ t D σ H
theorem pss_guard {X : Cx} {st : List Stmt} {p : Prop} {t : TS} (h : p → PSs X st t) : PSs X st (tGuard p t) := ⟨fun pins s σ H D I q => (h q.1).run pins s σ H D I q.2⟩
theorem go_guard {p : Prop} {t : TS} (hp : p) (h : GO K b t s N) : GO K b (tGuard p t) s N := fun D σ H tv ta Hd ps R k => ⟨hp, h D σ H tv ta Hd ps R k⟩
theorem suite_hot {X : Cx} {a : Addr} {oe : Obj} {cls : Value} {d : Option Addr} {pn : List (Addr × Obj)} (hz : L2N.Zn cls d oe) (hf : ∃ vs, oe.data = .fields vs) : L2H.HotC (X.suite a ((a, oe) :: pn)) := by
  obtain ⟨vs, hv⟩ := hf
  exact ⟨(a, oe), ⟨rfl, vs, hv, hz.2.2 vs hv⟩, List.mem_cons_self⟩
theorem suite_room {X : Cx} {a : Addr} {pn : List (Addr × Obj)} {j k : Nat} (hr : Room k X.A) (h : j ≤ k := by decide) : L2H.RoomH j (X.suite a pn).A := ⟨(hr.mono h).dp, (hr.mono h).un⟩
end
end Dw
theorem L2H.RoomH.units {A : PySem.Around} {k : Nat} (hr : L2H.RoomH k A) : A.units + 64 < PySem.cLine := by have := hr.un; omega
theorem L2H.RoomH.units65 {A : PySem.Around} {k : Nat} (hr : L2H.RoomH k A) : A.units + 65 < PySem.cLine := by have := hr.un; omega
namespace Dw
open PySem
open _root_.L2
section
open PySem.Spec PyProof.Rows
variable {P : Program} {w : World} {K : PySem.W.Frag} {mg : Str → Option Value} {base : Heap} {x qual : Str} {params : Arguments} {body : List Stmt} {scope : Scope} {dvs : List V} {kws : List (Str × V)} {f : Addr} {fd : FuncData}
theorem okH {CX : CXT} {N ps : List Str} {k : Nat} {sp : Sp} (F : FunD K x qual params body scope dvs kws f fd) (S : FnScope N ps scope) (len : ∀ vs H Q E, sp vs H Q E → vs.length = ps.length)
    (hbody : ∀ (cdv : Value) (A : Around) (outer : List Env) (s : Shared) (H : Hp) (vs : List V) (Q : VK) (E : XK) (p : Addr × Obj), L2H.Hot1 A p → L2H.RoomH k (A.deeper (envOfC qual scope s.heap.objs.size f cdv)) → sp vs H Q E →
      ∃ t, PSs (L2H.cxH CX P w K mg base N qual scope f cdv A outer s H E p) body t ∧ t { nx := fun _ H' => Q .non H', rt := Q } (L2.start N vs) H) : L2H.FnH P w K mg base CX (k + 1) f fd ps sp := by
  obtain ⟨oc, od, dV, kV, doc, pm, an, cdv, ct, osl, rfl, lk, hcd, _, _⟩ := F.ex
  exact L2H.fn_ofH lk hcd S len fun A outer s H vs Q E p hot hr hsp => hbody cdv A outer s H vs Q E p hot hr hsp
end
end Dw
namespace Dw
open PySem
open _root_.L2
theorem pass0A {X : Cx} {σ : L2.St} {E : XK} : PassesAt CX0 X σ E := fun _ _ _ _ _ _ h => h.elim
end Dw
namespace Dw
open PySem
open _root_.L2
theorem takesN {X : Cx} : L2N.Takes X (fun _ _ _ _ => False) := fun _ _ x => by
  obtain ⟨_, _, _, _, _, _, _, _, _, _, _, _, _, _, _, _, w⟩ := x
  exact w.elim
theorem hotH {CX : CXT} {P : Program} {w : World} {K : PySem.W.Frag} {mg : Str → Option Value} {base : Heap} {N : List Str} {qual : Str} {scope : Scope} {f : Addr} {cd : Value} {A : Around} {outer : List Env} {s : Shared} {H : Hp} {E : XK} {p : Addr × Obj} (h : L2H.Hot1 A p) : L2H.HotC (L2H.cxH CX P w K mg base N qual scope f cd A outer s H E p) := ⟨p, ⟨h.1, h.2⟩, List.mem_cons_self⟩
end Dw

/-! the head's facts: errors with super().__init__, classes asked -/
namespace Dw
open PySem
open _root_.L2
/-- an error's class with its own __init__ -/
structure ErrI (K : PySem.W.Frag) (P : Program) (C fI : Addr) (fd : FuncData) (qual : Str) (params : Arguments) (body : List Stmt) (scope : Scope) (flds : List Str) : Prop where
  o : OexC K C
  i : PySem.W.findIn K (.ref C) "__init__" = some (some (.ref fI))
  t : PySem.W.typeIn K (.ref fI) = some (.type "function")
  n : ∀ f ∈ flds, PySem.W.findIn K (.ref C) f = some none
  F : FunS K P "__init__" qual params body scope C fI fd
/-- a plain error's class -/
structure ErrP (K : PySem.W.Frag) (C : Addr) : Prop where
  x : PySem.W.excIn K C [.type "ValueError", .type "Exception", .type "BaseException", .type "object"] "ValueError.__new__" = true
  k : PySem.W.keepIn K (.ref C) = true
  s : PySem.W.subIn K (.ref C) (.type "BaseException") = some true
  t : PySem.W.typeIn K (.ref C) = some (.type "type")
def oexB (K : PySem.W.Frag) (C : Addr) : Bool := (match K.lookup C with
  | some ⟨.type t, _, .cls cd, sl⟩ => decide (t = "type") && (match cd.mro, sl.toList with
    | .ref C' :: bm, [_, _, _, _, some (.builtin n), _] => decide (C' = C) && (decide (n = "ValueError.__new__") && (!cd.hasDel && (cd.hasDict && PySem.HandSPX.refsVE bm)))
    | _, _ => false)
  | _ => false) && (He.eqO (PySem.W.findIn K (.ref C) "__setattr__") (some (some (.builtin "object.__setattr__"))) &&
    (decide (PySem.W.subIn K (.ref C) (.type "BaseException") = some true) && (decide (PySem.W.typeIn K (.ref C) = some (.type "type")) && PySem.W.keepIn K (.ref C))))
theorem oexB_ok {K : PySem.W.Frag} {C : Addr} (h : oexB K C = true) : OexC K C := by
  obtain ⟨h1, h⟩ := He.ba h
  obtain ⟨h2, h⟩ := He.ba h
  obtain ⟨h3, h⟩ := He.ba h
  obtain ⟨h4, h5⟩ := He.ba h
  refine ⟨?_, He.eqO_ok h2, of_decide_eq_true h3, of_decide_eq_true h4, h5⟩
  split at h1
  · rename_i t dd cd sl ho
    obtain ⟨ht, g1⟩ := He.ba h1
    split at g1
    · rename_i C' bm k0 k1 k2 k3 n k5 hm hs
      obtain ⟨e1, g2⟩ := He.ba g1
      obtain ⟨e2, g3⟩ := He.ba g2
      obtain ⟨e3, g4⟩ := He.ba g3
      obtain ⟨e4, g5⟩ := He.ba g4
      have e1 := of_decide_eq_true e1
      have e2 := of_decide_eq_true e2
      have ht := of_decide_eq_true ht
      obtain ⟨nm, bs, mro, ns, qn, hd, sn, sub, ab, col, dl⟩ := cd
      dsimp only at hm e3 e4
      have e3 : dl = false := by cases dl with
        | false => rfl
        | true => cases e3
      subst hm e3 e4 e1 e2 ht
      have hsl : sl = #[k0, k1, k2, k3, some (.builtin "ValueError.__new__"), k5] := by
        obtain ⟨l⟩ := sl
        simp only at hs
        rw [hs]
      subst hsl
      exact ⟨nm, qn, ns, bs, bm, sn, sub, ab, col, dd, k0, k1, k2, k3, k5, ho, g5⟩
    · cases g1
  · cases h1
def supB (K : PySem.W.Frag) (file : Str) (C cc cda : Addr) : Bool := (match K.lookup cc with
  | some ⟨_, _, .cell (some (.ref D)), _⟩ => decide (D = C)
  | _ => false) && ((match K.lookup cda with
  | some ⟨_, _, .fields vs, _⟩ => (match (vs[2]? : Option Value) with
    | some (.str f _) => file == f
    | _ => false)
  | _ => false) && (decide (PySem.W.ks_superIn K C C "__init__" = some (some (.builtin "ValueError.__init__"))) && (decide (PySem.W.subIn K (.ref C) (.type "ValueError") = some true) &&
    (He.eqO (PySem.W.nsIn K cStatics "thirdparty.any") (some none) && decide (PySem.W.mroIn K C (.ref C) = some true)))))
theorem supB_ok {K : PySem.W.Frag} {P : Program} {C cc cda : Addr} (h : supB K P.main.file C cc cda = true) : SupC K P C cc cda := by
  obtain ⟨h1, h⟩ := He.ba h
  obtain ⟨h2, h⟩ := He.ba h
  obtain ⟨h3, h⟩ := He.ba h
  obtain ⟨h4, h⟩ := He.ba h
  obtain ⟨h5, h6⟩ := He.ba h
  refine ⟨?_, ?_, of_decide_eq_true h3, of_decide_eq_true h4, He.eqO_ok h5, of_decide_eq_true h6⟩
  · split at h1
    · rename_i D sl ho
      rw [of_decide_eq_true h1] at ho
      exact ⟨_, _, _, ho⟩
    · cases h1
  · split at h2
    · rename_i vs sl ho
      split at h2
      · rename_i f tf hv
        exact ⟨_, _, vs, _, f, tf, ho, hv, h2⟩
      · cases h2
    · cases h2
/-- one such class: its name, its __init__ -/
structure DefS where
  cls : Str
  qual : Str
  params : Arguments
  body : List Stmt
  scope : Scope
  flds : List Str
def DefS.C (K : PySem.W.Frag) (d : DefS) : Addr := He.ga K d.cls
def DefS.f (K : PySem.W.Frag) (d : DefS) : Addr := He.ma K (d.C K) "__init__"
abbrev FnSV : Type := Option (Str × Str × Arguments × FuncBody × Scope × Addr × List Str × Addr)
def fnS (K : PySem.W.Frag) (d : DefS) : FnSV := match K.lookup (d.f K) with
  | some ⟨_, _, .func fd, _⟩ => some (fd.name, fd.qualname, fd.params, fd.body, fd.scope, fd.globals, fd.closure.map (·.1), fd.builtins)
  | _ => none
def DefS.val (d : DefS) : FnSV := some ("__init__", d.qual, d.params, .stmts d.body, d.scope, mainGlobals, ["__class__"], builtinsNs)
def DefS.ok (K : PySem.W.Frag) (file : Str) (d : DefS) : Bool := oexB K (d.C K) && (He.eqO (PySem.W.findIn K (.ref (d.C K)) "__init__") (some (some (.ref (d.f K)))) && (decide (PySem.W.typeIn K (.ref (d.f K)) = some (.type "function")) &&
  ((d.flds.all fun f => He.eqO (PySem.W.findIn K (.ref (d.C K)) f) (some none)) && (PySem.W.keepIn K (.ref (d.f K)) && (match K.lookup (d.f K) with
    | some ⟨_, _, .func fd, _⟩ => (match fd.code, fd.closure, fd.defaults with
      | .ref cda, [(_, cc)], .none => PySem.W.codeIn K (.ref cda) d.qual && supB K file (d.C K) cc cda
      | _, _, _ => false)
    | _ => false)))))
theorem DefS.errI {K : PySem.W.Frag} {P : Program} {d : DefS} (e : fnS K d = d.val) (c : d.ok K P.main.file = true) : ∃ fd, ErrI K P (d.C K) (d.f K) fd d.qual d.params d.body d.scope d.flds := by
  obtain ⟨h1, h⟩ := He.ba c
  obtain ⟨h2, h⟩ := He.ba h
  obtain ⟨h3, h⟩ := He.ba h
  obtain ⟨h4, h⟩ := He.ba h
  obtain ⟨h5, h6⟩ := He.ba h
  unfold fnS at e
  cases q : K.lookup (d.f K) with
  | none =>
    rw [q] at h6
    cases h6
  | some o =>
    obtain ⟨oc, od, dt, osl⟩ := o
    rw [q] at h6 e
    cases dt with
    | func fd =>
      obtain ⟨n1, n2, n3, n4, n5, n6, n7, n8, n9, n10, n11, n12, n13, n14, n15⟩ := fd
      have e2 : (some (n1, n2, n3, n4, n5, n6, n7.map (·.1), n15) : FnSV) = some (("__init__" : Str), d.qual, d.params, FuncBody.stmts d.body, d.scope, mainGlobals, [("__class__" : Str)], builtinsNs) := e
      simp only [Option.some.injEq, Prod.mk.injEq] at e2
      obtain ⟨g1, g2, g3, g4, g5, g6, g7, g8⟩ := e2
      cases n7 with
      | nil => cases g7
      | cons p r =>
        obtain ⟨nm, cc⟩ := p
        cases r with
        | cons p2 r2 => cases g7
        | nil =>
          cases n13 with
          | ref cda =>
           cases n8 with
           | none =>
            obtain ⟨h7, h8⟩ := He.ba (show (PySem.W.codeIn K (.ref cda) d.qual && supB K P.main.file (d.C K) cc cda) = true from h6)
            have en : nm = "__class__" := by simpa using g7
            subst g1 g2 g3 g4 g5 g6 g8 en
            exact ⟨_, oexB_ok h1, He.eqO_ok h2, of_decide_eq_true h3, fun f hf => He.eqO_ok (List.all_eq_true.mp h4 f hf), ⟨oc, od, n9, n10, n11, n12, cda, cc, n14, osl, rfl, q, h7, supB_ok h8⟩, h5⟩
           | _ => cases h6
          | _ => cases h6
    | _ => cases h6
/-- ExcC, asked of a class -/
def eccB (K : PySem.W.Frag) (C : Addr) : Bool := He.eqO (PySem.W.findIn K (.ref C) "__getattribute__") (some (some (.builtin "BaseException.__getattribute__"))) && (He.eqO (PySem.W.findIn K (.ref C) "__getattr__") (some none) && (decide (PySem.W.subIn K (.ref C) (.type "BaseException") = some true) &&
  (PySem.W.hasDictIn K C && (He.eqO (PySem.W.findIn K (.ref C) "__class__") (some (some (.builtin "object.__class__"))) && (He.eqO (PySem.W.specialIn K (.builtin "object.__class__") "__get__") (some (some (.builtin "getset_descriptor.__get__"))) &&
  (decide (PySem.W.takesIn K (.builtin "object.__class__") = some true) && decide (PySem.W.mroIn K C (.type "object") = some true)))))))
theorem eccB_ok {K : PySem.W.Frag} {C : Addr} (h : eccB K C = true) : ExcC K C := by
  obtain ⟨h1, h⟩ := He.ba h
  obtain ⟨h2, h⟩ := He.ba h
  obtain ⟨h3, h⟩ := He.ba h
  obtain ⟨h4, h⟩ := He.ba h
  obtain ⟨h5, h⟩ := He.ba h
  obtain ⟨h6, h⟩ := He.ba h
  obtain ⟨h7, h8⟩ := He.ba h
  exact ⟨He.eqO_ok h1, He.eqO_ok h2, of_decide_eq_true h3, h4, He.eqO_ok h5, He.eqO_ok h6, of_decide_eq_true h7, of_decide_eq_true h8⟩
theorem ExcC.xf {K : PySem.W.Frag} {C : Addr} (h : ExcC K C) : XfC K C := ⟨h.hg, h.hk, h.hs, h.hd⟩
/-- isinstance, except: answers by names; none: a built-in class -/
inductive Fk where
  | kit (x y : Str) (b : Bool)
  | kty (x : Str) (n : String) (b : Bool)
  | ecc (x : Str)
  | noat (x f : Str)
  | raw (p : PySem.W.Frag → Bool)
def Fk.ok (K : PySem.W.Frag) : Fk → Bool
  | .kit x y b => decide (PySem.W.kitOne K (.ref (He.ga K x)) (.ref (He.ga K y)) = some b)
  | .kty x n b => decide (PySem.W.kitOne K (.ref (He.ga K x)) (.type n) = some b)
  | .ecc x => eccB K (He.ga K x)
  | .noat x f => He.eqO (PySem.W.findIn K (.ref (He.ga K x)) f) (some none)
  | .raw p => p K
/-! ### the Hook -/
def asY (g : Addr → Option Obj) : Nat → List Addr
  | 0 => [mainGlobals, cStatics]
  | n + 1 => He.growD g (asY g n)
abbrev AlY : Type := He.AlD × Bool × List FnSV
def obsY (fa : List He.Fa) (fn : List He.DefD) (file : Str) (fs : List DefS) (fk : List Fk) (K : PySem.W.Frag) : AlY := (He.obsD fa fn K, (fs.all fun d => d.ok K file) && fk.all fun f => f.ok K, fs.map fun d => fnS K d)
def valY (fn : List He.DefD) (fs : List DefS) : AlY := (He.valD fn, true, fs.map DefS.val)
def SaysY (fa : List He.Fa) (fn : List He.DefD) (file : Str) (fs : List DefS) (fk : List Fk) (K : PySem.W.Frag) : Prop := obsY fa fn file fs fk K = valY fn fs
def obsYG (n : Nat) (fa : List He.Fa) (fn : List He.DefD) (file : Str) (fs : List DefS) (fk : List Fk) (g : Addr → Option Obj) : AlY := obsY fa fn file fs fk (He.frG g (asY g n))
def hookY (n : Nat) (fa : List He.Fa) (fn : List He.DefD) (file : Str) (fs : List DefS) (fk : List Fk) : PySem.W.Hook where
  α := AlY
  obs := fun s => obsYG n fa fn file fs fk s.heap.get?
  val := fun _ => valY fn fs
  says := fun _ h => ∃ K : PySem.W.Frag, K.In h ∧ SaysY fa fn file fs fk K
  of := fun _ _ e => ⟨_, He.frG_in, e⟩
  keeps := fun _ _ _ ⟨K, hK, c⟩ k => ⟨K, PySem.W.Frag.In.keeps hK k, c⟩
theorem obsYG_eq {n : Nat} {fa : List He.Fa} {fn : List He.DefD} {file : Str} {fs : List DefS} {fk : List Fk} {g : Addr → Option Obj} {s : Shared} (h : ∀ a, g a = s.heap.get? a) : obsYG n fa fn file fs fk g = (hookY n fa fn file fs fk).obs s := by
  have e : g = s.heap.get? := funext h
  rw [e] <;> rfl
section
variable {fa : List He.Fa} {fn : List He.DefD} {fs : List DefS} {fk : List Fk} {K : PySem.W.Frag} {P : Program}
theorem SaysY.d {file : Str} (c : SaysY fa fn file fs fk K) : He.SaysD fa fn K := congrArg (fun z : AlY => z.1) c
theorem SaysY.err (c : SaysY fa fn P.main.file fs fk K) (i : Nat) {d : DefS} (h : fs[i]? = some d := by rfl) : ∃ fd, ErrI K P (d.C K) (d.f K) fd d.qual d.params d.body d.scope d.flds := by
  have c2 := (He.ba (show ((fs.all fun d => d.ok K P.main.file) && fk.all fun f => f.ok K) = true from congrArg (fun z : AlY => z.2.1) c)).1
  have e : fs.map (fun d => fnS K d) = fs.map DefS.val := congrArg (fun z : AlY => z.2.2) c
  have e2 : (fs.map fun d => fnS K d)[i]? = (fs.map DefS.val)[i]? := by rw [e]
  rw [List.getElem?_map, List.getElem?_map, h] at e2
  exact DefS.errI (Option.some.inj e2) (List.all_eq_true.mp c2 d (List.mem_of_getElem? h))
theorem SaysY.fact {file : Str} (c : SaysY fa fn file fs fk K) (i : Nat) {f : Fk} (h : fk[i]? = some f := by rfl) : f.ok K = true := by
  have c2 := (He.ba (show ((fs.all fun d => d.ok K file) && fk.all fun f => f.ok K) = true from congrArg (fun z : AlY => z.2.1) c)).2
  exact List.all_eq_true.mp c2 f (List.mem_of_getElem? h)
theorem kit_ok {x y : Str} {b : Bool} (h : (Fk.kit x y b).ok K = true) : PySem.W.kitOne K (.ref (He.ga K x)) (.ref (He.ga K y)) = some b := of_decide_eq_true h
theorem kty_ok {x : Str} {n : String} {b : Bool} (h : (Fk.kty x n b).ok K = true) : PySem.W.kitOne K (.ref (He.ga K x)) (.type n) = some b := of_decide_eq_true h
theorem ecc_ok {x : Str} (h : (Fk.ecc x).ok K = true) : ExcC K (He.ga K x) := eccB_ok h
theorem noa_ok {x f : Str} (h : (Fk.noat x f).ok K = true) : PySem.W.findIn K (.ref (He.ga K x)) f = some none := He.eqO_ok h
theorem errp_ok {x : Str} (h : (He.Fa.exc x).ok K = true) : ErrP K (He.ga K x) := by
  obtain ⟨h1, h2, h3, h4⟩ := He.exc_ok h
  exact ⟨h1, h2, h3, h4⟩
end
end Dw
namespace Dw
open PySem
theorem free_only {sc : Scope} {x : Str} (h : (sc.names.all fun y => decide (y.2 = .free → y.1 = ("__class__" : Str))) = true) (hx : sc.names.lookup x = some .free) : x = "__class__" :=
  (of_decide_eq_true (List.all_eq_true.mp h (x, .free) (PySem.mem_of_lookup hx)) : _) rfl
end Dw

namespace Dw
open PySem
open _root_.L2
/-! ### equal data, sums, least ones -/
def Shp (k : Nat) (d : PyData) : Prop := d.canLay0 = true ∧ d.depth ≤ k
theorem shp_int {i : Int} : Shp 0 (.int i) := ⟨rfl, Nat.le_refl _⟩
theorem shp_bool {i : Bool} : Shp 0 (.bool i) := ⟨rfl, Nat.le_refl _⟩
theorem shp_none : Shp 0 .none := ⟨rfl, Nat.le_refl _⟩
theorem shp_str {x : Str} (h : PyData.strOk x = true) : Shp 0 (.str x) := ⟨h, Nat.le_refl _⟩
theorem Shp.up {j k : Nat} {d : PyData} (h : Shp j d) (l : j ≤ k) : Shp k d := ⟨h.1, Nat.le_trans h.2 l⟩
theorem shp_all {k : Nat} : ∀ {xs : List PyData}, (∀ x ∈ xs, Shp k x) → PyData.canLayAll0 xs = true ∧ PyData.depthAll xs ≤ k
  | [], _ => ⟨rfl, Nat.zero_le _⟩
  | x :: xs, h => by
    obtain ⟨h1, h2⟩ := h x List.mem_cons_self
    obtain ⟨h3, h4⟩ := shp_all (xs := xs) fun y hy => h y (List.mem_cons_of_mem _ hy)
    refine ⟨?_, ?_⟩
    · show (x.canLay0 && PyData.canLayAll0 xs) = true
      rw [h1, h3]; rfl
    · show max x.depth (PyData.depthAll xs) ≤ k
      omega
theorem shp_list {k : Nat} {xs : List PyData} (h : ∀ x ∈ xs, Shp k x) : Shp (k + 1) (.list xs) := ⟨(shp_all h).1, Nat.succ_le_succ (shp_all h).2⟩
theorem shp_tup {k : Nat} {xs : List PyData} (h : ∀ x ∈ xs, Shp k x) : Shp (k + 1) (.tuple xs) := ⟨(shp_all h).1, Nat.succ_le_succ (shp_all h).2⟩
theorem Shp.shaped {k : Nat} {d : PyData} (h : Shp k d) (hk : k ≤ 64) : SeqAt.shaped d = true := by
  unfold SeqAt.shaped
  rw [h.1, decide_eq_true (Nat.le_trans h.2 hk)]
  rfl
theorem Shp.refl {k : Nat} {d : PyData} (h : Shp k d) : PyData.eqv d d = true := SeqAt.eqv_refl d h.1
section
variable {K : PySem.W.Frag} {b : B} {s : S} {x y : A} {Φ : A → S → Prop} {d : PyData} {k : Nat}
theorem v2_eqS1 (h1 : Vw s x d) (h2 : Vw s y d) (z : Shp k d) (hk : k ≤ 64) (q : Φ (.d (.bool true)) s) : V2 K b (rEqD K) x y s Φ := v2_eq h1 h2 (z.shaped hk) (z.shaped hk) (by rw [z.refl]; exact q)
theorem v2_neS1 (h1 : Vw s x d) (h2 : Vw s y d) (z : Shp k d) (hk : k ≤ 64) (q : Φ (.d (.bool false)) s) : V2 K b (rNeD K) x y s Φ := v2_ne h1 h2 (z.shaped hk) (z.shaped hk) (by rw [z.refl]; exact q)
theorem da_intsV {H : Hp} : ∀ {ns : List Int} {vs : List V}, DrA K H vs (ns.map PyData.int) → vs = ns.map V.int
  | [], _, h => by cases h; rfl
  | n :: ns, _, h => by
    cases h with
    | cons h t =>
      cases h
      rw [da_intsV t]
      rfl
theorem vc_sum {ns : List Int} (h : Vw s x (.list (ns.map .int))) (q : Φ (.d (.int ns.sum)) s) : VC K b (rSum K) [x] s Φ := fun σ H tv tl Hd ps vs R a Q k => by
  cases a with
  | @cons v _ _ _ a1 t =>
    cases t
    obtain ⟨p, vs, rfl, hv, ha⟩ := vw_lst R a1 h
    have e := da_intsV ha
    subst e
    exact ⟨p, ns, rfl, .inl (.inl hv), k _ H _ s Hd ps q R (.int _)⟩
theorem vc_min {ns : List Int} (h : Vw s x (.list (ns.map .int))) (hl : 0 < ns.length) (q : ∀ m, m ∈ ns → (∀ y, y ∈ ns → m ≤ y) → Φ (.d (.int m)) s) : VC K b (rMin K) [x] s Φ := fun σ H tv tl Hd ps vs R a Q k => by
  cases a with
  | @cons v _ _ _ a1 t =>
    cases t
    obtain ⟨p, vs, rfl, hv, ha⟩ := vw_lst R a1 h
    have e := da_intsV ha
    subst e
    exact ⟨p, ns, rfl, .inl (.inl hv), hl, fun m h1 h2 => k _ H _ s Hd ps (q m h1 h2) R (.int _)⟩
theorem vc_max {ns : List Int} (h : Vw s x (.list (ns.map .int))) (hl : 0 < ns.length) (q : ∀ m, m ∈ ns → (∀ y, y ∈ ns → y ≤ m) → Φ (.d (.int m)) s) : VC K b (rMax K) [x] s Φ := fun σ H tv tl Hd ps vs R a Q k => by
  cases a with
  | @cons v _ _ _ a1 t =>
    cases t
    obtain ⟨p, vs, rfl, hv, ha⟩ := vw_lst R a1 h
    have e := da_intsV ha
    subst e
    exact ⟨p, ns, rfl, .inl (.inl hv), hl, fun m h1 h2 => k _ H _ s Hd ps (q m h1 h2) R (.int _)⟩
end
end Dw
namespace Dw
open PySem
open _root_.L2
section
variable {K : PySem.W.Frag} {b : B} {s : S} {Φ : A → S → Prop} {i j : Str}
theorem v2_eqSt (h : PyData.strOk i = true) (q : Φ (.d (.bool true)) s) : V2 K b (rEqD K) (.d (.str i)) (.d (.str i)) s Φ := v2_eqS1 (d := .str i) rfl rfl (shp_str h) (Nat.zero_le _) q
theorem v2_neSt (h : PyData.strOk i = true) (q : Φ (.d (.bool false)) s) : V2 K b (rNeD K) (.d (.str i)) (.d (.str i)) s Φ := v2_neS1 (d := .str i) rfl rfl (shp_str h) (Nat.zero_le _) q
theorem v2_eqSf (h : PyData.strOk i = true) (h2 : PyData.strOk j = true) (e : (i == j) = false) (q : Φ (.d (.bool false)) s) : V2 K b (rEqD K) (.d (.str i)) (.d (.str j)) s Φ := v2_eq (d := .str i) (e := .str j) rfl rfl ((shp_str h).shaped (Nat.zero_le _)) ((shp_str h2).shaped (Nat.zero_le _)) (by show Φ (.d (.bool (i == j))) s; rw [e]; exact q)
theorem v2_neSf (h : PyData.strOk i = true) (h2 : PyData.strOk j = true) (e : (i == j) = false) (q : Φ (.d (.bool true)) s) : V2 K b (rNeD K) (.d (.str i)) (.d (.str j)) s Φ := v2_ne (d := .str i) (e := .str j) rfl rfl ((shp_str h).shaped (Nat.zero_le _)) ((shp_str h2).shaped (Nat.zero_le _)) (by show Φ (.d (.bool (!(i == j)))) s; rw [e]; exact q)
end
end Dw

/-! lists walked while an error is handled -/
namespace HotX
open PySem PySem.Spec PyProof.Rows
section
variable {prog : Program} {w : World} {A : Around} {E : Value → Shared → Prop} {s : Shared}
theorem pyNext_list_end_hot {it l x1 : Addr} {i : Nat} {items : Array Value} {Q : Option Value → Shared → Prop} (hot : HotAt A x1 s.heap) (hne : it ≠ x1) (hit : s.heap.IsListIter it l i) (hl : s.heap.IsList l items) (hx : items[i]? = none)
    (hQ : ∀ h', (∀ b o, b ≠ it → s.heap.get? b = some o → h'.get? b = some o) → Q none { s with heap := h' }) : wpAny (model prog w) A (pyNext (.ref it)) Q E s := by
  obtain ⟨o, ho, hc, hd⟩ := id hit
  obtain ⟨ol, hol, _, nl, hdl⟩ := hl
  obtain ⟨hh, o1, vs1, h1, d1, c1⟩ := hot
  unfold pyNext
  refine wpAny_bind (wpAny_attempt (wpAny_callSpecial?_slot (name := Str.ofString "__next__") hit.typeIs slot_listiter_next
    (wpAny_call_entry slot_listiter_next hit.typeIs entry_listiter_next ?_ (args_listiter_next _))))
  show wpAny _ _ (field (.ref it) 0 >>= _) _ _ s
  refine wpAny_bind (wpAny_field ho hd (x := .ref l) rfl ?_)
  show wpAny _ _ (if (Value.ref l == Value.none) = true then _ else _) _ _ s
  rw [if_neg (show ¬ ((Value.ref l == Value.none) = true) from Bool.false_ne_true)]
  show wpAny _ _ (field (.ref it) 1 >>= _) _ _ s
  refine wpAny_bind (wpAny_field ho hd (x := .int i 0) rfl ?_)
  show wpAny _ _ (seqItems? (.ref l) >>= _) _ _ s
  refine wpAny_bind (wpAny_seqItems hol hdl ?_)
  simp only [Int.toNat_natCast, hx]
  refine wpAny_bind (wpAny_rule (wpAny_bind (wpAny_setField ho hd (by simp) ?_)))
  show wpAny _ _ (newExc (.type "StopIteration") [] >>= _) _ _ _
  refine wpAny_bind ?_
  simp only [newExc, newTuple]
  have k1 : (s.heap.update it (Obj.mapFields (·.setIfInBounds 0 Value.none))).get? x1 = some o1 := by
    rw [Heap.get?_update_other _ _ hne]
    exact h1
  refine wpAny_bind (wpAny_newObj_type ?_ (by size_fits))
  refine wpAny_bind (m := firstArgMember _ _) (wpAny_of_eq (a := Value.none) (by first | rfl | (simp only [firstArgMember]; rfl)) ?_)
  refine wpAny_newObj_type ?_ (by size_fits)
  refine raiseNew_hot ⟨hh, o1, vs1, Heap.get?_push_of_some _ (Heap.get?_push_of_some _ k1), d1, c1⟩ (Nat.ne_of_lt (Heap.lt_size (Heap.get?_push_of_some _ k1))) (Heap.get?_push_size _ rfl) rfl (by first | (simp; done) | (simp; omega) | (simp only [Array.size_append]; simp; omega)) ?_
  refine wpAny_bind (wpAny_isInstance (T := "StopIteration") (b := true) ⟨_, Heap.get?_update_self _ (Heap.get?_push_size _ rfl) rfl, rfl⟩ isSubtype_stop ?_)
  refine wpAny_pure (hQ _ fun b o hb e => ?_)
  have e2 : (s.heap.update it (Obj.mapFields (·.setIfInBounds 0 Value.none))).get? b = some o := by
    rw [Heap.get?_update_other _ _ (Ne.symm hb)]
    exact e
  rw [Heap.get?_update_other _ _ (Nat.ne_of_gt (Heap.lt_size (Heap.get?_push_of_some _ e2)))]
  exact Heap.get?_push_of_some _ (Heap.get?_push_of_some _ e2)
end
end HotX
namespace L2H
open PySem PySem.Spec PyProof.Rows
open _root_.L2
theorem turn_listH {P : Program} {w : World} {K : PySem.W.Frag} {tg : Expr} (a it : Addr) : TurnH P w K tg (Itl K a) [it] it (fun i h => h.IsListIter it a i) where
  mem := by simp
  obj := fun i h st b hb => by
    have e : b = it := by simpa using hb
    subst e
    obtain ⟨o, e, c, d⟩ := st
    exact ⟨o, e, fun v z => by rw [d] at z; cases z⟩
  keep := fun i h h' st k => st.at fun o e => k it (by simp) o e
  item := by
    intro X hP hw hK hc i pins s σ H E I hf st hg
    subst hP hw hK
    obtain ⟨xs, x, hq, hx⟩ := hg
    obtain ⟨its, rv, p, hz⟩ := I.list hq
    obtain ⟨u, hu, ru⟩ := rv.get hx
    obtain ⟨f0, f1, f2, f3, f4, f5⟩ := hf it (by simp)
    refine wpAny_pyNext_list_item st p.isList (x := u) (by simpa using hu) fun h' st' sb => ?_
    have I1 : Inv X pins σ H { s with heap := h' } := I.turned (t' := s.toks) (fun b o hb e => (sb.2 b hb).trans e) f0 f1 f3 f4 f5
    obtain ⟨o, e, c, d⟩ := id st'
    exact ⟨u, rfl, go_of (s := { s with heap := h' }) e c d (by decide) ⟨x, H, I1, ru, ⟨rfl, fun ys hy => by rw [I.list_inj hy hq]; exact hx⟩, st', fun b hb => (hf b hb).1⟩⟩
  done := by
    intro X hP hw hK hc i pins s σ H E I hf st hg
    subst hP hw hK
    obtain ⟨xs, hq, hx⟩ := hg
    obtain ⟨its, rv, p, hz⟩ := I.list hq
    obtain ⟨f0, f1, f2, f3, f4, f5⟩ := hf it (by simp)
    obtain ⟨x1, hot⟩ := hc.at I
    have hl := rv.length
    refine HotX.pyNext_list_end_hot hot ?_ st p.isList (by simp; omega) fun h' eb => ⟨rfl, I.turned (t' := s.toks) (fun b o hb e => eb b o hb e) f0 f1 f3 f4 f5⟩
    intro e
    obtain ⟨o, e1, e2, e3⟩ := id st
    obtain ⟨hh, o1, vs1, h1, d1, c1⟩ := hot
    rw [e, h1] at e1
    cases e1
    rw [d1] at e3
    cases e3
    cases c1
  self := fun _ _ _ _ _ st h => wpAny_pyIter_listiter st h
theorem pi_listH {X : Cx} {tg : Expr} {l : Expr} {tl : TE} (hl : PE X l tl) : PIH X tg l (iList X.K tl) := by
  refine ⟨fun pins s σ H R I h => ?_⟩
  refine thn (hl.run pins s σ H _ I h) fun v s1 ⟨x, H1, I1, r1, q1⟩ => ?_
  obtain ⟨a, e, ⟨xs, hq⟩, q⟩ := q1
  subst e
  cases r1
  obtain ⟨its, rv, p, hz⟩ := I1.list hq
  refine wpAny_pyIter_list p.isList ?_
  refine ⟨s1.heap.objs.size, [s1.heap.objs.size], _, _, H1, rfl, I1.kept (t' := s1.toks) fun b o e => Heap.get?_push_of_some _ e, turn_listH a _, ⟨_, Heap.get?_push_size _ rfl, rfl, rfl⟩, fun b hb => ?_, q⟩
  have e : b = s1.heap.objs.size := by simpa using hb
  subst e
  exact I1.fpOk (Nat.le_refl _) (I1.hok.fresh (Nat.le_refl _))
end L2H

/-! an error that keeps a list -/
namespace Dw
open PySem
open _root_.L2
/-- C's __init__: a told text, a list copied into a field -/
def spL (K : PySem.W.Frag) (C : Addr) (f : Str) : Sp := fun vs H Q _ => ∃ a l ws, vs = [.ref a, .ref l] ∧ SqL K H l ws ∧ H a = some (exo a C none) ∧
  ∀ p, H p = none → ∀ dx, upd H p (.lst ws) dx = none → dx ≠ a → Q .non (upd (upd (upd H p (.lst ws)) dx (exd dx [(f, .ref p)])) a (exo a C (some dx)))
theorem spL_len {K : PySem.W.Frag} {C : Addr} {f : Str} : ∀ vs H Q E, spL K C f vs H Q E → vs.length = 2 := by
  rintro vs H Q E ⟨a, l, ws, rfl, _⟩
  rfl
section
variable {K : PySem.W.Frag} {b : B} {s s1 : S} {te ta tb tc : TE} {tt tu : TT} {t : TA} {x y : A} {Φ Ψ : A → S → Prop} {N : EE} {f : Spc}
theorem go_raiseL {C : Addr} {f : Str} {W : WX} (h : EA K b t s fun as s1 => ∃ ds, as = [A.d (.list ds)] ∧ ∀ d σ H' tv ta Hd' ps', Rp K b s1 σ H' tv ta Hd' ps' → XvR K Hd' d (some [(f, .list ds)]) → W (.ref C) d σ H') :
    GO K b (fun _ σ H => tMkO C (spL K C f) [] t σ H fun cls d H' => W cls d σ H') s N := fun D σ H tv tl Hd ps R _ =>
  h σ H tv tl Hd ps R _ fun vs H1 as s1 Hd1 ps1 h1 R1 a1 => by
    obtain ⟨ds, rfl, hx⟩ := h1
    have hda := da_of_ars (xs := [PyData.list ds]) a1
    cases hda with
    | cons h0 t0 =>
    cases t0
    cases h0 with
    | @lst l ws _ hl hw =>
    refine ⟨by simp, fun a ha => ?_⟩
    have hl1 : H1 l = some (.lst ws) := R1.e1 _ _ hl
    have hla : l ≠ a := fun e => by rw [e, ha] at hl1; cases hl1
    refine ⟨a, l, ws, rfl, .inl (.inl ((upd_ne hla).trans hl1)), upd_same, fun p hp dx hdx hne => ⟨rfl, dx, [(f, .ref p)], upd_same, by rw [upd_ne hne, upd_same], ?_, ?_⟩⟩
    all_goals
      have hpa : p ≠ a := fun e => by rw [e, upd_same] at hp; cases hp
      rw [upd_ne hpa] at hp
      have hdp : dx ≠ p := fun e => by rw [e, upd_same] at hdx; cases hdx
      rw [upd_ne hdp, upd_ne hne] at hdx
    · exact hdx
    have e : upd (del (upd (upd (upd (upd H1 a (exo a C none)) p (.lst ws)) dx (exd dx [(f, .ref p)])) a (exo a C (some dx))) a) dx (.xd [(f, .ref p)]) = upd (upd H1 p (.lst ws)) dx (.xd [(f, .ref p)]) := by
      funext c
      by_cases hc : c = dx
      · subst hc; rw [upd_same, upd_same]
      · rw [upd_ne hc, upd_ne hc]
        by_cases hca : c = a
        · subst hca; rw [del_same, upd_ne (Ne.symm hpa)]; exact ha.symm
        · rw [del_ne hca, upd_ne hca, upd_ne hc]
          by_cases hcp : c = p
          · subst hcp; rw [upd_same, upd_same]
          · rw [upd_ne hcp, upd_ne hcp, upd_ne hca]
    rw [e]
    have R2 := R1.newD (.lst ws) hp
    have hdx2 : upd H1 p (.lst ws) dx = none := by rw [upd_ne hdp]; exact hdx
    have R3 := R2.newD (.xd [(f, .ref p)]) hdx2
    refine hx (some dx) _ _ _ _ _ _ R3 ⟨dx, _, rfl, upd_same, .cons ⟨rfl, .lst (a := p) (xs := ws) ?_ ?_⟩ .nil⟩
    · rw [upd_ne (Ne.symm hdp), upd_same]
    · exact da_up ((same_new (none_of_same R1.e1 hp)).trans (same_new (none_of_same R2.e1 hdx2))) _ _ hw
end
end Dw

/-! the least of two data; // by a great number below 0 -/
namespace Dw
open PySem
open _root_.L2
open PySem.W PySem.Spec PyProof.Rows
section
variable {prog : Program} {w : World} {A : Around} {E : Value → Shared → Prop} {s : Shared} {Q : Value → Shared → Prop} {x y : Value} {d e : PyData} {as bs : List Addr}
theorem min_two_data (hh : A.handled = none) (ra : Reads s.heap x d as) (rb : Reads s.heap y e bs) (al : AlikeAll [d, e]) (hu : A.units + 1 + PyData.depthAll [d, e] < cLine)
    (h : ∀ h' tk, (∀ c o, s.heap.get? c = some o → h'.get? c = some o) → Q (if dataLt e d = true then y else x) { s with heap := h', toks := tk }) : wpAny (model prog w) A (call (.builtin "min") [x, y]) Q E s := by
  apply call_function_tree F.kind_min F.plain_min F.entry_min (F.args_min2 x y)
  change wpAny _ A.in1 (Builtin.Builtins.bindParams "min" ["key", "default"] 0 ⟨[], []⟩ >>= _) _ _ s
  apply wpAny_bind
  apply wpAny_of_eq (show Builtin.Builtins.bindParams "min" ["key", "default"] 0 ⟨[], []⟩ = pure [none, none] from rfl)
  change wpAny _ A.in1 (newTuple [x, y] >>= _) _ _ s
  apply wpAny_bind
  refine wpAny_newObj_type ?_
  have hold : ∀ c o, s.heap.get? c = some o → (s.heap.push { cls := .type "tuple", data := .seq #[x, y] }).get? c = some o := fun c o z => Heap.get?_push_of_some _ z
  have hT : (s.heap.push { cls := .type "tuple", data := .seq #[x, y] }).IsTuple s.heap.objs.size #[x, y] := ⟨_, Heap.get?_push_size _ rfl, rfl, 0, rfl⟩
  apply wpAny_bind
  refine iter_tupleW (A := A.in1) (s := { s with heap := s.heap.push { cls := .type "tuple", data := .seq #[x, y] } }) hh hT fun s2 z W st hfp hw hk => ?_
  apply wpAny_bind
  refine wpAny_newObj_type ?_
  have hSf : s2.heap.objs.size ∉ _ := fun hm => Nat.lt_irrefl _ (hfp _ hm)
  have rr : ReadsAll (s.heap.push { cls := .type "tuple", data := .seq #[x, y] }) #[x, y].toList [d, e] (as ++ (bs ++ [])) := .cons (reads_keeps hold ra) (.cons (reads_keeps hold rb) .nil)
  have cm := cmpIn_lt (A := A.in1) (s := { s with heap := s.heap.push { cls := .type "tuple", data := .seq #[x, y] } }) (prog := prog) (w := w) rr al (show A.units + 1 + _ < _ from hu)
  rw [show (toString "min" ++ toString ".loop" : String) = "min.loop" from by decide]
  refine wpAny_pure ⟨plainId_quiet F.plain_min_loop _, codeAny_min_loop_firstH W _ hw _ cm s2.heap.objs.size hSf (fresh_in hk) _ (Nat.succ_pos 1) (fun c o z => Heap.get?_push_of_some _ (hk c o z)) (W.frame _ _ _ _ st (Nat.le_refl _) fun c _ o z => Heap.get?_push_of_some _ z) (Heap.get?_push_size _ rfl) fun v s' hP m => ?_⟩
  have lt2 : s.heap.objs.size < s2.heap.objs.size := by
    have := hfp s.heap.objs.size (by simp)
    exact this
  have lt3 : (s.heap.push { cls := .type "tuple", data := .seq #[x, y] }).objs.size = s.heap.objs.size + 1 := Heap.size_push ..
  have keep : ∀ c o, s.heap.get? c = some o → s'.heap.get? c = some o := fun c o z0 => by
    have l := Heap.lt_size z0
    refine m.heap c o (fun hm => ?_) (Heap.get?_push_of_some _ (hk c o (hold c o z0)))
    rcases List.mem_cons.mp hm with e1 | hm
    · rw [e1] at l
      exact Nat.lt_asymm l lt2
    · rw [List.mem_singleton.mp hm] at l
      have l : (s.heap.push { cls := .type "tuple", data := .seq #[x, y] }).objs.size < s.heap.objs.size := l
      omega
  have es : s' = { s with heap := s'.heap, toks := s'.toks } := by
    subst z
    obtain ⟨hp, g, d, tk, os⟩ := s'
    have h1 : g = s.gens := m.gens
    have h2 : d = s.drawn := m.drawn
    have h3 : os = s.os := m.os
    subst h1
    subst h2
    subst h3
    rfl
  have q := h s'.heap s'.toks keep
  rw [← es] at q
  have ev : v = if dataLt e d = true then y else x := by
    have hP : (#[x, y] : Array Value)[argBest (fun i j => dataLt ([d, e].getD i .none) ([d, e].getD j .none)) 1]? = some v := hP
    cases hc : dataLt e d <;> simp [argBest, hc] at hP <;> simp [hP]
  rw [ev]
  exact q
end
def CDivWN (_ j : Int) : Prop := j ≠ 0 ∧ j.natAbs.log2 < 9000
def rMin2 (K : PySem.W.Frag) : List V → Hp → VK → Prop := fun vs H Q => ∃ v w d e, vs = [v, w] ∧ Dp K H v d ∧ Dp K H w e ∧ AlikeAll [d, e] ∧ PyData.depthAll [d, e] ≤ 60 ∧ Q (if dataLt e d = true then w else v) H
section
variable {X : Cx}
theorem op_fdivWN : OpR X (binaryOp .FloorDiv) (rI CDivWN fun i j => .int (i.fdiv j)) := opI fun _ _ _ _ _ _ _ hc q => floordiv_int hc.1 q (.inl (PyProof.noPylong_of_log2 hc.2))
theorem call_min2D (hc : X.calm = true) (hu : X.A.units + 64 < cLine) : CallR X (.builtin "min") (rMin2 X.K) := fun pins s σ H xs us Q I r h => by
  obtain ⟨v, w, d, e, rfl, hd, he, ha, hz, q⟩ := h
  obtain ⟨u1, u2, rfl, r1, r2⟩ := vals2 r
  obtain ⟨as, g1⟩ := Dp.reads I d v u1 hd r1
  obtain ⟨bs, g2⟩ := Dp.reads I e w u2 he r2
  refine min_two_data (I.ok.hd hc) g1 g2 ha (by omega) fun h' tk k => ⟨_, H, I.kept k, ?_, q⟩
  split
  · exact r2
  · exact r1
end
theorem cdwn {i j : Int} (h : j ≠ 0) (hb : j.natAbs < 2 ^ 400) : CDivWN i j := ⟨h, Nat.lt_of_lt_of_le (PySem.Flt.log2_lt_of (by decide) hb) (by decide)⟩
end Dw

namespace K00
/-! ### limits over n variables: (i, j, c, w) -/
abbrev Lm := Nat × Nat × Int × Int
def cost (n : Nat) (l : Lm) : Int := l.2.2.1 * n - 1 + l.2.2.2
/-- one limit is looked at -/
def stp (n : Nat) (f : Nat → Int) (l : Lm) : Nat → Int := if f l.2.1 + cost n l < f l.1 then fun v => if v = l.1 then f l.2.1 + cost n l else f v else f
def rnd (n : Nat) (ls : List Lm) (f : Nat → Int) : Nat → Int := ls.foldl (stp n) f
def Feas (n : Nat) (ls : List Lm) (d : Nat → Int) : Prop := ∀ l, l ∈ ls → d l.1 ≤ d l.2.1 + cost n l
section
variable {n : Nat} {ls : List Lm} {f d : Nat → Int} {l : Lm}
theorem stp_le (v : Nat) : stp n f l v ≤ f v := by
  unfold stp
  split
  · rename_i h
    show (if v = l.1 then f l.2.1 + cost n l else f v) ≤ f v
    split
    · rename_i e; subst e; omega
    · exact Int.le_refl _
  · exact Int.le_refl _
theorem stp_hit : stp n f l l.1 ≤ f l.2.1 + cost n l := by
  unfold stp
  split
  · show (if l.1 = l.1 then f l.2.1 + cost n l else f l.1) ≤ _
    rw [if_pos rfl]
    exact Int.le_refl _
  · omega
theorem stp_ge (hl : d l.1 ≤ d l.2.1 + cost n l) (h : ∀ v, d v ≤ f v) (v : Nat) : d v ≤ stp n f l v := by
  unfold stp
  split
  · show d v ≤ if v = l.1 then f l.2.1 + cost n l else f v
    split
    · rename_i e; subst e; have := h l.2.1; omega
    · exact h v
  · exact h v
theorem rnd_le : ∀ {ls : List Lm} {f : Nat → Int} (v : Nat), rnd n ls f v ≤ f v
  | [], _, _ => Int.le_refl _
  | l :: ls, f, v => Int.le_trans (rnd_le (ls := ls) (f := stp n f l) v) (stp_le v)
theorem rnd_ge : ∀ {ls : List Lm} {f : Nat → Int}, Feas n ls d → (∀ v, d v ≤ f v) → ∀ v, d v ≤ rnd n ls f v
  | [], _, _, h, v => h v
  | l :: ls, f, hf, h, v => rnd_ge (ls := ls) (f := stp n f l) (fun x hx => hf x (List.mem_cons_of_mem _ hx)) (stp_ge (hf l List.mem_cons_self) h) v
theorem rnd_tight : ∀ {ls : List Lm} {f : Nat → Int}, Feas n ls d → (∀ v, d v ≤ f v) → ∀ l, l ∈ ls → d l.1 = d l.2.1 + cost n l → f l.2.1 = d l.2.1 → rnd n ls f l.1 = d l.1
  | [], _, _, _, _, hl, _, _ => by cases hl
  | x :: ls, f, hf, h, l, hl, e, t => by
    have hf' : Feas n ls d := fun z hz => hf z (List.mem_cons_of_mem _ hz)
    have h' := stp_ge (hf x List.mem_cons_self) h
    rcases List.mem_cons.mp hl with rfl | hl
    · have a := stp_hit (n := n) (f := f) (l := l)
      have b := rnd_le (n := n) (ls := ls) (f := stp n f l) l.1
      have c := rnd_ge hf' h' l.1
      show rnd n ls (stp n f l) l.1 = d l.1
      omega
    · refine rnd_tight hf' h' l hl e ?_
      have a := stp_le (n := n) (f := f) (l := x) l.2.1
      have b := h' l.2.1
      omega
/-! how many of the first n are tight -/
def cnt (f d : Nat → Int) : Nat → Nat
  | 0 => 0
  | n + 1 => cnt f d n + if f n = d n then 1 else 0
theorem cnt_le : ∀ n, cnt f d n ≤ n
  | 0 => Nat.le_refl _
  | n + 1 => by
    have := cnt_le n
    show cnt f d n + (if f n = d n then 1 else 0) ≤ n + 1
    split <;> omega
theorem cnt_full : ∀ {n : Nat}, cnt f d n = n → ∀ v, v < n → f v = d v
  | n + 1, h, v, hv => by
    have := cnt_le (f := f) (d := d) n
    have h : cnt f d n + (if f n = d n then 1 else 0) = n + 1 := h
    by_cases e : f n = d n
    · rw [if_pos e] at h
      rcases Nat.lt_or_ge v n with l | l
      · exact cnt_full (n := n) (by omega) v l
      · have : v = n := by omega
        rw [this]; exact e
    · rw [if_neg e] at h; omega
theorem cnt_mono {g : Nat → Int} (m : ∀ v, f v = d v → g v = d v) : ∀ n, cnt f d n ≤ cnt g d n
  | 0 => Nat.le_refl _
  | n + 1 => by
    have := cnt_mono m n
    show cnt f d n + (if f n = d n then 1 else 0) ≤ cnt g d n + (if g n = d n then 1 else 0)
    by_cases e : f n = d n
    · rw [if_pos e, if_pos (m n e)]; omega
    · rw [if_neg e]; omega
theorem cnt_lt {g : Nat → Int} (m : ∀ v, f v = d v → g v = d v) {v : Nat} (h1 : f v ≠ d v) (h2 : g v = d v) : ∀ n, v < n → cnt f d n < cnt g d n
  | n + 1, hv => by
    show cnt f d n + (if f n = d n then 1 else 0) < cnt g d n + (if g n = d n then 1 else 0)
    rcases Nat.lt_or_ge v n with l | l
    · have := cnt_lt m h1 h2 n l
      by_cases e : f n = d n
      · rw [if_pos e, if_pos (m n e)]; omega
      · rw [if_neg e]; omega
    · have : v = n := by omega
      subst this
      have := cnt_mono m v
      rw [if_neg h1, if_pos h2]
      omega
/-! the greatest potential -/
def mea (d : Nat → Int) : Nat → Nat
  | 0 => 0
  | n + 1 => mea d n + (-(d n)).toNat
theorem min_ex {α : Type} (P : α → Prop) (m : α → Nat) : (∃ a, P a) → ∃ a, P a ∧ ∀ b, P b → m a ≤ m b := by
  have key : ∀ k, (∃ a, P a ∧ m a ≤ k) → ∃ a, P a ∧ ∀ b, P b → m a ≤ m b := by
    intro k
    induction k with
    | zero => exact fun ⟨a, h, e⟩ => ⟨a, h, fun b _ => by omega⟩
    | succ k ih =>
      rintro ⟨a, h, e⟩
      by_cases c : ∃ b, P b ∧ m b ≤ k
      · exact ih c
      · exact ⟨a, h, fun b hb => Decidable.byContradiction fun z => c ⟨b, hb, by omega⟩⟩
  exact fun ⟨a, h⟩ => key (m a) ⟨a, h, Nat.le_refl _⟩
theorem mea_le {d' : Nat → Int} (h : ∀ v, d v ≤ d' v) : ∀ n, mea d' n ≤ mea d n
  | 0 => Nat.le_refl _
  | n + 1 => by
    have := mea_le h n
    have := h n
    show mea d' n + (-(d' n)).toNat ≤ mea d n + (-(d n)).toNat
    omega
theorem mea_lt {d' : Nat → Int} (h : ∀ v, d v ≤ d' v) {v : Nat} (h1 : d v < d' v) (h0 : d' v ≤ 0) : ∀ n, v < n → mea d' n < mea d n
  | n + 1, hv => by
    show mea d' n + (-(d' n)).toNat < mea d n + (-(d n)).toNat
    rcases Nat.lt_or_ge v n with l | l
    · have := mea_lt h h1 h0 n l
      have := h n
      omega
    · have : v = n := by omega
      subst this
      have := mea_le h v
      omega
/-- feasible, at most 0, and no greater one -/
structure Top (n : Nat) (ls : List Lm) (d : Nat → Int) : Prop where
  fe : Feas n ls d
  le : ∀ v, d v ≤ 0
  gr : ∀ d', Feas n ls d' → (∀ v, d' v ≤ 0) → mea d n ≤ mea d' n
  rg : ∀ l, l ∈ ls → l.1 < n ∧ l.2.1 < n
theorem exists_bound (P : Nat → Int) : ∀ n, ∃ M : Int, ∀ v, v < n → P v ≤ M
  | 0 => ⟨0, fun v h => absurd h (Nat.not_lt_zero v)⟩
  | n + 1 => by
    obtain ⟨M, h⟩ := exists_bound P n
    refine ⟨max M (P n), fun v hv => ?_⟩
    rcases Nat.lt_or_ge v n with l | l
    · have := h v l; omega
    · have : v = n := by omega
      subst this; omega
/-- indices in range -/
def Rg (n : Nat) (ls : List Lm) : Prop := ∀ l, l ∈ ls → l.1 < n ∧ l.2.1 < n
theorem top_ex {P : Nat → Int} (hr : Rg n ls) (h : Feas n ls P) : ∃ d, Top n ls d := by
  obtain ⟨M, hM⟩ := exists_bound P n
  obtain ⟨d, h1, h2⟩ := min_ex (fun d => Feas n ls d ∧ ∀ v, d v ≤ 0) (fun d => mea d n) ⟨fun v => if v < n then P v - M else 0, fun l hl => by
    have := h l hl
    obtain ⟨a, b⟩ := hr l hl
    show (if l.1 < n then P l.1 - M else 0) ≤ (if l.2.1 < n then P l.2.1 - M else 0) + cost n l
    rw [if_pos a, if_pos b]
    omega, fun v => by
    show (if v < n then P v - M else 0) ≤ 0
    split
    · rename_i hv; have := hM v hv; omega
    · exact Int.le_refl _⟩
  exact ⟨d, h1.1, h1.2, fun d' a b => h2 d' ⟨a, b⟩, hr⟩
theorem top_step (t : Top n ls d) (hf : ∀ v, d v ≤ f v) (f0 : ∀ v, f v ≤ 0) {v : Nat} (hv : v < n) (hn : f v ≠ d v) : ∃ l, l ∈ ls ∧ d l.1 = d l.2.1 + cost n l ∧ f l.2.1 = d l.2.1 ∧ f l.1 ≠ d l.1 := by
  apply Classical.byContradiction
  intro z
  have hd' : ∀ w, d w ≤ (if f w = d w then d w else d w + 1) := fun w => by split <;> omega
  have le0 : ∀ w, (if f w = d w then d w else d w + 1) ≤ 0 := fun w => by
    have := t.le w
    have := f0 w
    have := hf w
    split <;> omega
  have fe : Feas n ls (fun w => if f w = d w then d w else d w + 1) := fun l hl => by
    show (if f l.1 = d l.1 then d l.1 else d l.1 + 1) ≤ (if f l.2.1 = d l.2.1 then d l.2.1 else d l.2.1 + 1) + cost n l
    have a := t.fe l hl
    by_cases e1 : f l.1 = d l.1
    · rw [if_pos e1]; split <;> omega
    · rw [if_neg e1]
      by_cases e2 : f l.2.1 = d l.2.1
      · rw [if_pos e2]
        by_cases e3 : d l.1 = d l.2.1 + cost n l
        · exact absurd ⟨l, hl, e3, e2, e1⟩ z
        · omega
      · rw [if_neg e2]; omega
  have g := t.gr _ fe le0
  have s := mea_lt (d := d) (d' := fun w => if f w = d w then d w else d w + 1) hd' (v := v) (by show d v < if f v = d v then d v else d v + 1; rw [if_neg hn]; omega) (le0 v) n hv
  omega
/-- r rounds from 0 -/
def rns (n : Nat) (ls : List Lm) : Nat → Nat → Int
  | 0 => fun _ => 0
  | r + 1 => rnd n ls (rns n ls r)
theorem rns_le0 : ∀ r v, rns n ls r v ≤ 0
  | 0, _ => Int.le_refl _
  | r + 1, v => Int.le_trans (rnd_le v) (rns_le0 r v)
theorem rns_ge (t : Top n ls d) : ∀ r v, d v ≤ rns n ls r v
  | 0, v => t.le v
  | r + 1, v => rnd_ge t.fe (rns_ge t r) v
theorem rns_cnt (t : Top n ls d) (n1 : 1 ≤ n) : ∀ r, r < n → r + 1 ≤ cnt (rns n ls r) d n
  | 0, _ => by
    apply Decidable.byContradiction
    intro z
    have z0 : cnt (rns n ls 0) d n = 0 := by omega
    have no : ∀ v, v < n → d v ≠ 0 := fun v hv e => by
      have : ∀ n, v < n → 0 < cnt (rns n ls 0) d n → True := fun _ _ _ => trivial
      have key : ∀ m, v < m → 0 < cnt (fun _ => (0 : Int)) d m := by
        intro m
        induction m with
        | zero => exact fun h => absurd h (Nat.not_lt_zero v)
        | succ m ih =>
          intro hm
          show 0 < cnt (fun _ => (0 : Int)) d m + if (0 : Int) = d m then 1 else 0
          rcases Nat.lt_or_ge v m with l | l
          · have := ih l; omega
          · have : v = m := by omega
            subst this
            rw [if_pos e.symm]
            omega
      have := key n hv
      have z1 : cnt (fun _ => (0 : Int)) d n = 0 := z0
      omega
    have le0 : ∀ v, (if v < n then d v + 1 else d v) ≤ 0 := fun v => by
      have := t.le v
      split
      · rename_i hv; have := no v hv; omega
      · exact this
    by_cases hrg : Rg n ls
    · have fe : Feas n ls (fun v => if v < n then d v + 1 else d v) := fun l hl => by
        have := t.fe l hl
        obtain ⟨a, b⟩ := hrg l hl
        show (if l.1 < n then d l.1 + 1 else d l.1) ≤ (if l.2.1 < n then d l.2.1 + 1 else d l.2.1) + cost n l
        rw [if_pos a, if_pos b]
        omega
      have g := t.gr _ fe le0
      have s := mea_lt (d := d) (d' := fun v => if v < n then d v + 1 else d v) (fun w => by show d w ≤ if w < n then d w + 1 else d w; split <;> omega) (v := 0) (by show d 0 < if 0 < n then d 0 + 1 else d 0; rw [if_pos (by omega)]; omega) (le0 0) n (by omega)
      omega
    · exact absurd t.rg hrg
  | r + 1, hr => by
    have ih := rns_cnt t n1 r (by omega)
    have mono : ∀ v, rns n ls r v = d v → rns n ls (r + 1) v = d v := fun v e => by
      have a := rnd_le (n := n) (ls := ls) (f := rns n ls r) v
      have b := rns_ge t (r + 1) v
      have c : rns n ls (r + 1) v = rnd n ls (rns n ls r) v := rfl
      omega
    by_cases full : ∃ v, v < n ∧ rns n ls r v ≠ d v
    · obtain ⟨v, hv, hn⟩ := full
      obtain ⟨l, hl, e, tj, ti⟩ := top_step t (rns_ge t r) (rns_le0 r) hv hn
      have := cnt_lt mono (v := l.1) ti (rnd_tight t.fe (rns_ge t r) l hl e tj) n (t.rg l hl).1
      omega
    · have all : ∀ v, v < n → rns n ls (r + 1) v = d v := fun v hv => mono v (Decidable.byContradiction fun z => full ⟨v, hv, z⟩)
      have key : ∀ m, m ≤ n → cnt (rns n ls (r + 1)) d m = m := by
        intro m
        induction m with
        | zero => exact fun _ => rfl
        | succ m ih =>
          intro hm
          show cnt (rns n ls (r + 1)) d m + (if rns n ls (r + 1) m = d m then 1 else 0) = m + 1
          rw [ih (by omega), if_pos (all m (by omega))]
      rw [key n (Nat.le_refl _)]
      omega
/-- after n - 1 rounds the next one changes nothing -/
theorem rns_done (t : Top n ls d) (n1 : 1 ≤ n) : ∀ l, l ∈ ls → ¬ rns n ls (n - 1) l.2.1 + cost n l < rns n ls (n - 1) l.1 := fun l hl => by
  have h := rns_cnt t n1 (n - 1) (by omega)
  have h2 := cnt_le (f := rns n ls (n - 1)) (d := d) n
  have full := cnt_full (f := rns n ls (n - 1)) (d := d) (n := n) (by omega)
  obtain ⟨a, b⟩ := t.rg l hl
  have := t.fe l hl
  rw [full l.1 a, full l.2.1 b]
  omega
end
end K00

namespace K00
/-- x solves the limits with the unit u -/
def Sol (ls : List Lm) (u : Int) (x : Nat → Int) : Prop := ∀ l, l ∈ ls → x l.1 - x l.2.1 ≤ l.2.2.1 * u - (1 - l.2.2.2)
def W01 (ls : List Lm) : Prop := ∀ l, l ∈ ls → l.2.2.2 = 0 ∨ l.2.2.2 = 1
/-- how many of the first m have a smaller rest -/
def rk (f : Nat → Int) (b : Int) : Nat → Nat
  | 0 => 0
  | m + 1 => rk f b m + if f m < b then 1 else 0
section
variable {f : Nat → Int} {a b : Int} {n : Nat} {ls : List Lm} {u : Int} {x : Nat → Int}
theorem rk_le : ∀ m, rk f b m ≤ m
  | 0 => Nat.le_refl _
  | m + 1 => by
    have := rk_le m
    show rk f b m + (if f m < b then 1 else 0) ≤ m + 1
    split <;> omega
theorem rk_mono (h : a ≤ b) : ∀ m, rk f a m ≤ rk f b m
  | 0 => Nat.le_refl _
  | m + 1 => by
    have := rk_mono h m
    show rk f a m + (if f m < a then 1 else 0) ≤ rk f b m + (if f m < b then 1 else 0)
    by_cases e : f m < a
    · rw [if_pos e, if_pos (by omega)]; omega
    · rw [if_neg e]; omega
theorem rk_lt {i : Nat} (h : f i < b) (ha : a ≤ f i) : ∀ m, i < m → rk f a m < rk f b m
  | m + 1, hi => by
    show rk f a m + (if f m < a then 1 else 0) < rk f b m + (if f m < b then 1 else 0)
    rcases Nat.lt_or_ge i m with l | l
    · have := rk_lt h ha m l
      by_cases e : f m < a
      · rw [if_pos e, if_pos (by omega)]; omega
      · rw [if_neg e]; omega
    · have : i = m := by omega
      subst this
      have := rk_mono (f := f) (show a ≤ b by omega) i
      rw [if_neg (by omega), if_pos h]
      omega
theorem rk_top {i : Nat} (h : f i = b) : ∀ m, i < m → rk f b m < m
  | m + 1, hi => by
    show rk f b m + (if f m < b then 1 else 0) < m + 1
    rcases Nat.lt_or_ge i m with l | l
    · have := rk_top h m l
      split <;> omega
    · have : i = m := by omega
      subst this
      have := rk_le (f := f) (b := b) i
      rw [if_neg (by omega)]
      omega
def pot (n : Nat) (u : Int) (x : Nat → Int) (i : Nat) : Int := (x i / u) * n + rk (fun v => x v % u) (x i % u) n
theorem pot_feas (hu : 1 ≤ u) (hr : Rg n ls) (hw : W01 ls) (h : Sol ls u x) : Feas n ls (pot n u x) := fun l hl => by
  obtain ⟨i, j, c, w⟩ := l
  obtain ⟨hi, hj⟩ := hr _ hl
  have s : x i - x j ≤ c * u - (1 - w) := h _ hl
  have hw : w = 0 ∨ w = 1 := hw _ hl
  dsimp only at hi hj
  have ei := Int.mul_ediv_add_emod (x i) u
  have ej := Int.mul_ediv_add_emod (x j) u
  have fi0 := Int.emod_nonneg (x i) (show u ≠ 0 by omega)
  have fj0 := Int.emod_nonneg (x j) (show u ≠ 0 by omega)
  have fi1 := Int.emod_lt_of_pos (x i) (show 0 < u by omega)
  have fj1 := Int.emod_lt_of_pos (x j) (show 0 < u by omega)
  have ri : rk (fun v => x v % u) (x i % u) n < n := rk_top (f := fun v => x v % u) (i := i) rfl n hi
  have rij : x i % u ≤ x j % u → rk (fun v => x v % u) (x i % u) n ≤ rk (fun v => x v % u) (x j % u) n := fun e => rk_mono e n
  have rijs : x i % u < x j % u → rk (fun v => x v % u) (x i % u) n < rk (fun v => x v % u) (x j % u) n := fun e => rk_lt (f := fun v => x v % u) (i := i) e (Int.le_refl _) n hi
  show (x i / u) * n + rk (fun v => x v % u) (x i % u) n ≤ (x j / u) * n + rk (fun v => x v % u) (x j % u) n + (c * n - 1 + w)
  generalize rk (fun v => x v % u) (x i % u) n = Ri at *
  generalize rk (fun v => x v % u) (x j % u) n = Rj at *
  generalize x i / u = qi at *
  generalize x j / u = qj at *
  generalize x i % u = fi at *
  generalize x j % u = fj at *
  have e : u * (qi - qj - c) = u * qi - u * qj - c * u := by rw [Int.mul_sub, Int.mul_sub, Int.mul_comm u c]
  rcases Int.lt_trichotomy (qi - qj - c) 0 with l | l | l
  · have : qi ≤ qj + c - 1 := by omega
    have m : qi * (n : Int) ≤ (qj + c - 1) * n := Int.mul_le_mul_of_nonneg_right this (by omega)
    have e2 : (qj + c - 1) * (n : Int) = qj * n + c * n - n := by rw [Int.sub_mul, Int.add_mul, Int.one_mul]
    omega
  · have : qi = qj + c := by omega
    subst this
    have e2 : (qj + c) * (n : Int) = qj * n + c * n := by rw [Int.add_mul]
    rw [l, Int.mul_zero] at e
    rcases hw with rfl | rfl
    · have := rijs (by omega)
      omega
    · have := rij (by omega)
      omega
  · have : u * 1 ≤ u * (qi - qj - c) := Int.mul_le_mul_of_nonneg_left (by omega) (by omega)
    omega
/-- a fixed point, seen from 0 and made small, solves -/
theorem fix_sol {g : Int} {f : Nat → Int} (hg : 1 ≤ g) (hw : W01 ls) (h : Feas n ls f) (dn : ∃ m : Int, (n : Int) = g * m) (dv : ∀ v, ∃ m : Int, f v - f 0 = g * m) : Sol ls ((n : Int) / g) fun v => (f v - f 0) / g := fun l hl => by
  obtain ⟨i, j, c, w⟩ := l
  have a : f i ≤ f j + (c * n - 1 + w) := h _ hl
  have hw : w = 0 ∨ w = 1 := hw _ hl
  obtain ⟨m, em⟩ := dn
  obtain ⟨p, ep⟩ := dv i
  obtain ⟨q, eq⟩ := dv j
  show (f i - f 0) / g - (f j - f 0) / g ≤ c * ((n : Int) / g) - (1 - w)
  rw [em, ep, eq, Int.mul_ediv_cancel_left _ (by omega), Int.mul_ediv_cancel_left _ (by omega), Int.mul_ediv_cancel_left _ (by omega)]
  have e : g * (p - q - c * m) = f i - f j - c * n := by
    rw [Int.mul_sub, Int.mul_sub, em, ← Int.mul_assoc, Int.mul_comm g c, Int.mul_assoc]
    omega
  rcases Int.lt_or_le (p - q - c * m) 0 with l | l
  · omega
  · have : 0 ≤ g * (p - q - c * m) := Int.mul_nonneg (by omega) l
    rcases hw with rfl | rfl
    · omega
    · have z : g * (p - q - c * m) = 0 := by omega
      rcases Int.mul_eq_zero.mp z with z | z <;> omega
end
end K00

namespace K00
/-- the run's state: sums, back; ghosts: the round and the time of a variable's last change, the time -/
structure Bs where
  f : Nat → Int
  bk : Nat → Option Nat
  T : Nat → Nat
  t : Nat → Nat
  now : Nat
def bst (n r q : Nat) (l : Lm) (s : Bs) : Bs := if s.f l.2.1 + cost n l < s.f l.1 then
    ⟨fun v => if v = l.1 then s.f l.2.1 + cost n l else s.f v, fun v => if v = l.1 then some q else s.bk v, fun v => if v = l.1 then r else s.T v, fun v => if v = l.1 then s.now + 1 else s.t v, s.now + 1⟩ else s
structure Inv (n : Nat) (ls : List Lm) (r p : Nat) (s : Bs) : Prop where
  e : ∀ v q, s.bk v = some q → ∃ l : Lm, ls[q]? = some l ∧ l.1 = v ∧ s.f l.2.1 + cost n l ≤ s.f v ∧ (s.t v ≤ s.t l.2.1 → s.f l.2.1 + cost n l < s.f v) ∧ 1 ≤ s.T v ∧ s.T v ≤ s.T l.2.1 + 1
  d : ∀ v, 1 ≤ s.T v → s.bk v ≠ none
  nw : ∀ v, s.t v ≤ s.now
  rl : ∀ v, s.T v ≤ r
  i3 : ∀ (q : Nat) (l : Lm), ls[q]? = some l → s.T l.2.1 + (if q < p then 0 else 1) < r → s.f l.1 ≤ s.f l.2.1 + cost n l
section
variable {n r p : Nat} {ls : List Lm} {s : Bs} {l : Lm}
theorem inv_step (hl : ls[p]? = some l) (r1 : 1 ≤ r) (I : Inv n ls r p s) : Inv n ls r (p + 1) (bst n r p l s) := by
  obtain ⟨i, j, c, w⟩ := l
  unfold bst
  dsimp only
  by_cases h : s.f j + cost n (i, j, c, w) < s.f i
  · rw [if_pos h]
    have hj : ¬ (s.T j + (if p < p then 0 else 1) < r) := fun z => by
      have : s.f i ≤ s.f j + cost n (i, j, c, w) := I.i3 p _ hl z
      omega
    rw [if_neg (Nat.lt_irrefl p)] at hj
    refine ⟨fun v q hq => ?_, fun v hv => ?_, fun v => ?_, fun v => ?_, fun q l2 hq ht => ?_⟩
    · dsimp only at hq ⊢
      by_cases e : v = i
      · rw [if_pos e] at hq
        cases hq
        refine ⟨_, hl, e.symm, ?_, ?_, ?_, ?_⟩
        · dsimp only
          rw [if_pos e]
          split
          · rename_i z; subst z; omega
          · exact Int.le_refl _
        · dsimp only
          rw [if_pos e, if_pos e]
          intro ht
          by_cases z : j = i
          · rw [if_pos z]; subst z; omega
          · rw [if_neg z] at ht; have := I.nw j; omega
        · rw [if_pos e]; exact r1
        · dsimp only
          rw [if_pos e]
          split <;> omega
      · rw [if_neg e] at hq
        obtain ⟨l2, a1, a2, a3, a4, a5, a6⟩ := I.e v q hq
        refine ⟨l2, a1, a2, ?_, ?_, ?_, ?_⟩
        · rw [if_neg e]
          split
          · rename_i z; rw [z] at a3; omega
          · exact a3
        · rw [if_neg e, if_neg e]
          intro ht
          by_cases z : l2.2.1 = i
          · rw [if_pos z]; rw [z] at a3; omega
          · rw [if_neg z] at ht ⊢; exact a4 ht
        · rw [if_neg e]; exact a5
        · rw [if_neg e]
          split
          · have := I.rl v; omega
          · exact a6
    · dsimp only at hv ⊢
      by_cases e : v = i
      · rw [if_pos e]; exact fun z => nomatch z
      · rw [if_neg e] at hv ⊢; exact I.d v hv
    · dsimp only
      have := I.nw v
      split <;> omega
    · dsimp only
      have := I.rl v
      split <;> omega
    · dsimp only at ht ⊢
      by_cases z : l2.2.1 = i
      · rw [if_pos z] at ht; split at ht <;> omega
      · rw [if_neg z] at ht ⊢
        by_cases e : q = p
        · subst e
          rw [hl] at hq
          cases hq
          dsimp only
          rw [if_pos rfl]
          exact Int.le_refl _
        · have a := I.i3 q l2 hq (by
            by_cases g : q < p
            · rw [if_pos g]; rw [if_pos (by omega)] at ht; exact ht
            · rw [if_neg g]; rw [if_neg (by omega)] at ht; exact ht)
          split
          · rename_i g; rw [g] at a; omega
          · exact a
  · rw [if_neg h]
    refine ⟨I.e, I.d, I.nw, I.rl, fun q l2 hq ht => ?_⟩
    by_cases e : q = p
    · subst e
      rw [hl] at hq
      cases hq
      dsimp only
      omega
    · exact I.i3 q l2 hq (by
        by_cases g : q < p
        · rw [if_pos g]; rw [if_pos (by omega)] at ht; exact ht
        · rw [if_neg g]; rw [if_neg (by omega)] at ht; exact ht)
theorem inv_round (I : Inv n ls r ls.length s) : Inv n ls (r + 1) 0 s := ⟨I.e, I.d, I.nw, fun v => Nat.le_succ_of_le (I.rl v), fun q l hq ht => I.i3 q l hq (by
  rw [if_pos (List.getElem?_eq_some_iff.mp hq).1]
  rw [if_neg (Nat.not_lt_zero q)] at ht
  omega)⟩
theorem inv_start : Inv n ls 1 0 ⟨fun _ => 0, fun _ => none, fun _ => 0, fun _ => 0, 0⟩ := ⟨fun v q h => (nomatch h), fun v h => absurd h (by simp), fun v => Nat.le_refl _, fun v => Nat.zero_le _, fun q l hq ht => by
  rw [if_neg (Nat.not_lt_zero q)] at ht
  simp at ht⟩
/-! two of n + 1 places bear the same of n values -/
theorem pigeon : ∀ (n : Nat) (g : Nat → Nat), (∀ k, k ≤ n → g k < n) → ∃ a b, a < b ∧ b ≤ n ∧ g a = g b
  | 0, g, h => absurd (h 0 (Nat.le_refl _)) (Nat.not_lt_zero _)
  | n + 1, g, h => by
    by_cases c : ∃ k, k ≤ n ∧ g k = g (n + 1)
    · obtain ⟨k, hk, e⟩ := c
      exact ⟨k, n + 1, by omega, Nat.le_refl _, e⟩
    · have no : ∀ k, k ≤ n → g k ≠ g (n + 1) := fun k hk e => c ⟨k, hk, e⟩
      have hz := h (n + 1) (Nat.le_refl _)
      obtain ⟨a, b, h1, h2, h3⟩ := pigeon n (fun k => if g k = n then g (n + 1) else g k) fun k hk => by
        have a := h k (by omega)
        have b := no k hk
        split <;> omega
      refine ⟨a, b, h1, by omega, ?_⟩
      have na := no a (by omega)
      have nb := no b h2
      by_cases ea : g a = n
      · rw [if_pos ea] at h3
        by_cases eb : g b = n
        · omega
        · rw [if_neg eb] at h3; omega
      · rw [if_neg ea] at h3
        by_cases eb : g b = n
        · rw [if_pos eb] at h3; omega
        · rw [if_neg eb] at h3; exact h3
end
end K00

namespace K00
/-- the limit behind v -/
def lmOf (ls : List Lm) (s : Bs) (v : Nat) : Lm := match s.bk v with
  | some q => (ls[q]?).getD (0, 0, 0, 0)
  | none => (0, 0, 0, 0)
def nxt (ls : List Lm) (s : Bs) (v : Nat) : Nat := (lmOf ls s v).2.1
def pth (ls : List Lm) (s : Bs) (v : Nat) : Nat → Nat
  | 0 => v
  | k + 1 => nxt ls s (pth ls s v k)
section
variable {n r : Nat} {ls : List Lm} {s : Bs} {v : Nat}
theorem pth_add (a : Nat) : ∀ b, pth ls s v (a + b) = pth ls s (pth ls s v a) b
  | 0 => rfl
  | b + 1 => by
    show nxt ls s (pth ls s v (a + b)) = nxt ls s (pth ls s (pth ls s v a) b)
    rw [pth_add a b]
theorem edge (I : Inv n ls r ls.length s) (h : s.bk v ≠ none) : ∃ q l, s.bk v = some q ∧ ls[q]? = some l ∧ lmOf ls s v = l ∧ l.1 = v ∧ s.f (nxt ls s v) + cost n l ≤ s.f v ∧ (s.t v ≤ s.t (nxt ls s v) → s.f (nxt ls s v) + cost n l < s.f v) ∧ s.T v ≤ s.T (nxt ls s v) + 1 := by
  cases e : s.bk v with
  | none => exact absurd e h
  | some q =>
    obtain ⟨l, a1, a2, a3, a4, a5, a6⟩ := I.e v q e
    have el : lmOf ls s v = l := by
      unfold lmOf
      rw [e]
      dsimp only
      rw [a1]
      rfl
    have en : nxt ls s v = l.2.1 := by unfold nxt; rw [el]
    exact ⟨q, l, rfl, a1, el, a2, by rw [en]; exact a3, by rw [en]; exact a4, by rw [en]; exact a6⟩
theorem pth_T (I : Inv n ls r ls.length s) (hT : n ≤ s.T v) : ∀ k, k ≤ n → n ≤ s.T (pth ls s v k) + k
  | 0, _ => hT
  | k + 1, hk => by
    have ih := pth_T I hT k (by omega)
    obtain ⟨_, _, _, _, _, _, _, _, h⟩ := edge I (I.d (pth ls s v k) (by omega))
    show n ≤ s.T (nxt ls s (pth ls s v k)) + (k + 1)
    omega
theorem pth_bk (I : Inv n ls r ls.length s) (hT : n ≤ s.T v) {k : Nat} (hk : k < n) : s.bk (pth ls s v k) ≠ none := I.d _ (by have := pth_T I hT k (by omega); omega)
theorem pth_lt (I : Inv n ls r ls.length s) (hr : Rg n ls) (hv : v < n) (hT : n ≤ s.T v) : ∀ k, k ≤ n → pth ls s v k < n
  | 0, _ => hv
  | k + 1, hk => by
    obtain ⟨q, l, _, h2, h3, _⟩ := edge I (pth_bk I hT (show k < n by omega))
    show nxt ls s (pth ls s v k) < n
    unfold nxt
    rw [h3]
    exact (hr l (List.mem_of_getElem? h2)).2
/-- the way back from v ends on a ring -/
theorem ring (I : Inv n ls r ls.length s) (hr : Rg n ls) (hv : v < n) (hT : n ≤ s.T v) : ∃ m, 1 ≤ m ∧ m ≤ n ∧ pth ls s (pth ls s v n) m = pth ls s v n ∧ (∀ k, s.bk (pth ls s v k) ≠ none) ∧ ∀ k, 1 ≤ k → k < m → pth ls s (pth ls s v n) k ≠ pth ls s v n := by
  obtain ⟨a, b, h1, h2, h3⟩ := pigeon n (pth ls s v) (pth_lt I hr hv hT)
  have per : ∀ j, pth ls s v (b + j) = pth ls s v (a + j) := fun j => by rw [pth_add, pth_add, h3]
  have all : ∀ k, s.bk (pth ls s v k) ≠ none := by
    intro k
    induction k using Nat.strongRecOn with
    | _ k ih =>
      rcases Nat.lt_or_ge k b with l | l
      · exact pth_bk I hT (by omega)
      · have e := per (k - b)
        rw [show b + (k - b) = k by omega] at e
        rw [e]
        exact ih _ (by omega)
  have back : pth ls s (pth ls s v n) (b - a) = pth ls s v n := by
    rw [← pth_add, show n + (b - a) = b + (n - a) by omega, per, show a + (n - a) = n by omega]
  obtain ⟨m, ⟨m1, m2⟩, m3⟩ := min_ex (fun m => 1 ≤ m ∧ pth ls s (pth ls s v n) m = pth ls s v n) id ⟨b - a, by omega, back⟩
  refine ⟨m, m1, ?_, m2, all, fun k k1 k2 e => ?_⟩
  · have := m3 (b - a) ⟨by omega, back⟩
    simp only [id] at this
    omega
  · have := m3 k ⟨k1, e⟩
    simp only [id] at this
    omega
/-! sums along the way -/
def sumC (g : Nat → Lm) : Nat → Int
  | 0 => 0
  | k + 1 => sumC g k + (g k).2.2.1
def sumW (g : Nat → Lm) : Nat → Int
  | 0 => 0
  | k + 1 => sumW g k + (g k).2.2.2
def sumK (n : Nat) (g : Nat → Lm) : Nat → Int
  | 0 => 0
  | k + 1 => sumK n g k + cost n (g k)
def prdW (g : Nat → Lm) : Nat → Int
  | 0 => 1
  | k + 1 => prdW g k * (g k).2.2.2
theorem sum_cost (g : Nat → Lm) : ∀ k, sumK n g k = n * sumC g k - k + sumW g k
  | 0 => by show (0 : Int) = n * 0 - 0 + 0; omega
  | k + 1 => by
    have ih := sum_cost g k
    show sumK n g k + ((g k).2.2.1 * n - 1 + (g k).2.2.2) = n * (sumC g k + (g k).2.2.1) - ((k + 1 : Nat) : Int) + (sumW g k + (g k).2.2.2)
    rw [ih, Int.mul_add, Int.mul_comm (g k).2.2.1 n]
    omega
theorem sumW_bd {g : Nat → Lm} (hw : ∀ k, (g k).2.2.2 = 0 ∨ (g k).2.2.2 = 1) : ∀ k, 0 ≤ sumW g k ∧ sumW g k ≤ k ∧ (prdW g k ≠ 0 → sumW g k = k)
  | 0 => ⟨Int.le_refl _, Int.le_refl _, fun _ => rfl⟩
  | k + 1 => by
    obtain ⟨a, b, c⟩ := sumW_bd hw k
    show 0 ≤ sumW g k + (g k).2.2.2 ∧ sumW g k + (g k).2.2.2 ≤ ((k + 1 : Nat) : Int) ∧ (prdW g k * (g k).2.2.2 ≠ 0 → sumW g k + (g k).2.2.2 = ((k + 1 : Nat) : Int))
    rcases hw k with e | e
    · rw [e]
      exact ⟨by omega, by omega, fun z => absurd (Int.mul_zero _) z⟩
    · rw [e, Int.mul_one]
      exact ⟨by omega, by omega, fun z => by have := c z; omega⟩
/-- a ring of back pointers is bad -/
theorem ring_bad (I : Inv n ls r ls.length s) (hw : W01 ls) {m : Nat} (m1 : 1 ≤ m) (m2 : m ≤ n) (hm : pth ls s v m = v) (hb : ∀ k, s.bk (pth ls s v k) ≠ none) :
    sumC (fun k => lmOf ls s (pth ls s v k)) m < 0 ∨ sumC (fun k => lmOf ls s (pth ls s v k)) m = 0 ∧ prdW (fun k => lmOf ls s (pth ls s v k)) m = 0 := by
  have w01 : ∀ k, (lmOf ls s (pth ls s v k)).2.2.2 = 0 ∨ (lmOf ls s (pth ls s v k)).2.2.2 = 1 := fun k => by
    obtain ⟨q, l, _, h2, h3, _⟩ := edge I (hb k)
    rw [h3]
    exact hw l (List.mem_of_getElem? h2)
  have tel : ∀ k, sumK n (fun k => lmOf ls s (pth ls s v k)) k + s.f (pth ls s v k) ≤ s.f v ∧ (sumK n (fun k => lmOf ls s (pth ls s v k)) k + s.f (pth ls s v k) < s.f v ∨ s.t (pth ls s v k) + k ≤ s.t v) := by
    intro k
    induction k with
    | zero => exact ⟨by show (0 : Int) + s.f v ≤ s.f v; omega, .inr (Nat.le_refl _)⟩
    | succ k ih =>
      obtain ⟨q, l, _, _, h3, _, h5, h6, _⟩ := edge I (hb k)
      have e : sumK n (fun k => lmOf ls s (pth ls s v k)) (k + 1) = sumK n (fun k => lmOf ls s (pth ls s v k)) k + cost n l := by
        show sumK n (fun k => lmOf ls s (pth ls s v k)) k + cost n (lmOf ls s (pth ls s v k)) = _
        rw [h3]
      have e2 : pth ls s v (k + 1) = nxt ls s (pth ls s v k) := rfl
      rw [e, e2]
      refine ⟨by omega, ?_⟩
      rcases ih.2 with z | z
      · exact .inl (by omega)
      · rcases Nat.lt_or_ge (s.t (nxt ls s (pth ls s v k))) (s.t (pth ls s v k)) with y | y
        · exact .inr (by omega)
        · have := h6 y
          exact .inl (by omega)
  obtain ⟨_, t2⟩ := tel m
  rw [hm] at t2
  have neg : sumK n (fun k => lmOf ls s (pth ls s v k)) m < 0 := by
    rcases t2 with z | z
    · omega
    · omega
  rw [sum_cost] at neg
  obtain ⟨b1, b2, b3⟩ := sumW_bd w01 m
  rcases Int.lt_trichotomy (sumC (fun k => lmOf ls s (pth ls s v k)) m) 0 with l | l | l
  · exact .inl l
  · refine .inr ⟨l, Decidable.byContradiction fun z => ?_⟩
    have := b3 z
    rw [l, Int.mul_zero] at neg
    omega
  · have : (n : Int) * 1 ≤ n * sumC (fun k => lmOf ls s (pth ls s v k)) m := Int.mul_le_mul_of_nonneg_left (by omega) (by omega)
    omega
/-- a bad ring of limits and a fixed point do not go together -/
theorem bad_nofix {f : Nat → Int} (h : Feas n ls f) {g : Nat → Lm} {m : Nat} (hg : ∀ k, k < m → g k ∈ ls) (hk : ∀ k, k + 1 < m → (g k).2.1 = (g (k + 1)).1) (m1 : 1 ≤ m) (hz : (g (m - 1)).2.1 = (g 0).1) (hn : 1 ≤ n) (hw : ∀ k, (g k).2.2.2 = 0 ∨ (g k).2.2.2 = 1)
    (bad : sumC g m < 0 ∨ sumC g m = 0 ∧ prdW g m = 0) : False := by
  have tel : ∀ k, k < m → f (g 0).1 ≤ f (g k).2.1 + sumK n g (k + 1) := by
    intro k
    induction k with
    | zero =>
      intro h0
      have := h _ (hg 0 h0)
      show f (g 0).1 ≤ f (g 0).2.1 + (0 + cost n (g 0))
      omega
    | succ k ih =>
      intro hk1
      have a := ih (by omega)
      have b := h _ (hg (k + 1) hk1)
      rw [hk k hk1] at a
      show f (g 0).1 ≤ f (g (k + 1)).2.1 + (sumK n g (k + 1) + cost n (g (k + 1)))
      omega
  have t := tel (m - 1) (by omega)
  rw [hz, show m - 1 + 1 = m by omega, sum_cost] at t
  obtain ⟨b1, b2, b3⟩ := sumW_bd hw m
  rcases bad with l | ⟨l, z⟩
  · have : (n : Int) * sumC g m ≤ n * (-1) := Int.mul_le_mul_of_nonneg_left (by omega) (by omega)
    omega
  · rw [l, Int.mul_zero] at t
    have e : sumW g m = m := by omega
    have all1 : ∀ k, k ≤ m → sumW g k = k → prdW g k = 1 := by
      intro k
      induction k with
      | zero => exact fun _ _ => rfl
      | succ k ih =>
        intro hk1 e
        have e : sumW g k + (g k).2.2.2 = ((k + 1 : Nat) : Int) := e
        obtain ⟨_, c2, _⟩ := sumW_bd hw k
        have w1 : (g k).2.2.2 = 1 := by rcases hw k with q | q <;> omega
        show prdW g k * (g k).2.2.2 = 1
        rw [w1, Int.mul_one]
        exact ih (by omega) (by omega)
    have := all1 m (Nat.le_refl _) e
    omega
end
end K00

namespace K00
open PySem
open _root_.L2
open Dw
/-- the law's bag of numbers -/
structure Bg where
  cs : List Int
  i : Int
  big : Int
  st : Int
  cnt : Int
def inL (ws : List Int) : List PyData := ws.map .int
def Bg.l (x : Bg) : List PyData := [.list (inL x.cs), .int x.i, .int x.big, .int x.st, .int x.cnt]
theorem at_inL {cs : List Int} {i : Int} (h0 : 0 ≤ i) (h1 : i < (((inL cs).length : Nat) : Int)) : ∃ c : Int, atI (inL cs) i = some (.int c) := by
  obtain ⟨k, rfl⟩ : ∃ k : Nat, i = k := ⟨i.toNat, by omega⟩
  rw [inL, List.length_map] at h1
  refine ⟨cs[k]'(by omega), atI_n ?_⟩
  rw [inL, List.getElem?_map, List.getElem?_eq_getElem (by omega)]
  rfl
theorem cmR {i j : Int} (h : -(2 ^ 64) < j ∧ j < 2 ^ 64) : CMul i j := .inr h
theorem cmL {i j : Int} (h : -(2 ^ 64) < i ∧ i < 2 ^ 64) : CMul i j := .inl h
theorem cdv {i j : Int} (h : 0 < j ∧ j < 2 ^ 63) : CDivW i j := fd64 h
theorem cpw {i j : Int} (h : 0 ≤ j ∧ j ≤ 1000000 ∧ i.natAbs < 2 ^ 64) : CPow i j := h
section
variable {K : PySem.W.Frag} {b : B} {s : S} {Φ : Dw.A → S → Prop} {x : Bg}
theorem v2_bag {i : Int} {z : PyData} {k : Nat} (h : s.os[k]? = some (.lst x.l)) (e : atI x.l i = some z) (q : Φ (.d z) s) : V2 K b (rIx K) (.o k) (.d (.int i)) s Φ := v2_ixO h e q
end
end K00

namespace Dw
open PySem
open _root_.L2
section
variable {K : PySem.W.Frag} {b : B} {s : S} {ta : TE} {Φ : A → S → Prop}
theorem da_rg {H : Hp} (n : Nat) : DrA K H (rgV 0 (n : Int)) (rngD 0 n) := by
  unfold rgV rngD
  rw [show ((n : Int) - 0).toNat = n by omega]
  induction List.range n with
  | nil => exact .nil
  | cons x l ih => exact .cons (.int _) ih
theorem ev_lstRg1 (h : EV K b ta s fun a s1 => ∃ n : Nat, a = .d (.int n) ∧ n ≤ 16777216 ∧ Φ (.o s1.os.length) (s1.add (.lst (rngD 0 n)))) : EV K b (tLstRg (tRg1 ta)) s Φ := fun σ H tv tl Hd ps R Q k =>
  h σ H tv tl Hd ps R _ fun v H1 a s1 Hd1 ps1 h1 R1 a1 => by
    obtain ⟨n, rfl, hn, q⟩ := h1
    cases a1
    refine ⟨_, rfl, RgOk.of_le (Int.le_refl 0) (by omega) (by omega) (by omega), fun p hp => ?_⟩
    obtain ⟨R2, a2⟩ := R1.new (c := .lst (rngD 0 n)) (o := .lst (rgV 0 n)) hp ⟨none_of_same R1.e1 hp, _, upd_same, da_rg n⟩
    exact k _ _ _ _ _ _ q R2 a2
end
end Dw
namespace K00
open PySem
open _root_.L2
open Dw
theorem cut63 (ns : List Int) : ∃ ms : List Int, cutD (ns.map .int) none (some 63) = inL ms ∧ ms.length ≤ 63 := by
  unfold cutD
  refine ⟨(ns.drop (HT.sIx (ns.map PyData.int).length 0 none)).take (HT.sIx (ns.map PyData.int).length (ns.map PyData.int).length (some 63) - HT.sIx (ns.map PyData.int).length 0 none), by rw [inL, List.map_take, List.map_drop], ?_⟩
  have e : HT.sIx (ns.map PyData.int).length (ns.map PyData.int).length (some ((63 : Nat) : Int)) = min 63 (ns.map PyData.int).length := HT.sIx_nat _ _ _
  have e2 : HT.sIx (ns.map PyData.int).length (ns.map PyData.int).length (some 63) = min 63 (ns.map PyData.int).length := e
  rw [e2, List.length_take]
  omega
theorem seq_ix {i : Int} {n : Nat} (h0 : 0 ≤ i) (h1 : i < n) : seqIndex? i n = some i.toNat := by
  unfold seqIndex?
  simp
  omega
def inN (l : List Nat) : List PyData := l.map fun (i : Nat) => PyData.int (i : Int)
theorem rng_inN (n : Nat) : rngD 0 n = inN (List.range n) := by
  unfold rngD inN
  exact List.map_congr_left fun (i : Nat) _ => by show PyData.int (0 + (i : Int)) = _; rw [Int.zero_add]
theorem inN_len {l : List Nat} : (inN l).length = l.length := List.length_map ..
theorem inN_snoc {l : List Nat} {x : Nat} : inN l ++ [.int (x : Int)] = inN (l ++ [x]) := by rw [inN, inN, List.map_append]; rfl
theorem inN_erase : ∀ {l : List Nat} (m : Nat), (inN l).eraseIdx m = inN (l.eraseIdx m)
  | [], _ => rfl
  | x :: l, 0 => rfl
  | x :: l, m + 1 => congrArg (PyData.int (x : Int) :: ·) (inN_erase (l := l) m)
theorem er_perm : ∀ {l : List Nat} {m z : Nat}, l[m]? = some z → (z :: l.eraseIdx m).Perm l
  | [], _, _, h => by simp at h
  | x :: l, 0, z, h => by simp at h; subst h; exact .refl _
  | x :: l, m + 1, z, h => (List.Perm.swap x z (l.eraseIdx m)).trans (.cons x (er_perm (l := l) (by simpa using h)))
theorem pop_perm {l o : List Nat} {m z : Nat} (h : l[m]? = some z) : (l.eraseIdx m ++ (o ++ [z])).Perm (l ++ o) := by
  have p : (z :: l.eraseIdx m).Perm l := er_perm h
  rw [← List.append_assoc]
  exact (List.perm_append_singleton z _).trans (p.append_right o)
end K00

namespace K00
open PySem
open _root_.L2
open Dw
theorem inL_at {o : List Int} {k : Nat} (h : k < o.length) : atI (inL o) (k : Int) = some (.int (o.getD k 0)) := atI_n (by
  rw [inL, List.getElem?_map, List.getElem?_eq_getElem h]
  simp [List.getD, List.getElem?_eq_getElem h])
theorem inN_at {o : List Nat} {k : Nat} (h : k < o.length) : atI (inN o) (k : Int) = some (.int (o.getD k 0 : Nat)) := atI_n (by
  rw [inN, List.getElem?_map, List.getElem?_eq_getElem h]
  simp [List.getD, List.getElem?_eq_getElem h])
abbrev lmD (l : Lm) : PyData := .tuple [.int l.1, .int l.2.1, .int l.2.2.1, .int l.2.2.2]
def lmsD (ls : List Lm) : List PyData := ls.map lmD
theorem lmsD_len {ls : List Lm} : (lmsD ls).length = ls.length := List.length_map ..
theorem lmsD_get {ls : List Lm} {k : Nat} {l : Lm} (h : ls[k]? = some l) : (lmsD ls)[k]? = some (lmD l) := by rw [lmsD, List.getElem?_map, h]; rfl
theorem lmsD_at {ls : List Lm} {k : Nat} {l : Lm} (h : ls[k]? = some l) : atI (lmsD ls) (k : Int) = some (lmD l) := atI_n (lmsD_get h)
theorem lmsD_inv {ls : List Lm} {k : Nat} {x : PyData} (h : (lmsD ls)[k]? = some x) : ∃ l, ls[k]? = some l ∧ x = lmD l := by
  rw [lmsD, List.getElem?_map] at h
  cases e : ls[k]? with
  | none => rw [e] at h; cases h
  | some l => rw [e] at h; exact ⟨l, rfl, (Option.some.inj h).symm⟩
/-- a function on 0 .. n - 1 as a list -/
def fnL (n : Nat) (f : Nat → PyData) : List PyData := (List.range n).map f
theorem fnL_len {n : Nat} {f : Nat → PyData} : (fnL n f).length = n := by rw [fnL, List.length_map, List.length_range]
theorem fnL_get {n k : Nat} {f : Nat → PyData} (h : k < n) : (fnL n f)[k]? = some (f k) := by
  rw [fnL, List.getElem?_map, List.getElem?_range h]
  rfl
theorem fnL_at {n k : Nat} {f : Nat → PyData} (h : k < n) : atI (fnL n f) (k : Int) = some (f k) := atI_n (fnL_get h)
theorem fnL_set {n k : Nat} {f : Nat → PyData} {x : PyData} : (fnL n f).set k x = fnL n (fun v => if v = k then x else f v) := by
  apply List.ext_getElem?
  intro i
  by_cases hi : i < n
  · rw [fnL_get hi]
    by_cases e : i = k
    · subst e
      rw [List.getElem?_set_self (by rw [fnL_len]; exact hi), if_pos rfl]
    · rw [List.getElem?_set_ne (Ne.symm e), fnL_get hi, if_neg e]
  · rw [List.getElem?_eq_none (by rw [List.length_set, fnL_len]; omega), List.getElem?_eq_none (by rw [fnL_len]; omega)]
theorem fnL_const {n : Nat} {x : PyData} : (List.replicate n [x]).flatten = fnL n (fun _ => x) := by
  unfold fnL
  induction n with
  | zero => rfl
  | succ n ih => rw [List.replicate_succ', List.flatten_append, ih, List.range_succ, List.map_append]; rfl
theorem fnL_congr {n : Nat} {f g : Nat → PyData} (h : ∀ v, v < n → f v = g v) : fnL n f = fnL n g := List.map_congr_left fun v hv => h v (List.mem_range.mp hv)
theorem ixN_n {n k : Nat} (h : k < n) : ixN n (k : Int) = some k := by
  unfold ixN
  simp
  omega
/-- a bad cycle, by indexes -/
def atC (ls : List Lm) (ch : List Nat) (k : Nat) : Lm := (ls[ch.getD k 0]?).getD (0, 0, 0, 0)
def BadCh (ls : List Lm) (ch : List Nat) : Prop := 1 ≤ ch.length ∧ (∀ k, k < ch.length → ch.getD k 0 < ls.length) ∧ (∀ k, k < ch.length → (atC ls ch k).2.1 = (atC ls ch ((k + 1) % ch.length)).1) ∧
  (sumC (atC ls ch) ch.length < 0 ∨ sumC (atC ls ch) ch.length = 0 ∧ prdW (atC ls ch) ch.length = 0)
theorem sumC_congr {g h : Nat → Lm} : ∀ {m : Nat}, (∀ k, k < m → g k = h k) → sumC g m = sumC h m
  | 0, _ => rfl
  | m + 1, e => by
    show sumC g m + (g m).2.2.1 = sumC h m + (h m).2.2.1
    rw [sumC_congr fun k hk => e k (by omega), e m (by omega)]
theorem prdW_congr {g h : Nat → Lm} : ∀ {m : Nat}, (∀ k, k < m → g k = h k) → prdW g m = prdW h m
  | 0, _ => rfl
  | m + 1, e => by
    show prdW g m * (g m).2.2.2 = prdW h m * (h m).2.2.2
    rw [prdW_congr fun k hk => e k (by omega), e m (by omega)]
def bkN (s : Bs) (v : Nat) : Nat := (s.bk v).getD 0
def chOf (ls : List Lm) (s : Bs) (v m : Nat) : List Nat := (List.range m).map fun k => bkN s (pth ls s v k)
theorem chOf_len {ls : List Lm} {s : Bs} {v m : Nat} : (chOf ls s v m).length = m := by rw [chOf, List.length_map, List.length_range]
theorem chOf_at {ls : List Lm} {s : Bs} {v m k : Nat} (h : k < m) : (chOf ls s v m).getD k 0 = bkN s (pth ls s v k) := by
  rw [chOf, List.getD, List.getElem?_map, List.getElem?_range h]
  rfl
theorem bkN_at {n r : Nat} {ls : List Lm} {s : Bs} {v : Nat} (I : Inv n ls r ls.length s) (h : s.bk v ≠ none) : s.bk v = some (bkN s v) ∧ ls[bkN s v]? = some (lmOf ls s v) ∧ (lmOf ls s v).1 = v := by
  obtain ⟨q, l, h1, h2, h3, h4, _⟩ := edge I h
  unfold bkN
  rw [h1]
  exact ⟨rfl, by rw [h3]; exact h2, by rw [h3]; exact h4⟩
theorem ch_bad {n : Nat} {ls : List Lm} {s : Bs} {v m : Nat} (I : Inv n ls n ls.length s) (hw : W01 ls) (m1 : 1 ≤ m) (m2 : m ≤ n) (hm : pth ls s v m = v) (hb : ∀ k, s.bk (pth ls s v k) ≠ none) : BadCh ls (chOf ls s v m) := by
  have ea : ∀ k, k < m → atC ls (chOf ls s v m) k = lmOf ls s (pth ls s v k) := fun k hk => by
    unfold atC
    rw [chOf_at hk, (bkN_at I (hb k)).2.1]
    rfl
  unfold BadCh
  rw [chOf_len]
  refine ⟨m1, fun k hk => ?_, fun k hk => ?_, ?_⟩
  · rw [chOf_at hk]
    exact (List.getElem?_eq_some_iff.mp (bkN_at I (hb k)).2.1).1
  · have e1 : (lmOf ls s (pth ls s v k)).2.1 = pth ls s v (k + 1) := rfl
    have hk2 : (k + 1) % m < m := Nat.mod_lt _ (by omega)
    rw [ea k hk, ea _ hk2, e1, (bkN_at I (hb _)).2.2]
    by_cases e : k + 1 = m
    · rw [e, Nat.mod_self, hm]; rfl
    · rw [Nat.mod_eq_of_lt (by omega)]
  · rw [sumC_congr ea, prdW_congr ea]
    exact ring_bad I hw m1 m2 hm hb
/-- what back holds -/
def bkD (s : Bs) (v : Nat) : PyData := match s.bk v with
  | some q => .int (q : Nat)
  | none => .none
theorem bkD_at {s : Bs} {v : Nat} (h : s.bk v = some (bkN s v)) : bkD s v = .int (bkN s v : Nat) := by unfold bkD; rw [h]
theorem inN_app {a : List Nat} {x : Nat} : inN a ++ [.int (x : Int)] = inN (a ++ [x]) := by rw [inN, inN, List.map_append]; rfl
theorem chOf_succ {ls : List Lm} {s : Bs} {v m : Nat} : chOf ls s v m ++ [bkN s (pth ls s v m)] = chOf ls s v (m + 1) := by rw [chOf, chOf, List.range_succ, List.map_append]; rfl
end K00
namespace K00
open PySem
open _root_.L2
open Dw
/-! rows as they come -/
abbrev Rw := Int × Int × Int × Int
abbrev rwD (x : Rw) : PyData := .tuple [.int x.1, .int x.2.1, .int x.2.2.1, .int x.2.2.2]
def rwsD (xs : List Rw) : List PyData := xs.map rwD
theorem rwsD_len {xs : List Rw} : (rwsD xs).length = xs.length := List.length_map ..
theorem rwsD_inv {xs : List Rw} {k : Nat} {x : PyData} (h : (rwsD xs)[k]? = some x) : ∃ l, xs[k]? = some l ∧ x = rwD l := by
  rw [rwsD, List.getElem?_map] at h
  cases e : xs[k]? with
  | none => rw [e] at h; cases h
  | some l => rw [e] at h; exact ⟨l, rfl, (Option.some.inj h).symm⟩
def okR (n : Nat) (x : Rw) : Prop := (0 ≤ x.1 ∧ x.1 < n) ∧ (0 ≤ x.2.1 ∧ x.2.1 < n) ∧ (x.2.2.2 = 0 ∨ x.2.2.2 = 1)
def lmR (l : Lm) : Rw := (l.1, l.2.1, l.2.2.1, l.2.2.2)
theorem lmsD_rws {ls : List Lm} : lmsD ls = rwsD (ls.map lmR) := by rw [lmsD, rwsD, List.map_map]; rfl
theorem okR_lm {n : Nat} {ls : List Lm} (hr : Rg n ls) (hw : W01 ls) : ∀ x ∈ ls.map lmR, okR n x := fun x hx => by
  obtain ⟨l, hl, rfl⟩ := List.mem_map.mp hx
  obtain ⟨a, b⟩ := hr l hl
  exact ⟨⟨Int.natCast_nonneg _, by show (l.1 : Int) < n; omega⟩, ⟨Int.natCast_nonneg _, by show (l.2.1 : Int) < n; omega⟩, hw l hl⟩
/-- good rows are limits -/
theorem rws_lm {n : Nat} : ∀ {xs : List Rw}, (∀ x ∈ xs, okR n x) → ∃ ls : List Lm, xs = ls.map lmR ∧ Rg n ls ∧ W01 ls
  | [], _ => ⟨[], rfl, (fun _ h => nomatch h), fun _ h => nomatch h⟩
  | (i, j, c, w) :: xs, h => by
    obtain ⟨ls, e, hr, hw⟩ := rws_lm (xs := xs) fun x hx => h x (List.mem_cons_of_mem _ hx)
    obtain ⟨⟨a1, a2⟩, ⟨a3, a4⟩, a5⟩ := h _ List.mem_cons_self
    dsimp only at a1 a2 a3 a4 a5
    refine ⟨(i.toNat, j.toNat, c, w) :: ls, ?_, fun l hl => ?_, fun l hl => ?_⟩
    · rw [e, List.map_cons]
      show ((i, j, c, w) : Rw) :: _ = ((i.toNat : Int), (j.toNat : Int), c, w) :: _
      rw [Int.toNat_of_nonneg a1, Int.toNat_of_nonneg a3]
    · rcases List.mem_cons.mp hl with rfl | hl
      · exact ⟨by show i.toNat < n; omega, by show j.toNat < n; omega⟩
      · exact hr l hl
    · rcases List.mem_cons.mp hl with rfl | hl
      · exact a5
      · exact hw l hl
theorem enumD_get {ds : List PyData} {k : Nat} {x : PyData} (h : (enumD ds)[k]? = some x) : ∃ y, ds[k]? = some y ∧ x = .tuple [.int (k : Nat), y] := by
  have hi : k < ds.length := by
    have := (List.getElem?_eq_some_iff.mp h).1
    rw [enumD, List.length_mapIdx] at this
    exact this
  refine ⟨ds[k], List.getElem?_eq_getElem hi, ?_⟩
  rw [enumD, List.getElem?_mapIdx, List.getElem?_eq_getElem hi] at h
  exact (Option.some.inj h).symm
theorem enumD_len {ds : List PyData} : (enumD ds).length = ds.length := by rw [enumD, List.length_mapIdx]
end K00
namespace K00
open PySem
open Dw
theorem fmN {k : Nat} (h : k ≤ 1000) : FmD (.int (k : Nat)) := by
  show ((k : Int)).natAbs.log2 < 1920
  have := Nat.log2_le_self k
  rw [Int.natAbs_natCast]
  omega
end K00

namespace K00
open PySem
open _root_.L2
open Dw
def s00 : Bs := ⟨fun _ => 0, fun _ => none, fun _ => 0, fun _ => 0, 0⟩
theorem bst_f {n r q : Nat} {l : Lm} {s : Bs} : (bst n r q l s).f = stp n s.f l := by
  unfold bst stp
  split <;> rfl
theorem bst_no {n r q : Nat} {l : Lm} {s : Bs} (h : ¬ s.f l.2.1 + cost n l < s.f l.1) : bst n r q l s = s := if_neg h
theorem rnd_take {n p : Nat} {ls : List Lm} {f : Nat → Int} {l : Lm} (h : ls[p]? = some l) : rnd n (ls.take (p + 1)) f = stp n (rnd n (ls.take p) f) l := by
  unfold rnd
  rw [List.take_add_one, h]
  simp [List.foldl_append]
theorem solve_sol {n : Nat} {ls : List Lm} {f : Nat → Int} {g : Int} (n1 : 1 ≤ n) (hr : Rg n ls) (hw : W01 ls) (hf : ∀ l, l ∈ ls → f l.1 ≤ f l.2.1 + cost n l) (hg : 1 ≤ g) (hn : ∃ m : Int, (n : Int) = g * m)
    (hd : ∀ v, v < n → ∃ m : Int, f v - f 0 = g * m) : 1 ≤ (n : Int) / g ∧ (n : Int) / g ≤ n ∧ (((List.range n).map f).map fun v => (v - f 0) / g).getD 0 0 = 0 ∧ Sol ls ((n : Int) / g) fun v => (((List.range n).map f).map fun v => (v - f 0) / g).getD v 0 := by
  have at_ : ∀ v, v < n → (((List.range n).map f).map fun v => (v - f 0) / g).getD v 0 = (f v - f 0) / g := fun v hv => by
    rw [List.map_map, List.getD, List.getElem?_map, List.getElem?_range hv]
    rfl
  obtain ⟨m, hm⟩ := hn
  have e : (n : Int) / g = m := by rw [hm]; exact Int.mul_ediv_cancel_left _ (by omega)
  have m1 : 1 ≤ m := by
    apply Decidable.byContradiction
    intro z
    have : g * m ≤ 0 := Int.mul_nonpos_of_nonneg_of_nonpos (by omega) (by omega)
    omega
  refine ⟨by omega, ?_, ?_, fun l hl => ?_⟩
  · rw [e, hm]
    have : 1 * m ≤ g * m := Int.mul_le_mul_of_nonneg_right hg (by omega)
    omega
  · rw [at_ 0 (by omega), Int.sub_self]
    exact Int.zero_ediv _
  · obtain ⟨h1, h2⟩ := hr l hl
    show (((List.range n).map f).map fun v => (v - f 0) / g).getD l.1 0 - (((List.range n).map f).map fun v => (v - f 0) / g).getD l.2.1 0 ≤ _
    rw [at_ _ h1, at_ _ h2]
    have := fix_sol (f := fun v => if v < n then f v else f 0) hg hw (n := n) (ls := ls) (fun l hl => by
      obtain ⟨h1, h2⟩ := hr l hl
      show (if l.1 < n then f l.1 else f 0) ≤ (if l.2.1 < n then f l.2.1 else f 0) + cost n l
      rw [if_pos h1, if_pos h2]
      exact hf l hl) ⟨m, hm⟩ (fun v => by
      show ∃ m : Int, (if v < n then f v else f 0) - (if 0 < n then f 0 else f 0) = g * m
      rw [if_pos (show 0 < n by omega)]
      split
      · rename_i h; exact hd v h
      · exact ⟨0, by omega⟩) l hl
    have this : ((if l.1 < n then f l.1 else f 0) - (if 0 < n then f 0 else f 0)) / g - ((if l.2.1 < n then f l.2.1 else f 0) - (if 0 < n then f 0 else f 0)) / g ≤ l.2.2.1 * ((n : Int) / g) - (1 - l.2.2.2) := this
    rw [if_pos h1, if_pos h2, if_pos (show 0 < n by omega)] at this
    exact this
theorem no_feas {n : Nat} {ls : List Lm} (n1 : 1 ≤ n) (hr : Rg n ls) (h : ∃ l, l ∈ ls ∧ rns n ls (n - 1) l.2.1 + cost n l < rns n ls (n - 1) l.1) : ¬ ∃ P, Feas n ls P := fun ⟨P, hP⟩ => by
  obtain ⟨d, t⟩ := top_ex hr hP
  obtain ⟨l, hl, z⟩ := h
  exact rns_done t n1 l hl z
abbrev timesD (u : Int) (f : List Int) : PyData := .tuple [.str (PySem.Str.ofString "times"), .int u, .list (inL f)]
abbrev cycleD (ch : List Nat) : PyData := .tuple [.str (PySem.Str.ofString "cycle"), .list (inN ch)]
/-- what solve answers -/
def Ans (n : Nat) (ls : List Lm) (z : PyData) : Prop := (∃ (u : Int) (f : List Int), z = timesD u f ∧ 1 ≤ u ∧ u ≤ n ∧ f.length = n ∧ f.getD 0 0 = 0 ∧ Sol ls u fun v => f.getD v 0) ∨ ∃ ch, z = cycleD ch ∧ BadCh ls ch ∧ ch.length ≤ n ∧ ¬ ∃ P, Feas n ls P
end K00
namespace K00
open PySem
open Dw
theorem fnL_inL {n : Nat} {f : Nat → Int} : fnL n (fun v => .int (f v)) = inL ((List.range n).map f) := by rw [inL, List.map_map]; rfl
theorem fnL_ifi {n k : Nat} {f : Nat → Int} {x : Int} : fnL n (fun v => if v = k then .int x else .int (f v)) = fnL n (fun v => .int (if v = k then x else f v)) := fnL_congr fun v _ => by split <;> rfl
theorem fnL_ifs {n k : Nat} {x : Int} {s s' : Bs} (h : s'.f = fun v => if v = k then x else s.f v) : fnL n (fun v => if v = k then .int x else .int (s.f v)) = fnL n (fun v => .int (s'.f v)) := fnL_congr fun v _ => by
  rw [h]
  dsimp only
  split <;> rfl
theorem fnL_ifb {n k p : Nat} {s s' : Bs} (h : s'.bk = fun v => if v = k then some p else s.bk v) : fnL n (fun v => if v = k then .int (p : Nat) else bkD s v) = fnL n (bkD s') := fnL_congr fun v _ => by
  unfold bkD
  rw [h]
  dsimp only
  split <;> rfl
end K00

namespace K00
open PySem
open Dw
/-- limit k -/
def lmG (cs : List Lm) (k : Nat) : Lm := cs.getD k (0, 0, 0, 0)
theorem lmG_get {cs : List Lm} {k : Nat} (h : k < cs.length) : cs[k]? = some (lmG cs k) := by
  rw [lmG, List.getD, List.getElem?_eq_getElem h]
  rfl
/-- a ring of limits over different variables -/
structure Ring (n : Nat) (cs : List Lm) : Prop where
  m1 : 1 ≤ cs.length
  mn : cs.length ≤ n
  rg : Rg n cs
  w01 : W01 cs
  nd : (cs.map (·.1)).Nodup
  lk : ∀ k, k < cs.length → (lmG cs k).2.1 = (lmG cs ((k + 1) % cs.length)).1
/-- a bad one -/
def BadR (cs : List Lm) : Prop := sumC (lmG cs) cs.length < 0 ∨ sumC (lmG cs) cs.length = 0 ∧ prdW (lmG cs) cs.length = 0
theorem bad_no {n : Nat} {ls cs : List Lm} (hn : 1 ≤ n) (R : Ring n cs) (hb : BadR cs) (hs : ∀ l, l ∈ cs → l ∈ ls) : ¬ ∃ P, Feas n ls P := fun ⟨P, hP⟩ => by
  have w01 : ∀ k, (lmG cs k).2.2.2 = 0 ∨ (lmG cs k).2.2.2 = 1 := fun k => by
    by_cases h : k < cs.length
    · exact R.w01 _ (List.mem_of_getElem? (lmG_get h))
    · unfold lmG
      rw [List.getD, List.getElem?_eq_none (by omega)]
      exact .inl rfl
  refine bad_nofix hP (g := lmG cs) (m := cs.length) (fun k hk => hs _ (List.mem_of_getElem? (lmG_get hk))) (fun k hk => ?_) R.m1 ?_ hn w01 hb
  · rw [R.lk k (by omega), Nat.mod_eq_of_lt hk]
  · have := R.lk (cs.length - 1) (by have := R.m1; omega)
    rw [show cs.length - 1 + 1 = cs.length by have := R.m1; omega, Nat.mod_self] at this
    exact this
/-- strict limits among the first k -/
def nst (g : Nat → Lm) : Nat → Int
  | 0 => 0
  | k + 1 => nst g k + (1 - (g k).2.2.2)
theorem ring_good {n : Nat} {cs : List Lm} (R : Ring n cs) (hs : nst (lmG cs) cs.length ≤ sumC (lmG cs) cs.length * cs.length) : ∃ P, Feas n cs P := by
  have m1 := R.m1
  obtain ⟨x, hx⟩ : ∃ x : Nat → Int, ∀ k, k < cs.length → x (lmG cs k).1 = nst (lmG cs) k - sumC (lmG cs) k * cs.length := by
    refine ⟨fun v => nst (lmG cs) ((cs.map (·.1)).idxOf v) - sumC (lmG cs) ((cs.map (·.1)).idxOf v) * cs.length, fun k hk => ?_⟩
    have e : (cs.map (·.1)).idxOf (lmG cs k).1 = k := by
      have h := R.nd.idxOf_getElem k (by simpa using hk)
      rw [List.getElem_map] at h
      have e2 : cs[k] = lmG cs k := by
        have := lmG_get hk
        rw [List.getElem?_eq_getElem hk] at this
        exact Option.some.inj this
      rw [e2] at h
      exact h
    show nst (lmG cs) ((cs.map (·.1)).idxOf (lmG cs k).1) - sumC (lmG cs) ((cs.map (·.1)).idxOf (lmG cs k).1) * cs.length = _
    rw [e]
  have sol : Sol cs cs.length x := fun l hl => by
    obtain ⟨k, hk⟩ := List.getElem?_of_mem hl
    have hkl := (List.getElem?_eq_some_iff.mp hk).1
    have e : l = lmG cs k := by rw [lmG_get hkl] at hk; exact (Option.some.inj hk).symm
    subst e
    have h1 := hx k hkl
    have e1 : sumC (lmG cs) (k + 1) = sumC (lmG cs) k + (lmG cs k).2.2.1 := rfl
    have e2 : nst (lmG cs) (k + 1) = nst (lmG cs) k + (1 - (lmG cs k).2.2.2) := rfl
    have e3 : (sumC (lmG cs) k + (lmG cs k).2.2.1) * (cs.length : Int) = sumC (lmG cs) k * cs.length + (lmG cs k).2.2.1 * cs.length := Int.add_mul _ _ _
    rw [R.lk k hkl, h1]
    by_cases ee : k + 1 = cs.length
    · rw [ee, Nat.mod_self]
      have h0 := hx 0 (by omega)
      have e0 : nst (lmG cs) 0 - sumC (lmG cs) 0 * (cs.length : Int) = 0 := by show (0 : Int) - 0 * (cs.length : Int) = 0; rw [Int.zero_mul]; rfl
      rw [e0] at h0
      rw [h0]
      rw [← ee] at hs
      rw [e1, e2, ee] at hs
      omega
    · rw [Nat.mod_eq_of_lt (by omega), hx (k + 1) (by omega), e1, e2]
      omega
  exact ⟨_, pot_feas (by omega) R.rg R.w01 sol⟩
end K00
namespace K00
open PySem
open Dw
def mend (cs : List Lm) (c : Int) : List Lm := cs.dropLast ++ [((lmG cs (cs.length - 1)).1, (lmG cs (cs.length - 1)).2.1, c, (lmG cs (cs.length - 1)).2.2.2)]
theorem mend_len {cs : List Lm} {c : Int} (h : 1 ≤ cs.length) : (mend cs c).length = cs.length := by
  rw [mend, List.length_append, List.length_dropLast, List.length_singleton]
  omega
theorem mend_at {cs : List Lm} {c : Int} {k : Nat} (h : k + 1 < cs.length) : lmG (mend cs c) k = lmG cs k := by
  unfold lmG mend
  rw [List.getD, List.getElem?_append_left (by rw [List.length_dropLast]; omega), List.getElem?_dropLast, if_pos (by omega)]
  rfl
theorem mend_last {cs : List Lm} {c : Int} (h : 1 ≤ cs.length) : lmG (mend cs c) (cs.length - 1) = ((lmG cs (cs.length - 1)).1, (lmG cs (cs.length - 1)).2.1, c, (lmG cs (cs.length - 1)).2.2.2) := by
  unfold lmG mend
  rw [List.getD, List.getElem?_append_right (by rw [List.length_dropLast]; omega), List.length_dropLast, Nat.sub_self]
  rfl
theorem mend_all {cs : List Lm} {c : Int} {k : Nat} (h : k < cs.length) : (lmG (mend cs c) k).1 = (lmG cs k).1 ∧ (lmG (mend cs c) k).2.1 = (lmG cs k).2.1 ∧ (lmG (mend cs c) k).2.2.2 = (lmG cs k).2.2.2 := by
  by_cases e : k + 1 < cs.length
  · rw [mend_at e]; exact ⟨rfl, rfl, rfl⟩
  · have : k = cs.length - 1 := by omega
    subst this
    rw [mend_last (by omega)]
    exact ⟨rfl, rfl, rfl⟩
theorem lmG_mem {cs : List Lm} {l : Lm} (h : l ∈ cs) : ∃ k, k < cs.length ∧ lmG cs k = l := by
  obtain ⟨k, hk⟩ := List.getElem?_of_mem h
  have hkl := (List.getElem?_eq_some_iff.mp hk).1
  exact ⟨k, hkl, by rw [lmG_get hkl] at hk; exact Option.some.inj hk⟩
theorem mem_lmG {cs : List Lm} {k : Nat} (h : k < cs.length) : lmG cs k ∈ cs := List.mem_of_getElem? (lmG_get h)
theorem mend_ring {n : Nat} {cs : List Lm} {c : Int} (R : Ring n cs) : Ring n (mend cs c) := by
  have m1 := R.m1
  have el := mend_len (c := c) m1
  refine ⟨by rw [el]; exact m1, by rw [el]; exact R.mn, fun l hl => ?_, fun l hl => ?_, ?_, fun k hk => ?_⟩
  · obtain ⟨k, hk, rfl⟩ := lmG_mem hl
    rw [el] at hk
    rw [(mend_all hk).1, (mend_all hk).2.1]
    exact R.rg _ (mem_lmG hk)
  · obtain ⟨k, hk, rfl⟩ := lmG_mem hl
    rw [el] at hk
    rw [(mend_all hk).2.2]
    exact R.w01 _ (mem_lmG hk)
  · have e : (mend cs c).map (·.1) = cs.map (·.1) := by
      apply List.ext_getElem?
      intro k
      by_cases hk : k < cs.length
      · rw [List.getElem?_map, List.getElem?_map, lmG_get hk, lmG_get (by rw [el]; exact hk)]
        show some (lmG (mend cs c) k).1 = some (lmG cs k).1
        rw [(mend_all hk).1]
      · rw [List.getElem?_eq_none (by rw [List.length_map, el]; omega), List.getElem?_eq_none (by rw [List.length_map]; omega)]
    rw [e]
    exact R.nd
  · rw [el] at hk ⊢
    rw [(mend_all hk).2.1, (mend_all (Nat.mod_lt _ (by omega))).1]
    exact R.lk k hk
theorem nst_congr {g h : Nat → Lm} : ∀ {m : Nat}, (∀ k, k < m → (g k).2.2.2 = (h k).2.2.2) → nst g m = nst h m
  | 0, _ => rfl
  | m + 1, e => by
    show nst g m + (1 - (g m).2.2.2) = nst h m + (1 - (h m).2.2.2)
    rw [nst_congr fun k hk => e k (by omega), e m (by omega)]
theorem nst_le {g : Nat → Lm} : ∀ {m : Nat}, (∀ k, k < m → (g k).2.2.2 = 0 ∨ (g k).2.2.2 = 1) → 0 ≤ nst g m ∧ nst g m ≤ m
  | 0, _ => ⟨Int.le_refl _, Int.le_refl _⟩
  | m + 1, e => by
    have ih := nst_le (g := g) (m := m) fun k hk => e k (by omega)
    show 0 ≤ nst g m + (1 - (g m).2.2.2) ∧ nst g m + (1 - (g m).2.2.2) ≤ ((m + 1 : Nat) : Int)
    rcases e m (by omega) with h | h <;> omega
theorem nst_zero {g : Nat → Lm} : ∀ {m : Nat}, (∀ k, k < m → (g k).2.2.2 = 1) → nst g m = 0
  | 0, _ => rfl
  | m + 1, e => by
    show nst g m + (1 - (g m).2.2.2) = 0
    rw [nst_zero fun k hk => e k (by omega), e m (by omega)]
    rfl
theorem mended_good {n : Nat} {cs : List Lm} {w : Int} (R : Ring n cs) (h1 : w ∈ cs.map (·.2.2.2)) (h2 : ∀ y, y ∈ cs.map (·.2.2.2) → w ≤ y) : ∃ P, Feas n (mend cs ((lmG cs (cs.length - 1)).2.2.1 - sumC (lmG cs) cs.length + 1 - w)) P := by
  have m1 := R.m1
  refine ring_good (mend_ring R) ?_
  rw [mend_len m1, nst_congr (h := lmG cs) fun k hk => (mend_all hk).2.2]
  have es : sumC (lmG (mend cs ((lmG cs (cs.length - 1)).2.2.1 - sumC (lmG cs) cs.length + 1 - w))) cs.length = 1 - w := by
    obtain ⟨m, hm⟩ : ∃ m, cs.length = m + 1 := ⟨cs.length - 1, by omega⟩
    have a1 : ∀ g : Nat → Lm, sumC g cs.length = sumC g m + (g m).2.2.1 := fun g => by rw [hm]; rfl
    have e3 : m = cs.length - 1 := by omega
    rw [a1, sumC_congr (h := lmG cs) fun k hk => mend_at (by omega), e3, mend_last m1, ← e3]
    have := a1 (lmG cs)
    show sumC (lmG cs) m + ((lmG cs m).2.2.1 - sumC (lmG cs) cs.length + 1 - w) = 1 - w
    omega
  rw [es]
  obtain ⟨l, hl, rfl⟩ := List.mem_map.mp h1
  have wl := R.w01 l hl
  have b := nst_le (g := lmG cs) (m := cs.length) fun k hk => R.w01 _ (mem_lmG hk)
  rcases wl with e | e
  · rw [e]
    rw [Int.sub_zero, Int.one_mul]
    exact b.2
  · rw [e, Int.sub_self, Int.zero_mul]
    have := nst_zero (g := lmG cs) (m := cs.length) fun k hk => by
      have a := h2 _ (List.mem_map_of_mem (f := (·.2.2.2)) (mem_lmG hk))
      rw [e] at a
      rcases R.w01 _ (mem_lmG hk) with z | z
      · omega
      · exact z
    omega
theorem sum_sumC : ∀ {m : Nat} {cs : List Lm}, m ≤ cs.length → ((cs.take m).map (·.2.2.1)).sum = sumC (lmG cs) m
  | 0, _, _ => rfl
  | m + 1, cs, h => by
    rw [List.take_add_one, lmG_get (by omega), List.map_append, List.sum_append, sum_sumC (by omega)]
    show sumC (lmG cs) m + ((lmG cs m).2.2.1 + 0) = sumC (lmG cs) m + (lmG cs m).2.2.1
    rw [Int.add_zero]
theorem cut_last {xs : List PyData} (h : 1 ≤ xs.length) : cutD xs none (some ((xs.length : Int) - 1)) = xs.dropLast := by
  unfold cutD
  have e1 : HT.sIx xs.length 0 none = 0 := rfl
  have e2 : HT.sIx xs.length xs.length (some ((xs.length : Int) - 1)) = xs.length - 1 := by
    have := HT.sIx_nat xs.length xs.length (xs.length - 1)
    rw [show ((xs.length - 1 : Nat) : Int) = (xs.length : Int) - 1 by omega] at this
    rw [this]
    omega
  rw [e1, e2, List.drop_zero, List.dropLast_eq_take]
  rfl
theorem lmsD_dropLast {cs : List Lm} : (lmsD cs).dropLast = lmsD cs.dropLast := by rw [lmsD, lmsD, List.map_dropLast]
theorem lmsD_app {a b : List Lm} : lmsD a ++ lmsD b = lmsD (a ++ b) := by rw [lmsD, lmsD, lmsD, List.map_append]
end K00
namespace K00
open PySem
open Dw
theorem lmG_app {cs : List Lm} {l : Lm} {j : Nat} (h : j < cs.length) : lmG (cs ++ [l]) j = lmG cs j := by
  unfold lmG
  rw [List.getD, List.getElem?_append_left h]
  rfl
theorem lmG_new {cs : List Lm} {l : Lm} : lmG (cs ++ [l]) cs.length = l := by
  unfold lmG
  rw [List.getD, List.getElem?_append_right (Nat.le_refl _), Nat.sub_self]
  rfl
theorem sumC_app {cs : List Lm} {l : Lm} : sumC (lmG (cs ++ [l])) (cs.length + 1) = sumC (lmG cs) cs.length + l.2.2.1 := by
  show sumC (lmG (cs ++ [l])) cs.length + (lmG (cs ++ [l]) cs.length).2.2.1 = _
  rw [lmG_new, sumC_congr fun k hk => lmG_app hk]
theorem prdW_app {cs : List Lm} {l : Lm} : prdW (lmG (cs ++ [l])) (cs.length + 1) = prdW (lmG cs) cs.length * l.2.2.2 := by
  show prdW (lmG (cs ++ [l])) cs.length * (lmG (cs ++ [l]) cs.length).2.2.2 = _
  rw [lmG_new, prdW_congr fun k hk => lmG_app hk]
theorem W01_app {cs : List Lm} {l : Lm} (h : W01 cs) (hl : l.2.2.2 = 0 ∨ l.2.2.2 = 1) : W01 (cs ++ [l]) := fun x hx => by
  rcases List.mem_append.mp hx with hx | hx
  · exact h x hx
  · rw [List.mem_singleton.mp hx]; exact hl
theorem Rg_app {n : Nat} {cs : List Lm} {l : Lm} (h : Rg n cs) (h1 : l.1 < n) (h2 : l.2.1 < n) : Rg n (cs ++ [l]) := fun x hx => by
  rcases List.mem_append.mp hx with hx | hx
  · exact h x hx
  · rw [List.mem_singleton.mp hx]; exact ⟨h1, h2⟩
theorem lmsD_snoc {a : List Lm} {l : Lm} : lmsD a ++ [lmD l] = lmsD (a ++ [l]) := by rw [lmsD, lmsD, List.map_append]; rfl
/-- a way through os -/
structure Way (os : List Nat) (cs : List Lm) : Prop where
  w : W01 cs
  f : ∀ j, j < cs.length → (lmG cs j).1 = os.getD j 0
  t : ∀ j, j < cs.length → (lmG cs j).2.1 = os.getD (j + 1) 0
theorem way_nil {os : List Nat} : Way os [] := ⟨(fun _ h => nomatch h), (fun _ h => absurd h (Nat.not_lt_zero _)), (fun _ h => absurd h (Nat.not_lt_zero _))⟩
theorem way_step {os : List Nat} {cs : List Lm} {c w : Int} (h : Way os cs) (hw : w = 0 ∨ w = 1) : Way os (cs ++ [(os.getD cs.length 0, os.getD (cs.length + 1) 0, c, w)]) := by
  refine ⟨W01_app h.w hw, fun j hj => ?_, fun j hj => ?_⟩
  · by_cases e : j < cs.length
    · rw [lmG_app e, h.f j e]
    · have : j = cs.length := by rw [List.length_append, List.length_singleton] at hj; omega
      subst this
      rw [lmG_new]
  · by_cases e : j < cs.length
    · rw [lmG_app e, h.t j e]
    · have : j = cs.length := by rw [List.length_append, List.length_singleton] at hj; omega
      subst this
      rw [lmG_new]
theorem way_ring {n : Nat} {os : List Nat} {cs : List Lm} {c w : Int} (h : Way os cs) (hl : os.length = cs.length + 1) (hn : os.length ≤ n) (hr : ∀ v ∈ os, v < n) (nd : os.Nodup) (hw : w = 0 ∨ w = 1) :
    Ring n (cs ++ [(os.getD cs.length 0, os.getD 0 0, c, w)]) := by
  have mem : ∀ j, j < os.length → os.getD j 0 ∈ os := fun j hj => by
    rw [List.getD, List.getElem?_eq_getElem hj]
    exact List.getElem_mem _
  have le : (cs ++ [((os.getD cs.length 0, os.getD 0 0, c, w) : Lm)]).length = cs.length + 1 := by rw [List.length_append, List.length_singleton]
  have ef : ∀ j, j < cs.length + 1 → (lmG (cs ++ [((os.getD cs.length 0, os.getD 0 0, c, w) : Lm)]) j).1 = os.getD j 0 := fun j hj => by
    by_cases e : j < cs.length
    · rw [lmG_app e, h.f j e]
    · have : j = cs.length := by omega
      subst this
      rw [lmG_new]
  refine ⟨by rw [le]; omega, by rw [le]; omega, ?_, W01_app h.w hw, ?_, fun k hk => ?_⟩
  · refine Rg_app (fun l hx => ?_) (hr _ (mem _ (by omega))) (hr _ (mem _ (by omega)))
    obtain ⟨j, hj, rfl⟩ := lmG_mem hx
    rw [h.f j hj, h.t j hj]
    exact ⟨hr _ (mem _ (by omega)), hr _ (mem _ (by omega))⟩
  · have e : (cs ++ [((os.getD cs.length 0, os.getD 0 0, c, w) : Lm)]).map (·.1) = os := by
      apply List.ext_getElem?
      intro j
      by_cases hj : j < cs.length + 1
      · rw [List.getElem?_map, lmG_get (by rw [le]; exact hj), List.getElem?_eq_getElem (by omega)]
        show some (lmG (cs ++ [((os.getD cs.length 0, os.getD 0 0, c, w) : Lm)]) j).1 = _
        rw [ef j hj, List.getD, List.getElem?_eq_getElem (by omega)]
        rfl
      · rw [List.getElem?_eq_none (by rw [List.length_map, le]; omega), List.getElem?_eq_none (by omega)]
    rw [e]
    exact nd
  · rw [le] at hk ⊢
    rw [ef _ (Nat.mod_lt _ (by omega))]
    by_cases e : k < cs.length
    · rw [lmG_app e, h.t k e, Nat.mod_eq_of_lt (by omega)]
    · have : k = cs.length := by omega
      subst this
      rw [lmG_new, Nat.mod_self]
theorem bad_aim {cs : List Lm} {l : Lm} {aim : Int} (h : sumC (lmG cs) cs.length + l.2.2.1 = aim) (ha : aim < 0 ∨ aim = 0 ∧ l.2.2.2 = 0) : BadR (cs ++ [l]) := by
  unfold BadR
  rw [List.length_append, List.length_singleton, sumC_app, prdW_app, h]
  rcases ha with ha | ⟨h1, h2⟩
  · exact .inl ha
  · exact .inr ⟨h1, by rw [h2, Int.mul_zero]⟩
theorem cut_take {o : List Nat} {m : Nat} (h : m ≤ o.length) : cutD (inN o) none (some (m : Int)) = inN (o.take m) := by
  unfold cutD
  have e1 : HT.sIx (inN o).length 0 none = 0 := rfl
  rw [e1, HT.sIx_nat, inN_len, Nat.min_eq_left h, List.drop_zero, inN, inN, List.map_take]
  rfl
end K00

namespace K00
open PySem
open Dw
/-- row k of the stairs -/
def stair (n : Nat) (o : List Nat) (f : List Int) (k : Nat) : Lm := (o.getD k 0, o.getD ((k + 1) % n) 0, f.getD (o.getD k 0) 0 - f.getD (o.getD ((k + 1) % n) 0) 0 + (if k + 1 = n then 1 else 0), 0)
def stairs (n : Nat) (o : List Nat) (f : List Int) : List Lm := (List.range n).map (stair n o f)
theorem stairs_D {n : Nat} {o : List Nat} {f : List Int} : ((List.range n).map fun k => lmD (stair n o f k)) = lmsD (stairs n o f) := by rw [lmsD, stairs, List.map_map]; rfl
theorem stairs_good {n : Nat} {o : List Nat} {f : List Int} (n1 : 1 ≤ n) (ho : o.Perm (List.range n)) : Rg n (stairs n o f) ∧ W01 (stairs n o f) ∧ (stairs n o f).length = n ∧ ∃ P, Feas n (stairs n o f) P := by
  have hl : o.length = n := by have := ho.length_eq; rw [List.length_range] at this; exact this
  have hr : ∀ k, k < n → o.getD k 0 < n := fun k hk => by
    have m : o.getD k 0 ∈ o := by
      rw [List.getD, List.getElem?_eq_getElem (by omega)]
      exact List.getElem_mem _
    exact List.mem_range.mp (ho.mem_iff.mp m)
  have nd : o.Nodup := ho.nodup_iff.mpr List.nodup_range
  have rg : Rg n (stairs n o f) := fun l hl => by
    obtain ⟨k, hk, rfl⟩ := List.mem_map.mp hl
    have hk := List.mem_range.mp hk
    exact ⟨hr k hk, hr _ (Nat.mod_lt _ (by omega))⟩
  have w01 : W01 (stairs n o f) := fun l hl => by
    obtain ⟨k, hk, rfl⟩ := List.mem_map.mp hl
    exact .inl rfl
  refine ⟨rg, w01, by rw [stairs, List.length_map, List.length_range], _, pot_feas (u := n) (x := fun v => f.getD v 0 * n + o.idxOf v) (by omega) rg w01 fun l hl => ?_⟩
  obtain ⟨k, hk, rfl⟩ := List.mem_map.mp hl
  have hk := List.mem_range.mp hk
  have ix : ∀ j, j < n → o.idxOf (o.getD j 0) = j := fun j hj => by
    rw [List.getD, List.getElem?_eq_getElem (by omega)]
    exact nd.idxOf_getElem j (by omega)
  have hm : (k + 1) % n < n := Nat.mod_lt _ (by omega)
  show f.getD (o.getD k 0) 0 * (n : Int) + (o.idxOf (o.getD k 0) : Nat) - (f.getD (o.getD ((k + 1) % n) 0) 0 * (n : Int) + (o.idxOf (o.getD ((k + 1) % n) 0) : Nat)) ≤ (f.getD (o.getD k 0) 0 - f.getD (o.getD ((k + 1) % n) 0) 0 + (if k + 1 = n then 1 else 0)) * (n : Int) - (1 - 0)
  rw [ix k hk, ix _ hm, Int.add_mul, Int.sub_mul]
  by_cases e : k + 1 = n
  · rw [if_pos e, e, Nat.mod_self, Int.one_mul]
    omega
  · rw [if_neg e, Nat.mod_eq_of_lt (by omega), Int.zero_mul]
    omega
end K00
namespace Dw
open PySem
open _root_.L2
theorem go_frz {K : PySem.W.Frag} {b : B} {s : S} {t : TS} {N : EE} (k : Nat) {xs : List PyData} (hk : s.os[k]? = some (.lst xs)) (h : GO K b t (s.frz k xs) N) : GO K b t s N := fun D σ H tv ta Hd ps R kk => by
  obtain ⟨Hd', _, R', _⟩ := R.frz hk
  exact h D σ H tv ta Hd' ps R' kk
end Dw
namespace K00
open PySem
theorem inL_snoc {a : List Int} {x : Int} : inL a ++ [.int x] = inL (a ++ [x]) := by rw [inL, inL, List.map_append]; rfl
end K00
namespace K00
open PySem
open Dw
def ins {α : Type} (xs : List α) (i : Nat) (z : α) : List α := xs.take i ++ [z] ++ xs.drop i
theorem ins_len {α : Type} {xs : List α} {i : Nat} {z : α} (h : i ≤ xs.length) : (ins xs i z).length = xs.length + 1 := by
  rw [ins, List.length_append, List.length_append, List.length_take, List.length_singleton, List.length_drop]
  omega
theorem ins_lt {α : Type} {xs : List α} {i q : Nat} {z : α} (h : i ≤ xs.length) (hq : q < i) : (ins xs i z)[q]? = xs[q]? := by
  rw [ins, List.append_assoc, List.getElem?_append_left (by rw [List.length_take]; omega), List.getElem?_take, if_pos hq]
theorem ins_at {α : Type} {xs : List α} {i : Nat} {z : α} (h : i ≤ xs.length) : (ins xs i z)[i]? = some z := by
  rw [ins, List.append_assoc, List.getElem?_append_right (by rw [List.length_take]; omega), List.length_take, Nat.min_eq_left h, Nat.sub_self]
  rfl
theorem rwsD_ins {xs : List Rw} {i : Int} {z : Rw} : (rwsD xs).take i.toNat ++ [rwD z] ++ (rwsD xs).drop i.toNat = rwsD (ins xs i.toNat z) := by
  rw [ins, rwsD, rwsD, List.map_append, List.map_append, List.map_take, List.map_drop]
  rfl
theorem shp_rws {xs : List Rw} : Shp 2 (.list (rwsD xs)) := shp_list fun x hx => by
  obtain ⟨l, _, rfl⟩ := List.mem_map.mp hx
  exact shp_tup fun y hy => by
    simp only [List.mem_cons, List.not_mem_nil, or_false] at hy
    rcases hy with rfl | rfl | rfl | rfl <;> exact shp_int
end K00
namespace Dw
open PySem
open _root_.L2
theorem vc_lenO {K : PySem.W.Frag} {b : B} {s : S} {Φ : A → S → Prop} {n : Nat} {ds : List PyData} (h : s.os[n]? = some (.lst ds)) (q : Φ (.d (.int ds.length)) s) : VC K b (fun xs H Q => ∃ x n, xs = [x] ∧ LenV K x H n ∧ Q (.int n) H) [.o n] s Φ := vc_lenV (x := .o n) ⟨ds, h, rfl⟩ q
end Dw
namespace Dw
open PySem
open _root_.L2
theorem go_tryC {K : PySem.W.Frag} {b : B} {s : S} {N : EE} {f : Spc} {t : TA} {ts : Addr → Value → Option Addr → TS} {c : Value} {i : Nat} {Wout : WX} (XP : Xv → S → Prop)
    (hb : ∀ b' (W : WX), (∀ x d σ H s tv ta Hd ps, XP x s → Rp K b' s σ H tv ta Hd ps → XvR K Hd d x.fs → W x.cls d σ H) → GO K b' (tDrop (tCallS (SpB K f) (WE W) t)) s N)
    (hs : ∀ x s1, XP x s1 → PySem.W.exmOne K x.cls c = some true ∧ ∀ a d, GO K b (ts a x.cls d) (s1.set i (exX K a d x.fs)) ⟨fun s2 => N.nx (s2.wp [i]), N.rt, fun s2 => N.bk (s2.wp [i]), fun s2 => N.ct (s2.wp [i])⟩) :
    GO K b (fun D σ H => (tDrop (tCallS (SpB K f) (WE (wAs K c i ts Wout D)) t)) D σ H) s N := go_try (tb := fun W => tDrop (tCallS (SpB K f) (WE W) t)) XP hb hs
end Dw
namespace Dw
open PySem
open _root_.L2
theorem valsR : ∀ {as : List Addr} {us : List Value}, Vals (as.map V.ref) us → us = as.map Value.ref
  | [], _, h => by cases h; rfl
  | a :: as, _, h => by
    cases h with
    | cons h t =>
      rw [show _ = Value.ref a from h, valsR t]
      rfl
theorem kitF {K : PySem.W.Frag} {t : Value} : ∀ {as : List Addr}, (∀ a ∈ as, PySem.W.kitOne K t (.ref a) = some false) → PySem.W.kitAny K t (as.map Value.ref) = some false
  | [], _ => rfl
  | a :: as, h => by
    show (match PySem.W.kitOne K t (.ref a) with | some true => some true | some false => PySem.W.kitAny K t (as.map Value.ref) | none => none) = some false
    rw [h a List.mem_cons_self]
    exact kitF fun x hx => h x (List.mem_cons_of_mem _ hx)
theorem ev_isYTf {K : PySem.W.Frag} {b : B} {s : S} {Φ : A → S → Prop} {i : Nat} {D a : Addr} {d : Option Addr} {fs : Option (List (Str × PyData))} {as : List Addr} (hi : s.ss[i]? = some (some (exX K a d fs))) (hl : as.length ≤ 1000)
    (hk : ∀ c ∈ as, PySem.W.kitOne K (.ref D) (.ref c) = some false) (q : Φ (.d (.bool false)) s) : EV K b (tCB (rIsYT K D a d) (tCons (tVar i) (tCons (tTup (tCls (as.map V.ref))) tNil))) s Φ :=
  ev_isYT hi (fun us h => valsR h) (by rw [List.length_map]; exact hl) (kitF hk) q
theorem ev_isYT2 {K : PySem.W.Frag} {b : B} {s : S} {Φ : A → S → Prop} {i : Nat} {D a c1 c2 : Addr} {d : Option Addr} {fs : Option (List (Str × PyData))} (hi : s.ss[i]? = some (some (exX K a d fs)))
    (h1 : PySem.W.kitOne K (.ref D) (.ref c1) = some false) (h2 : PySem.W.kitOne K (.ref D) (.ref c2) = some false) (q : Φ (.d (.bool false)) s) : EV K b (tCB (rIsYT K D a d) (tCons (tVar i) (tCons (tTup (tCons (tC (.ref c1)) (tCons (tC (.ref c2)) tNil))) tNil))) s Φ :=
  ev_isYTf (as := [c1, c2]) hi (show 2 ≤ 1000 by decide) (fun c hc => by
    simp only [List.mem_cons, List.not_mem_nil, or_false] at hc
    rcases hc with rfl | rfl
    · exact h1
    · exact h2) q
end Dw
namespace K00
open PySem
open Dw
theorem perm_map : ∀ {xs : List PyData} {ys : List Lm}, xs.Perm (lmsD ys) → ∃ ms : List Lm, xs = lmsD ms ∧ ms.Perm ys := fun {xs ys} h => by
  obtain ⟨ms, h1, h2⟩ : ∃ ms : List Lm, ms.Perm ys ∧ ms.map lmD = xs := by
    have : ∀ {as bs : List PyData}, as.Perm bs → ∀ ys : List Lm, bs = ys.map lmD → ∃ ms : List Lm, ms.Perm ys ∧ ms.map lmD = as := fun {as bs} hp => by
      induction hp with
      | nil => intro ys e; exact ⟨ys, .refl _, e.symm⟩
      | cons x _ ih =>
        intro ys e
        match ys, e with
        | y :: ys, e =>
          injection e with e1 e2
          obtain ⟨ms, h1, h2⟩ := ih ys e2
          exact ⟨y :: ms, h1.cons y, by rw [List.map_cons, h2, e1]⟩
      | swap x y l =>
        intro ys e
        match ys, e with
        | a :: b :: ys, e =>
          injection e with e1 e2
          injection e2 with e2 e3
          exact ⟨b :: a :: ys, .swap a b ys, by rw [List.map_cons, List.map_cons, e1, e2, e3]⟩
      | trans _ _ i1 i2 =>
        intro ys e
        obtain ⟨m1, h1, h2⟩ := i2 ys e
        obtain ⟨m2, h3, h4⟩ := i1 m1 h2.symm
        exact ⟨m2, h3.trans h1, h4⟩
    exact this h ys rfl
  exact ⟨ms, h2.symm, h1⟩
end K00

/-! ways along limits and their weights -/
namespace K00
abbrev Bd := Int × Int
def wle (a b : Bd) : Prop := a.1 < b.1 ∨ a.1 = b.1 ∧ a.2 ≤ b.2
def wpl (a : Bd) (l : Lm) : Bd := (a.1 + l.2.2.1, a.2 * l.2.2.2)
def wC : List Lm → Int
  | [] => 0
  | l :: es => l.2.2.1 + wC es
def wW : List Lm → Int
  | [] => 1
  | l :: es => l.2.2.2 * wW es
def wS : List Lm → Int
  | [] => 0
  | l :: es => (1 - l.2.2.2) + wS es
def Wk (ls : List Lm) : Nat → List Lm → Nat → Prop
  | a, [], b => a = b
  | a, l :: es, b => l.1 = a ∧ l ∈ ls ∧ Wk ls l.2.1 es b
def wt (es : List Lm) : Bd := (wC es, wW es)
theorem wle_refl (a : Bd) : wle a a := .inr ⟨rfl, Int.le_refl _⟩
theorem wle_trans {a b c : Bd} (h : wle a b) (k : wle b c) : wle a c := by
  unfold wle at *
  omega
theorem wle_total (a b : Bd) : wle a b ∨ wle b a := by
  unfold wle
  omega
theorem wle_anti {a b : Bd} (h : wle a b) (k : wle b a) : a = b := by
  obtain ⟨a1, a2⟩ := a
  obtain ⟨b1, b2⟩ := b
  unfold wle at *
  simp only at *
  have : a1 = b1 ∧ a2 = b2 := by omega
  rw [this.1, this.2]
theorem mul_mono {a b w : Int} (hw : w = 0 ∨ w = 1) (h : a ≤ b) : a * w ≤ b * w := by
  rcases hw with rfl | rfl
  · rw [Int.mul_zero, Int.mul_zero]; exact Int.le_refl _
  · rw [Int.mul_one, Int.mul_one]; exact h
theorem wpl_mono {a b : Bd} {l : Lm} (hw : l.2.2.2 = 0 ∨ l.2.2.2 = 1) (h : wle a b) : wle (wpl a l) (wpl b l) := by
  unfold wle wpl at *
  simp only
  have := @mul_mono a.2 b.2 _ hw
  omega
section
variable {ls : List Lm} {n : Nat}
theorem Wk.app : ∀ {es fs : List Lm} {a b c : Nat}, Wk ls a es b → Wk ls b fs c → Wk ls a (es ++ fs) c
  | [], fs, a, b, c, h, k => by cases (show a = b from h); exact k
  | l :: es, fs, a, b, c, ⟨h1, h2, h3⟩, k => ⟨h1, h2, Wk.app h3 k⟩
theorem Wk.snoc {es : List Lm} {a : Nat} {l : Lm} (h : Wk ls a es l.1) (hl : l ∈ ls) : Wk ls a (es ++ [l]) l.2.1 := h.app ⟨rfl, hl, rfl⟩
theorem Wk.un : ∀ {es : List Lm} {a b : Nat} {l : Lm}, Wk ls a (es ++ [l]) b → Wk ls a es l.1 ∧ l ∈ ls ∧ l.2.1 = b
  | [], a, b, l, ⟨h1, h2, h3⟩ => ⟨h1.symm, h2, h3⟩
  | e :: es, a, b, l, ⟨h1, h2, h3⟩ => by
    obtain ⟨q1, q2, q3⟩ := Wk.un h3
    exact ⟨⟨h1, h2, q1⟩, q2, q3⟩
theorem Wk.mem : ∀ {es : List Lm} {a b : Nat}, Wk ls a es b → ∀ l ∈ es, l ∈ ls
  | [], _, _, _, l, hl => nomatch hl
  | e :: es, a, b, ⟨_, h2, h3⟩, l, hl => by
    rcases List.mem_cons.mp hl with rfl | hl
    · exact h2
    · exact h3.mem l hl
theorem wC_app : ∀ {es fs : List Lm}, wC (es ++ fs) = wC es + wC fs
  | [], fs => (Int.zero_add _).symm
  | l :: es, fs => by show l.2.2.1 + wC (es ++ fs) = l.2.2.1 + wC es + wC fs; rw [wC_app]; omega
theorem wS_app : ∀ {es fs : List Lm}, wS (es ++ fs) = wS es + wS fs
  | [], fs => (Int.zero_add _).symm
  | l :: es, fs => by show (1 - l.2.2.2) + wS (es ++ fs) = (1 - l.2.2.2) + wS es + wS fs; rw [wS_app]; omega
theorem wW_app : ∀ {es fs : List Lm}, wW (es ++ fs) = wW es * wW fs
  | [], fs => (Int.one_mul _).symm
  | l :: es, fs => by show l.2.2.2 * wW (es ++ fs) = l.2.2.2 * wW es * wW fs; rw [wW_app, Int.mul_assoc]
theorem wt_snoc {es : List Lm} {l : Lm} : wt (es ++ [l]) = wpl (wt es) l := by
  unfold wt wpl
  rw [wC_app, wW_app]
  show (wC es + (l.2.2.1 + 0), wW es * (l.2.2.2 * 1)) = _
  rw [Int.add_zero, Int.mul_one]
theorem wSW : ∀ {es : List Lm}, (∀ l ∈ es, l.2.2.2 = 0 ∨ l.2.2.2 = 1) → 0 ≤ wS es ∧ wS es ≤ es.length ∧ ((wS es = 0 ∧ wW es = 1) ∨ (1 ≤ wS es ∧ wW es = 0))
  | [], _ => ⟨Int.le_refl _, Int.le_refl _, .inl ⟨rfl, rfl⟩⟩
  | l :: es, h => by
    obtain ⟨h1, h2, h3⟩ := wSW fun x hx => h x (List.mem_cons_of_mem _ hx)
    have hl := h l List.mem_cons_self
    show 0 ≤ (1 - l.2.2.2) + wS es ∧ (1 - l.2.2.2) + wS es ≤ ((es.length + 1 : Nat) : Int) ∧ (((1 - l.2.2.2) + wS es = 0 ∧ l.2.2.2 * wW es = 1) ∨ (1 ≤ (1 - l.2.2.2) + wS es ∧ l.2.2.2 * wW es = 0))
    rcases hl with e | e
    · rw [e, Int.zero_mul]
      omega
    · rw [e, Int.one_mul]
      omega
/-- a potential along a way -/
theorem feas_way {P : Nat → Int} (h : Feas n ls P) : ∀ {es : List Lm} {a b : Nat}, Wk ls a es b → P a ≤ P b + (wC es * n - wS es)
  | [], a, b, e => by cases (show a = b from e); show P a ≤ P a + (0 * (n : Int) - 0); omega
  | l :: es, a, b, ⟨h1, h2, h3⟩ => by
    have q := feas_way h h3
    have r := h l h2
    rw [h1] at r
    show P a ≤ P b + ((l.2.2.1 + wC es) * n - ((1 - l.2.2.2) + wS es))
    rw [Int.add_mul]
    unfold cost at r
    omega
/-- no closed way is bad -/
theorem closed_ok {P : Nat → Int} (hn : 1 ≤ n) (h : Feas n ls P) (hw : W01 ls) {es : List Lm} {a : Nat} (w : Wk ls a es a) : 0 ≤ wC es * n - wS es ∧ wle (0, 1) (wt es) := by
  have q := feas_way h w
  obtain ⟨s1, s2, s3⟩ := wSW fun l hl => hw l (w.mem l hl)
  have c : 0 ≤ wC es * n - wS es := by omega
  refine ⟨c, ?_⟩
  have c0 : 0 ≤ wC es := by
    rcases Int.lt_or_le (wC es) 0 with l | l
    · have : wC es * n ≤ -1 * n := Int.mul_le_mul_of_nonneg_right (by omega) (by omega)
      omega
    · exact l
  show 0 < wC es ∨ 0 = wC es ∧ 1 ≤ wW es
  rcases s3 with ⟨_, e⟩ | ⟨g, _⟩
  · rw [e]
    omega
  · left
    rcases Int.lt_or_le 0 (wC es) with l | l
    · exact l
    · have : wC es = 0 := by omega
      rw [this, Int.zero_mul] at c
      omega
/-- the k-th corner of a way -/
def cor (a : Nat) (es : List Lm) : Nat → Nat
  | 0 => a
  | k + 1 => match es with
    | [] => a
    | l :: es => cor l.2.1 es k
theorem Wk.take : ∀ {k : Nat} {es : List Lm} {a b : Nat}, Wk ls a es b → k ≤ es.length → Wk ls a (es.take k) (cor a es k) ∧ Wk ls (cor a es k) (es.drop k) b
  | 0, es, a, b, h, _ => ⟨rfl, h⟩
  | k + 1, [], a, b, h, hk => absurd hk (by simp)
  | k + 1, l :: es, a, b, ⟨h1, h2, h3⟩, hk => by
    obtain ⟨q1, q2⟩ := Wk.take (k := k) h3 (by simpa using hk)
    exact ⟨⟨h1, h2, q1⟩, q2⟩
theorem Wk.cor_lt (hr : Rg n ls) : ∀ {k : Nat} {es : List Lm} {a b : Nat}, Wk ls a es b → a < n → cor a es k < n
  | 0, es, a, b, h, ha => ha
  | k + 1, [], a, b, h, ha => ha
  | k + 1, l :: es, a, b, ⟨h1, h2, h3⟩, ha => by
    show cor l.2.1 es k < n
    exact Wk.cor_lt hr h3 (hr l h2).2
theorem cor_drop : ∀ {i k : Nat} {es : List Lm} {a : Nat}, i + k ≤ es.length → cor (cor a es i) (es.drop i) k = cor a es (i + k)
  | 0, k, es, a, _ => by rw [Nat.zero_add]; rfl
  | i + 1, k, [], a, h => absurd h (by simp only [List.length_nil]; omega)
  | i + 1, k, l :: es, a, h => by
    rw [show i + 1 + k = (i + k) + 1 by omega]
    exact cor_drop (i := i) (k := k) (es := es) (by simp only [List.length_cons] at h; omega)
/-- a long way has a shorter one that is no heavier -/
theorem way_cut {P : Nat → Int} (hn : 1 ≤ n) (h : Feas n ls P) (hr : Rg n ls) (hw : W01 ls) : ∀ (m : Nat) {es : List Lm} {a b : Nat}, es.length ≤ m → a < n → Wk ls a es b → ∃ fs, Wk ls a fs b ∧ fs.length < n ∧ wle (wt fs) (wt es) ∧ wC fs * n - wS fs ≤ wC es * n - wS es := fun m => by
  induction m with
  | zero =>
    intro es a b hm ha w
    exact ⟨es, w, by omega, wle_refl _, Int.le_refl _⟩
  | succ m ih =>
    intro es a b hm ha w
    by_cases hl : es.length < n
    · exact ⟨es, w, hl, wle_refl _, Int.le_refl _⟩
    obtain ⟨i, j, hij, hj, e⟩ := pigeon n (cor a es) fun k _ => w.cor_lt hr ha
    obtain ⟨w1, w2⟩ := w.take (k := i) (by omega)
    obtain ⟨w3, w4⟩ := w2.take (k := j - i) (by rw [List.length_drop]; omega)
    rw [cor_drop (by omega), show i + (j - i) = j by omega, ← e] at w3 w4
    obtain ⟨c1, c2⟩ := closed_ok hn h hw w3
    have hlen : (es.take i ++ (es.drop i).drop (j - i)).length < es.length := by
      rw [List.length_append, List.length_take, List.length_drop, List.length_drop]
      omega
    obtain ⟨fs, f1, f2, f3, f4⟩ := ih (by omega) ha (w1.app w4)
    have es_eq : es = es.take i ++ ((es.drop i).take (j - i) ++ (es.drop i).drop (j - i)) := by
      rw [List.take_append_drop, List.take_append_drop]
    have m1 := fun l hl => hw l (w1.mem l hl)
    have m3 := fun l hl => hw l (w3.mem l hl)
    have m4 := fun l hl => hw l (w4.mem l hl)
    generalize es.take i = u at *
    generalize (es.drop i).take (j - i) = c at *
    generalize (es.drop i).drop (j - i) = v at *
    obtain ⟨a1, a2, a3⟩ := wSW m1
    obtain ⟨b1, b2, b3⟩ := wSW m3
    obtain ⟨d1, d2, d3⟩ := wSW m4
    refine ⟨fs, f1, f2, wle_trans f3 ?_, Int.le_trans f4 ?_⟩
    · rw [es_eq]
      show wC (u ++ v) < wC (u ++ (c ++ v)) ∨ wC (u ++ v) = wC (u ++ (c ++ v)) ∧ wW (u ++ v) ≤ wW (u ++ (c ++ v))
      have c2 : 0 < wC c ∨ 0 = wC c ∧ 1 ≤ wW c := c2
      rw [wC_app, wC_app, wC_app, wW_app, wW_app, wW_app]
      rcases c2 with c2 | ⟨c2, c3⟩
      · left; omega
      · right
        have : wW c = 1 := by omega
        rw [this, Int.one_mul]
        omega
    · rw [es_eq, wC_app, wC_app, wC_app, wS_app, wS_app, wS_app, Int.add_mul, Int.add_mul, Int.add_mul]
      omega
/-- the cheapest way -/
theorem way_min {P : Nat → Int} (h : Feas n ls P) {a v : Nat} (hx : ∃ es, Wk ls a es v) : ∃ es, Wk ls a es v ∧ ∀ fs, Wk ls a fs v → wC es * n - wS es ≤ wC fs * n - wS fs := by
  obtain ⟨es, h1, h2⟩ := min_ex (fun es => Wk ls a es v) (fun es => (wC es * n - wS es - (P a - P v)).toNat) hx
  refine ⟨es, h1, fun fs hf => ?_⟩
  have q1 := feas_way h h1
  have q2 := feas_way h hf
  have := h2 fs hf
  omega
/-- a potential with a limit more -/
theorem more_feas {Q : Nat → Int} (hn : 1 ≤ n) (h : Feas n ls Q) (hr : Rg n ls) (hw : W01 ls) {a b : Nat} (ha : a < n) (hb : b < n) {N : Int} (hN : ∀ es, Wk ls a es b → es.length < n → N ≤ wC es * n - wS es) : ∃ P, Feas n ls P ∧ P b + N ≤ P a := by
  classical
  let R : Nat → Prop := fun v => ∃ es, Wk ls a es v
  have dx : ∀ v, ∃ d : Int, (R v → ∃ es, Wk ls a es v ∧ d = wC es * n - wS es ∧ ∀ fs, Wk ls a fs v → d ≤ wC fs * n - wS fs) := fun v => by
    by_cases e : R v
    · obtain ⟨es, h1, h2⟩ := way_min h e
      exact ⟨_, fun _ => ⟨es, h1, rfl, h2⟩⟩
    · exact ⟨0, fun q => absurd q e⟩
  obtain ⟨d, hd⟩ : ∃ d : Nat → Int, ∀ v, (R v → ∃ es, Wk ls a es v ∧ d v = wC es * n - wS es ∧ ∀ fs, Wk ls a fs v → d v ≤ wC fs * n - wS fs) := ⟨fun v => (dx v).choose, fun v => (dx v).choose_spec⟩
  obtain ⟨M1, hM1⟩ := exists_bound Q n
  obtain ⟨M2, hM2⟩ := exists_bound d n
  obtain ⟨M3, hM3⟩ : ∃ M : Int, ∀ l, l ∈ ls → -cost n l ≤ M := by
    have : ∀ xs : List Lm, ∃ M : Int, ∀ l, l ∈ xs → -cost n l ≤ M := fun xs => by
      induction xs with
      | nil => exact ⟨0, fun _ h => nomatch h⟩
      | cons x xs ih =>
        obtain ⟨M, hM⟩ := ih
        refine ⟨max M (-cost n x), fun l hl => ?_⟩
        rcases List.mem_cons.mp hl with rfl | hl
        · omega
        · have := hM l hl
          omega
    exact this ls
  have step : ∀ l, l ∈ ls → R l.1 → R l.2.1 ∧ d l.2.1 ≤ d l.1 + cost n l := fun l hl hR => by
    obtain ⟨es, h1, h2, _⟩ := hd _ hR
    have w := h1.snoc hl
    obtain ⟨_, _, _, h3⟩ := hd l.2.1 ⟨_, w⟩
    have := h3 _ w
    rw [wC_app, wS_app, Int.add_mul] at this
    refine ⟨⟨_, w⟩, ?_⟩
    have e1 : wC [l] = l.2.2.1 := Int.add_zero _
    have e2 : wS [l] = 1 - l.2.2.2 := Int.add_zero _
    rw [e1, e2] at this
    unfold cost
    omega
  have d0 : d a ≤ 0 := by
    obtain ⟨_, _, _, h3⟩ := hd a ⟨[], rfl⟩
    have := h3 [] rfl
    have e : wC [] * (n : Int) - wS [] = 0 := by show 0 * (n : Int) - 0 = 0; omega
    omega
  have d1 : 0 ≤ d a := by
    obtain ⟨es, h1, h2, _⟩ := hd a ⟨[], rfl⟩
    have := (closed_ok hn h hw h1).1
    omega
  refine ⟨fun v => if R v then -d v else Q v - (M1 + M2 + M3.natAbs + N.natAbs), fun l hl => ?_, ?_⟩
  · have hl1 := hr l hl
    by_cases r1 : R l.1
    · obtain ⟨r2, r3⟩ := step l hl r1
      show (if R l.1 then _ else _) ≤ (if R l.2.1 then _ else _) + cost n l
      rw [if_pos r1, if_pos r2]
      omega
    · by_cases r2 : R l.2.1
      · show (if R l.1 then _ else _) ≤ (if R l.2.1 then _ else _) + cost n l
        rw [if_neg r1, if_pos r2]
        have a1 := hM1 _ hl1.1
        have a2 := hM2 _ hl1.2
        have a3 := hM3 l hl
        omega
      · show (if R l.1 then _ else _) ≤ (if R l.2.1 then _ else _) + cost n l
        rw [if_neg r1, if_neg r2]
        have := h l hl
        omega
  · have ra : R a := ⟨[], rfl⟩
    show (if R b then _ else _) + N ≤ (if R a then _ else _)
    rw [if_pos ra]
    by_cases rb : R b
    · rw [if_pos rb]
      obtain ⟨es, h1, h2, _⟩ := hd b rb
      obtain ⟨fs, f1, f2, f3, f4⟩ := way_cut hn h hr hw _ (Nat.le_refl _) ha h1
      have := hN fs f1 f2
      omega
    · rw [if_neg rb]
      have a1 := hM1 _ hb
      have a2 := hM2 _ ha
      have a4 : N ≤ N.natAbs := Int.le_natAbs
      omega
end
end K00

/-! least bounds -/
namespace K00
section
variable {ls : List Lm} {n a : Nat}
structure Dst (ls : List Lm) (a v : Nat) (d : Option Bd) : Prop where
  no : d = none → ∀ es, ¬ Wk ls a es v
  wy : ∀ p, d = some p → ∃ es, Wk ls a es v ∧ wt es = p
  le : ∀ p, d = some p → ∀ es, Wk ls a es v → wle p (wt es)
theorem Dst.uniq {v : Nat} {d e : Option Bd} (h : Dst ls a v d) (k : Dst ls a v e) : d = e := by
  cases d with
  | none => cases e with
    | none => rfl
    | some q =>
      obtain ⟨es, w, _⟩ := k.wy q rfl
      exact absurd w (h.no rfl es)
  | some p => cases e with
    | none =>
      obtain ⟨es, w, _⟩ := h.wy p rfl
      exact absurd w (k.no rfl es)
    | some q =>
      obtain ⟨es, w, e1⟩ := h.wy p rfl
      obtain ⟨fs, w2, e2⟩ := k.wy q rfl
      have h1 := h.le p rfl fs w2
      have h2 := k.le q rfl es w
      rw [e2] at h1
      rw [e1] at h2
      rw [wle_anti h1 h2]
theorem Wk.sub {ms : List Lm} (hs : ∀ l, l ∈ ls → l ∈ ms) : ∀ {es : List Lm} {a b : Nat}, Wk ls a es b → Wk ms a es b
  | [], _, _, h => h
  | _ :: _, _, _, ⟨h1, h2, h3⟩ => ⟨h1, hs _ h2, h3.sub hs⟩
theorem feas_app {P : Nat → Int} {l : Lm} (h : Feas n ls P) (hl : P l.1 ≤ P l.2.1 + cost n l) : Feas n (ls ++ [l]) P := fun x hx => by
  rcases List.mem_append.mp hx with hx | hx
  · exact h x hx
  · rw [List.mem_singleton.mp hx]; exact hl
theorem w01_app {l : Lm} (h : W01 ls) (hl : l.2.2.2 = 0 ∨ l.2.2.2 = 1) : W01 (ls ++ [l]) := fun x hx => by
  rcases List.mem_append.mp hx with hx | hx
  · exact h x hx
  · rw [List.mem_singleton.mp hx]; exact hl
/-- a bad end -/
theorem end_bad {b : Nat} {p : Bd} {c w : Int} (hn : 1 ≤ n) (hw : W01 ls) (h : ∃ es, Wk ls a es b ∧ wt es = p) (h1 : w = 0 ∨ w = 1) (h2 : p.1 + c = 0) (h3 : p.2 * w = 0) : ¬ ∃ P, Feas n (ls ++ [(b, a, c, w)]) P := fun ⟨P, hP⟩ => by
  obtain ⟨es, e1, e2⟩ := h
  have w1 : Wk (ls ++ [(b, a, c, w)]) a (es ++ [(b, a, c, w)]) a := (e1.sub fun l hl => List.mem_append_left _ hl).app ⟨rfl, List.mem_append_right _ (List.mem_singleton.mpr rfl), rfl⟩
  have q := (closed_ok hn hP (w01_app hw h1) w1).2
  rw [wt_snoc, e2] at q
  have q : 0 < p.1 + c ∨ 0 = p.1 + c ∧ 1 ≤ p.2 * w := q
  omega
/-- a good end -/
theorem end_good {b : Nat} {Q : Nat → Int} {N c w : Int} (hn : 1 ≤ n) (h : Feas n ls Q) (hr : Rg n ls) (hw : W01 ls) (ha : a < n) (hb : b < n) (hN : ∀ es, Wk ls a es b → es.length < n → N ≤ wC es * n - wS es) (hc : -N ≤ c * n - 1 + w) : ∃ P, Feas n (ls ++ [(b, a, c, w)]) P := by
  obtain ⟨P, h1, h2⟩ := more_feas hn h hr hw ha hb hN
  refine ⟨P, feas_app h1 ?_⟩
  show P b ≤ P a + (c * n - 1 + w)
  omega
theorem end0 {b : Nat} {Q : Nat → Int} {far : Int} (hn : 1 ≤ n) (h : Feas n ls Q) (hr : Rg n ls) (hw : W01 ls) (ha : a < n) (hb : b < n) (hd : Dst ls a b none) : ∃ P, Feas n (ls ++ [(b, a, -far, 1)]) P :=
  end_good (N := far * n) hn h hr hw ha hb (fun es w => absurd w (hd.no rfl es)) (by rw [Int.neg_mul]; omega)
theorem end1 {b : Nat} {Q : Nat → Int} {c : Int} (hn : 1 ≤ n) (h : Feas n ls Q) (hr : Rg n ls) (hw : W01 ls) (ha : a < n) (hb : b < n) (hd : Dst ls a b (some (c, 1))) : ∃ P, Feas n (ls ++ [(b, a, -c, 1)]) P := by
  refine end_good (N := c * n) hn h hr hw ha hb (fun es w hl => ?_) (by rw [Int.neg_mul]; omega)
  have q : c < wC es ∨ c = wC es ∧ 1 ≤ wW es := hd.le _ rfl es w
  obtain ⟨s1, s2, s3⟩ := wSW fun l hl => hw l (w.mem l hl)
  rcases q with q | ⟨q1, q2⟩
  · have : (c + 1) * n ≤ wC es * n := Int.mul_le_mul_of_nonneg_right (by omega) (by omega)
    rw [Int.add_mul] at this
    omega
  · rw [← q1]
    omega
theorem end1_bad {b : Nat} {c : Int} (hn : 1 ≤ n) (hw : W01 ls) (hd : Dst ls a b (some (c, 1))) : ¬ ∃ P, Feas n (ls ++ [(b, a, -c, 0)]) P :=
  end_bad hn hw (hd.wy _ rfl) (.inl rfl) (show c + -c = 0 by omega) (show (1 : Int) * 0 = 0 from rfl)
theorem end2_bad {b : Nat} {c : Int} (hn : 1 ≤ n) (hw : W01 ls) (hd : Dst ls a b (some (c, 0))) : ¬ ∃ P, Feas n (ls ++ [(b, a, -c, 1)]) P :=
  end_bad hn hw (hd.wy _ rfl) (.inr rfl) (show c + -c = 0 by omega) (show (0 : Int) * 1 = 0 from rfl)
def fin (k : Int) (l : Lm) : Lm := (l.1, l.2.1, l.2.2.1 * k, l.2.2.2)
theorem Wk.fin {k : Int} : ∀ {es : List Lm} {a b : Nat}, Wk (ls.map (fin k)) a es b → ∃ fs, Wk ls a fs b ∧ wC es = wC fs * k ∧ wW es = wW fs
  | [], a, b, h => ⟨[], h, (Int.zero_mul _).symm, rfl⟩
  | l :: es, a, b, ⟨h1, h2, h3⟩ => by
    obtain ⟨x, hx, rfl⟩ := List.mem_map.mp h2
    obtain ⟨fs, f1, f2, f3⟩ := Wk.fin h3
    refine ⟨x :: fs, ⟨h1, hx, f1⟩, ?_, ?_⟩
    · show x.2.2.1 * k + wC es = (x.2.2.1 + wC fs) * k
      rw [f2, Int.add_mul]
    · show x.2.2.2 * wW es = x.2.2.2 * wW fs
      rw [f3]
theorem fin_rg {k : Int} (hr : Rg n ls) : Rg n (ls.map (fin k)) := fun l hl => by
  obtain ⟨x, hx, rfl⟩ := List.mem_map.mp hl
  exact hr x hx
theorem fin_w01 {k : Int} (hw : W01 ls) : W01 (ls.map (fin k)) := fun l hl => by
  obtain ⟨x, hx, rfl⟩ := List.mem_map.mp hl
  exact hw x hx
theorem fin_feas {k : Int} {Q : Nat → Int} (hk : 1 ≤ k) (hw : W01 ls) (h : Feas n ls Q) : Feas n (ls.map (fin k)) fun v => k * Q v := fun l hl => by
  obtain ⟨x, hx, rfl⟩ := List.mem_map.mp hl
  have q := h x hx
  have hx := hw x hx
  show k * Q x.1 ≤ k * Q x.2.1 + (x.2.2.1 * k * n - 1 + x.2.2.2)
  have q2 : k * Q x.1 ≤ k * (Q x.2.1 + cost n x) := Int.mul_le_mul_of_nonneg_left q (by omega)
  unfold cost at q2
  rw [Int.mul_add, Int.mul_add, Int.mul_sub, Int.mul_one, show k * (x.2.2.1 * n) = x.2.2.1 * k * n by rw [← Int.mul_assoc, Int.mul_comm k]] at q2
  rcases hx with e | e
  · rw [e, Int.mul_zero] at q2
    omega
  · rw [e, Int.mul_one] at q2
    omega
theorem end2 {b : Nat} {Q : Nat → Int} {c k : Int} (hk : 1 ≤ k) (hn : 1 ≤ n) (h : Feas n ls Q) (hr : Rg n ls) (hw : W01 ls) (ha : a < n) (hb : b < n) (hd : Dst ls a b (some (c, 0))) : ∃ P, Feas n (ls.map (fin k) ++ [(b, a, 1 - c * k, 1)]) P := by
  refine end_good (N := (c * k - 1) * n) hn (fin_feas hk hw h) (fin_rg hr) (fin_w01 hw) ha hb (fun es w hl => ?_) (by rw [Int.sub_mul, Int.sub_mul]; omega)
  obtain ⟨fs, f1, f2, f3⟩ := w.fin
  have q : c < wC fs ∨ c = wC fs ∧ 0 ≤ wW fs := hd.le _ rfl fs f1
  obtain ⟨s1, s2, s3⟩ := wSW fun l hl => fin_w01 hw l (w.mem l hl)
  have q3 : c * k ≤ wC es := by
    rw [f2]
    exact Int.mul_le_mul_of_nonneg_right (by omega) (by omega)
  have : (c * k) * n ≤ wC es * n := Int.mul_le_mul_of_nonneg_right q3 (by omega)
  rw [Int.sub_mul, Int.one_mul]
  omega
/-! rounds -/
abbrev Gs := Nat → Option Bd
def wlt (a b : Bd) : Prop := a.1 < b.1 ∨ a.1 = b.1 ∧ a.2 < b.2
instance (a b : Bd) : Decidable (wlt a b) := by unfold wlt; exact inferInstance
def better (p : Bd) : Option Bd → Bool
  | none => true
  | some q => decide (wlt p q)
def bstp (g : Gs) (l : Lm) : Gs := match g l.1 with
  | none => g
  | some p => if better (wpl p l) (g l.2.1) then fun v => if v = l.2.1 then some (wpl p l) else g v else g
def ole (x y : Option Bd) : Prop := ∀ q, y = some q → ∃ p, x = some p ∧ wle p q
theorem ole_refl (x : Option Bd) : ole x x := fun q h => ⟨q, h, wle_refl _⟩
theorem ole_trans {x y z : Option Bd} (h : ole x y) (k : ole y z) : ole x z := fun q hq => by
  obtain ⟨p, e, l⟩ := k q hq
  obtain ⟨r, e2, l2⟩ := h p e
  exact ⟨r, e2, wle_trans l2 l⟩
theorem better_no {p : Bd} {o : Option Bd} (h : better p o = false) : ∃ q, o = some q ∧ wle q p := by
  cases o with
  | none => cases h
  | some q =>
    have h := of_decide_eq_false h
    refine ⟨q, rfl, ?_⟩
    unfold wlt at h
    unfold wle
    omega
theorem better_ole {p : Bd} {o : Option Bd} (h : better p o = true) : ole (some p) o := fun q hq => by
  subst hq
  have h := of_decide_eq_true h
  refine ⟨p, rfl, ?_⟩
  unfold wlt at h
  unfold wle
  omega
def put (g : Gs) (v : Nat) (p : Bd) : Gs := fun u => if u = v then some p else g u
theorem bstp_eq (g : Gs) (l : Lm) : (g l.1 = none ∧ bstp g l = g) ∨ (∃ p, g l.1 = some p ∧ better (wpl p l) (g l.2.1) = true ∧ bstp g l = put g l.2.1 (wpl p l)) ∨ ∃ p, g l.1 = some p ∧ better (wpl p l) (g l.2.1) = false ∧ bstp g l = g := by
  unfold bstp
  cases h : g l.1 with
  | none => exact .inl ⟨rfl, rfl⟩
  | some p =>
    dsimp only
    cases hb : better (wpl p l) (g l.2.1) with
    | true => exact .inr (.inl ⟨p, rfl, hb, rfl⟩)
    | false => exact .inr (.inr ⟨p, rfl, hb, rfl⟩)
theorem bstp_ole {g : Gs} {l : Lm} (v : Nat) : ole (bstp g l v) (g v) := by
  rcases bstp_eq g l with ⟨_, e⟩ | ⟨p, hp, hb, e⟩ | ⟨p, _, _, e⟩
  · rw [e]; exact ole_refl _
  · rw [e]
    unfold put
    split
    · rename_i e2
      rw [e2]
      exact better_ole hb
    · exact ole_refl _
  · rw [e]; exact ole_refl _
theorem bstp_hit {g : Gs} {l : Lm} {p : Bd} (h : g l.1 = some p) : ole (bstp g l l.2.1) (some (wpl p l)) := by
  rcases bstp_eq g l with ⟨e, _⟩ | ⟨q, hq, hb, e⟩ | ⟨q, hq, hb, e⟩
  · rw [h] at e; cases e
  · rw [h] at hq
    cases hq
    rw [e]
    unfold put
    rw [if_pos rfl]
    exact ole_refl _
  · rw [h] at hq
    cases hq
    rw [e]
    obtain ⟨q, e, hq⟩ := better_no hb
    rw [e]
    exact fun r hr => ⟨q, rfl, by cases hr; exact hq⟩
def Real (ls : List Lm) (a : Nat) (g : Gs) : Prop := ∀ v p, g v = some p → ∃ es, Wk ls a es v ∧ wt es = p
def Upto (ls : List Lm) (a : Nat) (r : Nat) (g : Gs) : Prop := ∀ es v, Wk ls a es v → es.length ≤ r → ole (g v) (some (wt es))
def Fixd (ls : List Lm) (g : Gs) : Prop := ∀ l, l ∈ ls → ∀ p, g l.1 = some p → ole (g l.2.1) (some (wpl p l))
theorem bstp_real {g : Gs} {l : Lm} (hl : l ∈ ls) (h : Real ls a g) : Real ls a (bstp g l) := fun v p => by
  rcases bstp_eq g l with ⟨_, e⟩ | ⟨q, hq, hb, e⟩ | ⟨q, _, _, e⟩
  · rw [e]; exact h v p
  · rw [e]
    unfold put
    split
    · rename_i e2
      intro hp
      cases hp
      obtain ⟨es, w, e3⟩ := h _ _ hq
      rw [e2]
      exact ⟨es ++ [l], w.snoc hl, by rw [wt_snoc, e3]⟩
    · exact h v p
  · rw [e]; exact h v p
theorem fold_ole : ∀ {xs : List Lm} {g : Gs} (v : Nat), ole (xs.foldl bstp g v) (g v)
  | [], g, v => ole_refl _
  | x :: xs, g, v => ole_trans (fold_ole (xs := xs) (g := bstp g x) v) (bstp_ole v)
theorem fold_real : ∀ {xs : List Lm} {g : Gs}, (∀ l, l ∈ xs → l ∈ ls) → Real ls a g → Real ls a (xs.foldl bstp g)
  | [], g, _, h => h
  | x :: xs, g, hs, h => fold_real (xs := xs) (fun l hl => hs l (List.mem_cons_of_mem _ hl)) (bstp_real (hs x List.mem_cons_self) h)
theorem fold_hit : ∀ {xs : List Lm} {g : Gs} {l : Lm}, l ∈ xs → (l.2.2.2 = 0 ∨ l.2.2.2 = 1) → ∀ {p : Bd}, ole (g l.1) (some p) → ole (xs.foldl bstp g l.2.1) (some (wpl p l))
  | x :: xs, g, l, hl, hw, p, hp => by
    rcases List.mem_cons.mp hl with rfl | hl
    · obtain ⟨q, e, hq⟩ := hp p rfl
      refine ole_trans (fold_ole (xs := xs) (g := bstp g l) _) (ole_trans (bstp_hit e) fun r hr => ?_)
      cases hr
      exact ⟨_, rfl, wpl_mono hw hq⟩
    · exact fold_hit (xs := xs) (g := bstp g x) hl hw (ole_trans (bstp_ole _) hp)
theorem upto_round {g : Gs} {r : Nat} (hw : W01 ls) (h : Upto ls a r g) : Upto ls a (r + 1) (ls.foldl bstp g) := fun es v w hl => by
  rcases List.eq_nil_or_concat es with rfl | ⟨fs, l, rfl⟩
  · exact ole_trans (fold_ole _) (h [] v w (Nat.zero_le _))
  · rw [List.concat_eq_append] at w hl ⊢
    obtain ⟨w1, w2, w3⟩ := w.un
    rw [List.length_append, List.length_singleton] at hl
    rw [wt_snoc, ← w3]
    exact fold_hit w2 (hw l w2) (h fs _ w1 (by omega))
theorem fixd_upto {g : Gs} (hw : W01 ls) (h0 : Upto ls a 0 g) (hf : Fixd ls g) : ∀ r, Upto ls a r g
  | 0 => h0
  | r + 1 => fun es v w hl => by
    rcases List.eq_nil_or_concat es with rfl | ⟨fs, l, rfl⟩
    · exact h0 [] v w (Nat.zero_le _)
    · rw [List.concat_eq_append] at w hl ⊢
      obtain ⟨w1, w2, w3⟩ := w.un
      rw [List.length_append, List.length_singleton] at hl
      obtain ⟨p, e, hp⟩ := fixd_upto hw h0 hf r fs _ w1 (by omega) _ rfl
      rw [wt_snoc, ← w3]
      refine ole_trans (hf l w2 p e) fun q hq => ?_
      cases hq
      exact ⟨_, rfl, wpl_mono (hw l w2) hp⟩
theorem upto_dst {g : Gs} (hR : Real ls a g) (hU : ∀ r, Upto ls a r g) (v : Nat) : Dst ls a v (g v) := by
  refine ⟨fun e es w => ?_, fun p e => hR v p e, fun p e es w => ?_⟩
  · obtain ⟨p, e2, _⟩ := hU _ es v w (Nat.le_refl _) _ rfl
    rw [e] at e2
    cases e2
  · obtain ⟨q, e2, h⟩ := hU _ es v w (Nat.le_refl _) _ rfl
    rw [e] at e2
    cases e2
    exact h
theorem upto_all {g : Gs} {P : Nat → Int} {r : Nat} (hn : 1 ≤ n) (h : Feas n ls P) (hr : Rg n ls) (hw : W01 ls) (ha : a < n) (hnr : n ≤ r + 1) (hU : Upto ls a r g) : ∀ m, Upto ls a m g := fun m es v w hl => by
  obtain ⟨fs, f1, f2, f3, _⟩ := way_cut hn h hr hw _ (Nat.le_refl _) ha w
  refine ole_trans (hU fs v f1 (by omega)) fun q hq => ?_
  cases hq
  exact ⟨_, rfl, f3⟩
def g00 (a : Nat) : Gs := fun v => if v = a then some (0, 1) else none
theorem g00_real : Real ls a (g00 a) := fun v p h => by
  unfold g00 at h
  split at h
  · rename_i e
    cases h
    exact ⟨[], e.symm, rfl⟩
  · cases h
theorem g00_upto : Upto ls a 0 (g00 a) := fun es v w hl => by
  have : es = [] := List.length_eq_zero_iff.mp (by omega)
  subst this
  cases (show a = v from w)
  unfold g00
  rw [if_pos rfl]
  exact ole_refl _
/-! turned about -/
def rv (l : Lm) : Lm := (l.2.1, l.1, l.2.2.1, l.2.2.2)
theorem rv_wt : ∀ {es : List Lm}, wC (es.reverse.map rv) = wC es ∧ wW (es.reverse.map rv) = wW es
  | [] => ⟨rfl, rfl⟩
  | l :: es => by
    obtain ⟨h1, h2⟩ := rv_wt (es := es)
    rw [List.reverse_cons, List.map_append, wC_app, wW_app, h1, h2]
    refine ⟨?_, ?_⟩
    · show wC es + (l.2.2.1 + 0) = l.2.2.1 + wC es
      omega
    · show wW es * (l.2.2.2 * 1) = l.2.2.2 * wW es
      rw [Int.mul_one, Int.mul_comm]
theorem Wk.rev : ∀ {es : List Lm} {a b : Nat}, Wk ls a es b → Wk (ls.map rv) b (es.reverse.map rv) a
  | [], a, b, h => by cases (show a = b from h); rfl
  | l :: es, a, b, ⟨h1, h2, h3⟩ => by
    rw [List.reverse_cons, List.map_append]
    refine (Wk.rev h3).app ⟨rfl, List.mem_map_of_mem h2, ?_⟩
    exact h1
theorem rv_rv : (ls.map rv).map rv = ls := by
  rw [List.map_map]
  exact (List.map_congr_left fun l _ => rfl).trans (List.map_id _)
theorem Dst.rev {v : Nat} {d : Option Bd} (h : Dst (ls.map rv) a v d) : Dst ls v a d := by
  refine ⟨fun e es w => h.no e _ w.rev, fun p e => ?_, fun p e es w => ?_⟩
  · obtain ⟨es, w, e2⟩ := h.wy p e
    have w2 := w.rev
    rw [rv_rv] at w2
    exact ⟨_, w2, by unfold wt; rw [rv_wt.1, rv_wt.2]; exact e2⟩
  · have := h.le p e _ w.rev
    unfold wt at this
    rw [rv_wt.1, rv_wt.2] at this
    exact this
theorem rv_rg (hr : Rg n ls) : Rg n (ls.map rv) := fun l hl => by
  obtain ⟨x, hx, rfl⟩ := List.mem_map.mp hl
  exact ⟨(hr x hx).2, (hr x hx).1⟩
theorem rv_w01 (hw : W01 ls) : W01 (ls.map rv) := fun l hl => by
  obtain ⟨x, hx, rfl⟩ := List.mem_map.mp hl
  exact hw x hx
theorem rv_feas {P : Nat → Int} (h : Feas n ls P) : Feas n (ls.map rv) fun v => -P v := fun l hl => by
  obtain ⟨x, hx, rfl⟩ := List.mem_map.mp hl
  have q := h x hx
  show -P x.2.1 ≤ -P x.1 + cost n x
  omega
end
end K00

/-! bounds as data -/
namespace Dw
open PySem
open _root_.L2
section
variable {K : PySem.W.Frag} {b : B} {s : S} {x y : A} {Φ : A → S → Prop}
theorem v2_ltTu {ns ms : List Int} (q : Φ (.d (.bool (HT.lexLt ns ms))) s) : V2 K b (rLtT K) (.d (.tuple (ns.map .int))) (.d (.tuple (ms.map .int))) s Φ := fun σ H tv ta Hd ps v w R a1 a2 Q k => by
  cases (show Dr K Hd v (.tuple (ns.map .int)) from a1) with
  | tup h1 d1 =>
    cases (show Dr K Hd w (.tuple (ms.map .int)) from a2) with
    | tup h2 d2 =>
      have e1 := da_intsV d1
      have e2 := da_intsV d2
      subst e1 e2
      exact ⟨_, _, _, _, rfl, rfl, st_up R.e1 h1, st_up R.e1 h2, k _ H _ s Hd ps q R (.bl _)⟩
end
end Dw
namespace K00
open PySem
open Dw
abbrev bdT (p : Bd) : PyData := .tuple [.int p.1, .int p.2]
def bdD : Option Bd → PyData
  | none => .none
  | some p => bdT p
theorem lexLt_bd {p q : Bd} : HT.lexLt [p.1, p.2] [q.1, q.2] = decide (wlt p q) := by
  rw [HT.lexLt_cons, HT.lexLt_cons, HT.lexLt_nil_nil]
  unfold wlt
  by_cases h : p.1 = q.1
  · rw [if_pos h]
    by_cases h2 : p.2 = q.2
    · rw [if_pos h2]
      exact (decide_eq_false (by omega)).symm
    · rw [if_neg h2]
      by_cases h3 : p.2 < q.2
      · rw [decide_eq_true h3]
        exact (decide_eq_true (by omega)).symm
      · rw [decide_eq_false h3]
        exact (decide_eq_false (by omega)).symm
  · rw [if_neg h]
    by_cases h3 : p.1 < q.1
    · rw [decide_eq_true h3]
      exact (decide_eq_true (by omega)).symm
    · rw [decide_eq_false h3]
      exact (decide_eq_false (by omega)).symm
section
variable {K : PySem.W.Frag} {b : B} {s : S} {Φ : Dw.A → S → Prop}
open _root_.L2
theorem v2_ltBd {a1 a2 b1 b2 : Int} (q : Φ (.d (.bool (decide (wlt (a1, a2) (b1, b2))))) s) : V2 K b (rLtT K) (.d (.tuple [.int a1, .int a2])) (.d (.tuple [.int b1, .int b2])) s Φ :=
  v2_ltTu (ns := [a1, a2]) (ms := [b1, b2]) (by rw [show HT.lexLt [a1, a2] [b1, b2] = decide (wlt (a1, a2) (b1, b2)) from lexLt_bd (p := (a1, a2)) (q := (b1, b2))]; exact q)
theorem vc_min2Bd {a1 a2 b1 b2 : Int} (q : Φ (.d (bdT (if wlt (b1, b2) (a1, a2) then (b1, b2) else (a1, a2)))) s) : VC K b (rMin2 K) [.d (.tuple [.int a1, .int a2]), .d (.tuple [.int b1, .int b2])] s Φ := fun σ H tv ta Hd ps vs R a Q k => by
  cases a with
  | @cons v _ _ _ h1 t =>
    cases t with
    | @cons w _ _ _ h2 t =>
      cases t
      refine ⟨v, w, .tuple [.int a1, .int a2], .tuple [.int b1, .int b2], rfl, Dr.dp _ _ (dp_up R.e1 _ _ h1), Dr.dp _ _ (dp_up R.e1 _ _ h2), ⟨?_, ?_⟩, by simp [PyData.depthAll, PyData.depth], ?_⟩
      · intro x hx y hy
        simp only [List.mem_cons, List.not_mem_nil, or_false] at hx hy
        rcases hx with rfl | rfl <;> rcases hy with rfl | rfl <;> rfl
      · intro x hx
        simp only [List.mem_cons, List.not_mem_nil, or_false] at hx
        rcases hx with rfl | rfl <;> exact fun h => nomatch h
      · rw [PySem.W.dataLt_ii]
        show Q (if decide (wlt (b1, b2) (a1, a2)) = true then w else v) H
        by_cases c : wlt (b1, b2) (a1, a2)
        · rw [if_pos (decide_eq_true c)]
          rw [if_pos c] at q
          exact k w H _ s Hd ps q R h2
        · rw [if_neg (by rw [decide_eq_false c]; exact Bool.false_ne_true)]
          rw [if_neg c] at q
          exact k v H _ s Hd ps q R h1
end
end K00

namespace K00
open PySem
open Dw
open _root_.L2
def okO (o : Option Bd) : Prop := ∀ p, o = some p → p.2 = 0 ∨ p.2 = 1
def plusO : Option Bd → Option Bd → Option Bd
  | some p, some q => some (p.1 + q.1, p.2 * q.2)
  | _, _ => none
def lessO : Option Bd → Option Bd → Bool
  | none, _ => false
  | some p, o => better p o
def admO : Option Bd → Int → Int → Bool
  | none, _, _ => true
  | some p, u, t => if p.2 = 1 then decide (t ≤ p.1 * u) else decide (t < p.1 * u)
theorem bstp_yes {g : Gs} {e : Lm} (h : lessO (plusO (g e.1) (some (e.2.2.1, e.2.2.2))) (g e.2.1) = true) : bstp g e = fun v => if v = e.2.1 then plusO (g e.1) (some (e.2.2.1, e.2.2.2)) else g v := by
  unfold bstp
  cases hs : g e.1 with
  | none => rw [hs] at h; cases h
  | some p =>
    rw [hs] at h
    have h : better (wpl p e) (g e.2.1) = true := h
    dsimp only
    rw [if_pos h]
    rfl
theorem bstp_nope {g : Gs} {e : Lm} (h : lessO (plusO (g e.1) (some (e.2.2.1, e.2.2.2))) (g e.2.1) = false) : bstp g e = g := by
  unfold bstp
  cases hs : g e.1 with
  | none => rfl
  | some p =>
    rw [hs] at h
    have h : better (wpl p e) (g e.2.1) = false := h
    dsimp only
    rw [if_neg (by rw [h]; exact Bool.false_ne_true)]
structure Rnd (ms : List Lm) (g : Gs) (p : Nat) (g' : Gs) (ch : Bool) : Prop where
  e : g' = (ms.take p).foldl bstp g
  f : ch = false → g' = g ∧ ∀ q l, q < p → ms[q]? = some l → lessO (plusO (g l.1) (some (l.2.2.1, l.2.2.2))) (g l.2.1) = false
section
variable {ms : List Lm} {g g' : Gs} {p : Nat} {e : Lm} {ch : Bool} {n a : Nat}
theorem Rnd.start : Rnd ms g 0 g false := ⟨rfl, fun _ => ⟨rfl, fun q l h => absurd h (Nat.not_lt_zero q)⟩⟩
theorem Rnd.yes (R : Rnd ms g p g' ch) (h : ms[p]? = some e) : Rnd ms g (p + 1) (bstp g' e) true := ⟨by rw [List.take_add_one, h, Option.toList_some, List.foldl_append, ← R.e]; rfl, fun z => nomatch z⟩
theorem Rnd.no (R : Rnd ms g p g' ch) (h : ms[p]? = some e) (hn : lessO (plusO (g' e.1) (some (e.2.2.1, e.2.2.2))) (g' e.2.1) = false) : Rnd ms g (p + 1) g' ch := by
  refine ⟨?_, fun z => ?_⟩
  · rw [List.take_add_one, h, Option.toList_some, List.foldl_append, ← R.e]
    exact (bstp_nope hn).symm
  · obtain ⟨h1, h2⟩ := R.f z
    refine ⟨h1, fun q l hq hl => ?_⟩
    by_cases c : q = p
    · subst c
      rw [h] at hl
      cases hl
      rw [← h1]
      exact hn
    · exact h2 q l (by omega) hl
theorem Rnd.done (R : Rnd ms g ms.length g' true) : g' = ms.foldl bstp g := by rw [R.e, List.take_length]
theorem Rnd.fix (R : Rnd ms g ms.length g' false) : g' = g ∧ Fixd ms g := by
  obtain ⟨h1, h2⟩ := R.f rfl
  refine ⟨h1, fun l hl p hp => ?_⟩
  obtain ⟨q, hq⟩ := List.getElem?_of_mem hl
  have := h2 q l (List.getElem?_eq_some_iff.mp hq).1 hq
  rw [hp] at this
  have this : better (wpl p l) (g l.2.1) = false := this
  obtain ⟨r, e, hr⟩ := better_no this
  rw [e]
  exact fun z hz => ⟨r, rfl, by cases hz; exact hr⟩
theorem Rnd.real (R : Rnd ms g p g' ch) (h : Real ms a g) : Real ms a g' := by
  rw [R.e]
  exact fold_real (fun l hl => List.mem_of_mem_take hl) h
theorem real_ok (hw : W01 ms) (h : Real ms a g) (v : Nat) : okO (g v) := fun p hp => by
  obtain ⟨es, w, rfl⟩ := h v p hp
  obtain ⟨_, _, h3⟩ := wSW fun l hl => hw l (w.mem l hl)
  show wW es = 0 ∨ wW es = 1
  omega
def gD (n : Nat) (g : Gs) : List PyData := fnL n fun v => bdD (g v)
theorem gD_len : (gD n g).length = n := fnL_len
theorem gD_at {v : Nat} (h : v < n) : atI (gD n g) (v : Int) = some (bdD (g v)) := fnL_at (f := fun v => bdD (g v)) h
theorem gD_start {root : Nat} : fnL n (fun v => if v = root then .tuple [.int 0, .int 1] else .none) = gD n (g00 root) := fnL_congr fun v _ => by
  unfold g00
  split <;> rfl
theorem gD_set {d : Nat} {o : Option Bd} : (gD n g).set d (bdD o) = gD n (fun v => if v = d then o else g v) := by
  unfold gD
  rw [fnL_set]
  exact fnL_congr fun v _ => by dsimp only; split <;> rfl
theorem dst_fix (hw : W01 ms) (hR : Real ms a g) (hU : Upto ms a 0 g) (hF : Fixd ms g) (v : Nat) : Dst ms a v (g v) := upto_dst hR (fixd_upto hw hU hF) v
theorem upto0 {k : Nat} (h : Upto ms a k g) : Upto ms a 0 g := fun es v w hl => h es v w (by omega)
end
theorem lmR_inj {xs ys : List Lm} (h : xs.map lmR = ys.map lmR) : xs = ys := by
  have inj : ∀ a b : Lm, lmR a = lmR b → a = b := fun a b h => by
    obtain ⟨a1, a2, a3, a4⟩ := a
    obtain ⟨b1, b2, b3, b4⟩ := b
    simp only [lmR, Prod.mk.injEq] at h
    obtain ⟨h1, h2, h3, h4⟩ := h
    have h1 : a1 = b1 := by omega
    have h2 : a2 = b2 := by omega
    rw [h1, h2, h3, h4]
  exact (List.map_inj_right inj).mp h
end K00
namespace Dw
open PySem
open _root_.L2
theorem ev_isYT3 {K : PySem.W.Frag} {b : B} {s : S} {Φ : A → S → Prop} {i : Nat} {D a c1 c2 c3 : Addr} {d : Option Addr} {fs : Option (List (Str × PyData))} (hi : s.ss[i]? = some (some (exX K a d fs)))
    (h1 : PySem.W.kitOne K (.ref D) (.ref c1) = some false) (h2 : PySem.W.kitOne K (.ref D) (.ref c2) = some false) (h3 : PySem.W.kitOne K (.ref D) (.ref c3) = some false) (q : Φ (.d (.bool false)) s) : EV K b (tCB (rIsYT K D a d) (tCons (tVar i) (tCons (tTup (tCons (tC (.ref c1)) (tCons (tC (.ref c2)) (tCons (tC (.ref c3)) tNil)))) tNil))) s Φ :=
  ev_isYTf (as := [c1, c2, c3]) hi (show 3 ≤ 1000 by decide) (fun c hc => by
    simp only [List.mem_cons, List.not_mem_nil, or_false] at hc
    rcases hc with rfl | rfl | rfl
    · exact h1
    · exact h2
    · exact h3) q
end Dw
namespace K00
open PySem
open Dw
open _root_.L2
theorem cut_pre {xs : List PyData} {m : Nat} (h : m ≤ xs.length) : cutD xs none (some (m : Int)) = xs.take m := by
  unfold cutD
  have e1 : HT.sIx xs.length 0 none = 0 := rfl
  rw [e1, HT.sIx_nat, Nat.min_eq_left h, List.drop_zero]
  rfl
theorem cut_post {xs : List PyData} {m : Nat} (h : m ≤ xs.length) : cutD xs (some (m : Int)) none = xs.drop m := by
  unfold cutD
  have e1 : HT.sIx xs.length xs.length none = xs.length := rfl
  rw [e1, HT.sIx_nat, Nat.min_eq_left h]
  exact List.take_of_length_le (by rw [List.length_drop]; omega)
theorem rwsD_ins2 {xs : List Rw} {i : Nat} {z : Rw} : (rwsD xs).take i ++ [rwD z] ++ (rwsD xs).drop i = rwsD (ins xs i z) := rwsD_ins (i := (i : Int))
end K00
namespace Dw
open PySem
open _root_.L2
def rLst0 (K : PySem.W.Frag) : List V → Hp → VK → Prop := fun xs H Q => ∃ p ys, xs = [.ref p] ∧ (SqL K H p ys ∨ SqT K H p ys) ∧ ∀ l, H l = none → Q (.ref l) (upd H l (.lst ys))
theorem call_list_ofK {X : Cx} {K : PySem.W.Frag} (hK : X.K = K) : CallR X (.type "list") (rLst0 K) := by subst hK; exact call_list_of
end Dw

namespace K00
open PySem
open _root_.L2
open Dw
def topS (i : Nat) : Stmt := PySem.Challenge.pw_dwellhouse_k01_span_ends.main.body.getD i (.Pass ⟨0, 0, 0, 0⟩)
abbrev s_plus : Stmt := topS 8
theorem sc_plus : FnScope ["first", "second"] ["first", "second"] (defScope s_plus) := ⟨rfl, rfl, rfl, by decide +kernel, rfl, by decide +kernel, by decide +kernel⟩
abbrev s_less : Stmt := topS 9
theorem sc_less : FnScope ["first", "second"] ["first", "second"] (defScope s_less) := ⟨rfl, rfl, rfl, by decide +kernel, rfl, by decide +kernel, by decide +kernel⟩
abbrev s_tighter : Stmt := topS 10
theorem sc_tighter : FnScope ["first", "second"] ["first", "second"] (defScope s_tighter) := ⟨rfl, rfl, rfl, by decide +kernel, rfl, by decide +kernel, by decide +kernel⟩
abbrev s_admits : Stmt := topS 11
theorem sc_admits : FnScope ["bound", "unit", "ticks", "most"] ["bound", "unit", "ticks"] (defScope s_admits) := ⟨rfl, rfl, rfl, by decide +kernel, rfl, by decide +kernel, by decide +kernel⟩
abbrev s_lowest : Stmt := topS 12
theorem sc_lowest : FnScope ["n", "d", "share"] ["n", "d"] (defScope s_lowest) := ⟨rfl, rfl, rfl, by decide +kernel, rfl, by decide +kernel, by decide +kernel⟩
abbrev s_check_limits : Stmt := topS 14
theorem sc_check_limits : FnScope ["count", "limits", "place", "limit", "i", "j", "_", "w"] ["count", "limits"] (defScope s_check_limits) := ⟨rfl, rfl, rfl, by decide +kernel, rfl, by decide +kernel, by decide +kernel⟩
abbrev s_solve : Stmt := topS 15
theorem sc_solve : FnScope ["count", "limits", "limit", "costs", "sums", "back", "last", "_", "index", "i", "cost"] ["count", "limits"] (defScope s_solve) := ⟨rfl, rfl, rfl, by decide +kernel, rfl, by decide +kernel, by decide +kernel⟩
abbrev s_solution_of : Stmt := topS 16
theorem sc_solution_of : FnScope ["unit", "sums", "value", "ticks", "share"] ["unit", "sums"] (defScope s_solution_of) := ⟨rfl, rfl, rfl, by decide +kernel, rfl, by decide +kernel, by decide +kernel⟩
abbrev s_cycle_behind : Stmt := topS 17
theorem sc_cycle_behind : FnScope ["limits", "back", "at", "start", "_", "chain", "here"] ["limits", "back", "at"] (defScope s_cycle_behind) := ⟨rfl, rfl, rfl, by decide +kernel, rfl, by decide +kernel, by decide +kernel⟩
abbrev s_least_sums : Stmt := topS 18
theorem sc_least_sums : FnScope ["count", "limits", "root", "sums", "_", "changed", "i", "j", "c", "w", "bound"] ["count", "limits", "root"] (defScope s_least_sums) := ⟨rfl, rfl, rfl, by decide +kernel, rfl, by decide +kernel, by decide +kernel⟩
abbrev s_span : Stmt := topS 19
theorem sc_span : FnScope ["count", "limits", "late", "early", "outcome", "high", "turned", "low"] ["count", "limits", "late", "early"] (defScope s_span) := ⟨rfl, rfl, rfl, by decide +kernel, rfl, by decide +kernel, by decide +kernel⟩
abbrev s__law_bag : Stmt := topS 21
theorem sc__law_bag : FnScope ["script", "cell"] ["script"] (defScope s__law_bag) := ⟨rfl, rfl, rfl, by decide +kernel, rfl, by decide +kernel, by decide +kernel⟩
abbrev s__law_take : Stmt := topS 22
theorem sc__law_take : FnScope ["bag", "many", "cells", "cell", "digit"] ["bag", "many"] (defScope s__law_take) := ⟨rfl, rfl, rfl, by decide +kernel, rfl, by decide +kernel, by decide +kernel⟩
abbrev s__law_is_number : Stmt := topS 23
theorem sc__law_is_number : FnScope ["value"] ["value"] (defScope s__law_is_number) := ⟨rfl, rfl, rfl, by decide +kernel, rfl, by decide +kernel, by decide +kernel⟩
abbrev s__law_number : Stmt := topS 24
theorem sc__law_number : FnScope ["bag", "scale", "parts", "number", "k"] ["bag", "scale"] (defScope s__law_number) := ⟨rfl, rfl, rfl, by decide +kernel, rfl, by decide +kernel, by decide +kernel⟩
abbrev s__law_count : Stmt := topS 25
theorem sc__law_count : FnScope ["bag", "shape"] ["bag"] (defScope s__law_count) := ⟨rfl, rfl, rfl, by decide +kernel, rfl, by decide +kernel, by decide +kernel⟩
abbrev s__law_order : Stmt := topS 26
theorem sc__law_order : FnScope ["bag", "count", "left", "order", "k"] ["bag", "count"] (defScope s__law_order) := ⟨rfl, rfl, rfl, by decide +kernel, rfl, by decide +kernel, by decide +kernel⟩
abbrev s__law_pair : Stmt := topS 27
theorem sc__law_pair : FnScope ["bag", "many", "i", "j"] ["bag", "many"] (defScope s__law_pair) := ⟨rfl, rfl, rfl, by decide +kernel, rfl, by decide +kernel, by decide +kernel⟩
abbrev s__law_around : Stmt := topS 28
theorem sc__law_around : FnScope ["bag", "unit", "secret", "i", "j", "gap", "c"] ["bag", "unit", "secret", "i", "j"] (defScope s__law_around) := ⟨rfl, rfl, rfl, by decide +kernel, rfl, by decide +kernel, by decide +kernel⟩
abbrev s__law_stairs : Stmt := topS 29
theorem sc__law_stairs : FnScope ["bag", "count", "scale", "order", "k", "offsets", "rows", "i", "j"] ["bag", "count", "scale"] (defScope s__law_stairs) := ⟨rfl, rfl, rfl, by decide +kernel, rfl, by decide +kernel, by decide +kernel⟩
abbrev s__law_system : Stmt := topS 30
theorem sc__law_system : FnScope ["bag", "count", "scale", "unit", "secret", "k", "size", "rows", "pair"] ["bag", "count", "scale"] (defScope s__law_system) := ⟨rfl, rfl, rfl, by decide +kernel, rfl, by decide +kernel, by decide +kernel⟩
abbrev s__law_cycle : Stmt := topS 31
theorem sc__law_cycle : FnScope ["bag", "count", "scale", "order", "rows", "added", "k", "c", "way", "aim", "weak"] ["bag", "count", "scale"] (defScope s__law_cycle) := ⟨rfl, rfl, rfl, by decide +kernel, rfl, by decide +kernel, by decide +kernel⟩
abbrev s__law_mixed : Stmt := topS 32
theorem sc__law_mixed : FnScope ["bag", "rows", "more", "mixed", "row"] ["bag", "rows", "more"] (defScope s__law_mixed) := ⟨rfl, rfl, rfl, by decide +kernel, rfl, by decide +kernel, by decide +kernel⟩
abbrev s__law_wrong_limit : Stmt := topS 33
theorem sc__law_wrong_limit : FnScope ["bag", "count", "i", "j", "c", "w", "far", "beyond", "way"] ["bag", "count"] (defScope s__law_wrong_limit) := ⟨rfl, rfl, rfl, by decide +kernel, rfl, by decide +kernel, by decide +kernel⟩
abbrev s__law_solves : Stmt := topS 34
theorem sc__law_solves : FnScope ["answer", "count", "rows", "unit", "ticks", "tick", "row", "gap"] ["answer", "count", "rows"] (defScope s__law_solves) := ⟨rfl, rfl, rfl, by decide +kernel, rfl, by decide +kernel, by decide +kernel⟩
abbrev s__law_is_bad_cycle : Stmt := topS 35
theorem sc__law_is_bad_cycle : FnScope ["chain", "rows", "at", "added", "weak", "k", "row", "after"] ["chain", "rows"] (defScope s__law_is_bad_cycle) := ⟨rfl, rfl, rfl, by decide +kernel, rfl, by decide +kernel, by decide +kernel⟩
abbrev s__law_answers : Stmt := topS 36
theorem sc__law_answers : FnScope ["count", "rows", "good", "passed", "answer"] ["count", "rows", "good"] (defScope s__law_answers) := ⟨rfl, rfl, rfl, by decide +kernel, rfl, by decide +kernel, by decide +kernel⟩
abbrev s__law_same_bound : Stmt := topS 37
theorem sc__law_same_bound : FnScope ["told", "due"] ["told", "due"] (defScope s__law_same_bound) := ⟨rfl, rfl, rfl, by decide +kernel, rfl, by decide +kernel, by decide +kernel⟩
abbrev s__law_least : Stmt := topS 38
theorem sc__law_least : FnScope ["count", "rows", "root", "sums", "lap", "changed", "row", "before", "after"] ["count", "rows", "root"] (defScope s__law_least) := ⟨rfl, rfl, rfl, by decide +kernel, rfl, by decide +kernel, by decide +kernel⟩
abbrev s__law_span_is : Stmt := topS 39
theorem sc__law_span_is : FnScope ["count", "rows", "late", "early", "under", "over", "passed", "told", "low"] ["count", "rows", "late", "early", "under", "over"] (defScope s__law_span_is) := ⟨rfl, rfl, rfl, by decide +kernel, rfl, by decide +kernel, by decide +kernel⟩
abbrev s__law_end_exact : Stmt := topS 40
theorem sc__law_end_exact : FnScope ["bag", "count", "rows", "a", "b", "end", "far", "k", "finer", "row"] ["bag", "count", "rows", "a", "b", "end"] (defScope s__law_end_exact) := ⟨rfl, rfl, rfl, by decide +kernel, rfl, by decide +kernel, by decide +kernel⟩
abbrev s__law_unsolvable : Stmt := topS 41
theorem sc__law_unsolvable : FnScope ["count", "rows", "late", "early", "passed", "e"] ["count", "rows", "late", "early"] (defScope s__law_unsolvable) := ⟨rfl, rfl, rfl, by decide +kernel, rfl, by decide +kernel, by decide +kernel⟩
abbrev s__law_refuses : Stmt := topS 42
theorem sc__law_refuses : FnScope ["bag", "count", "rows", "late", "early", "far", "beyond", "pair", "good", "e", "at", "wrong"] ["bag", "count", "rows", "late", "early"] (defScope s__law_refuses) := ⟨rfl, rfl, rfl, by decide +kernel, rfl, by decide +kernel, by decide +kernel⟩
abbrev s__law_bound : Stmt := topS 43
theorem sc__law_bound : FnScope ["bag", "scale"] ["bag", "scale"] (defScope s__law_bound) := ⟨rfl, rfl, rfl, by decide +kernel, rfl, by decide +kernel, by decide +kernel⟩
abbrev s__law_bounds_right : Stmt := topS 44
theorem sc__law_bounds_right : FnScope ["bag", "scale", "first", "second", "both", "least", "unit", "edge", "ticks", "within", "told"] ["bag", "scale"] (defScope s__law_bounds_right) := ⟨rfl, rfl, rfl, by decide +kernel, rfl, by decide +kernel, by decide +kernel⟩
abbrev s__law_gcd : Stmt := topS 45
theorem sc__law_gcd : FnScope ["a", "b", "lap", "rest"] ["a", "b"] (defScope s__law_gcd) := ⟨rfl, rfl, rfl, by decide +kernel, rfl, by decide +kernel, by decide +kernel⟩
abbrev s__law_lowest_right : Stmt := topS 46
theorem sc__law_lowest_right : FnScope ["bag", "scale", "factor", "n", "d", "told", "part", "e"] ["bag", "scale"] (defScope s__law_lowest_right) := ⟨rfl, rfl, rfl, by decide +kernel, rfl, by decide +kernel, by decide +kernel⟩
abbrev s_law : Stmt := topS 47
theorem sc_law : FnScope ["script", "bag", "count", "scale", "rows", "late", "early", "over", "under", "mixed", "other"] ["script"] (defScope s_law) := ⟨rfl, rfl, rfl, by decide +kernel, rfl, by decide +kernel, by decide +kernel⟩
abbrev s_BadLimit___init__ : Stmt := inClass (topS 5) 0
theorem sc_BadLimit___init__ : FnScopeS ["self", "place"] ["self", "place"] (defScope s_BadLimit___init__) := ⟨rfl, rfl, rfl, by decide +kernel, rfl, by decide +kernel, by decide +kernel, fun x h => by with_unfolding_all exact free_only (by decide +kernel) h, by decide +kernel, by decide +kernel⟩
abbrev s_Unsolvable___init__ : Stmt := inClass (topS 6) 0
theorem sc_Unsolvable___init__ : FnScopeS ["self", "chain"] ["self", "chain"] (defScope s_Unsolvable___init__) := ⟨rfl, rfl, rfl, by decide +kernel, rfl, by decide +kernel, by decide +kernel, fun x h => by with_unfolding_all exact free_only (by decide +kernel) h, by decide +kernel, by decide +kernel⟩
/-- what the top has left -/
structure Tx (P : Program) (K : PySem.W.Frag) (mg : Str → Option Value) where
  a_plus : Addr
  d_plus : FuncData
  F_plus : FunD K "plus" "plus" (defArgs s_plus) (defBody s_plus) (defScope s_plus) [] [] a_plus d_plus
  g_plus : mg "plus" = some (.ref a_plus)
  a_less : Addr
  d_less : FuncData
  F_less : FunD K "less" "less" (defArgs s_less) (defBody s_less) (defScope s_less) [] [] a_less d_less
  g_less : mg "less" = some (.ref a_less)
  a_tighter : Addr
  d_tighter : FuncData
  F_tighter : FunD K "tighter" "tighter" (defArgs s_tighter) (defBody s_tighter) (defScope s_tighter) [] [] a_tighter d_tighter
  g_tighter : mg "tighter" = some (.ref a_tighter)
  a_admits : Addr
  d_admits : FuncData
  F_admits : FunD K "admits" "admits" (defArgs s_admits) (defBody s_admits) (defScope s_admits) [] [] a_admits d_admits
  g_admits : mg "admits" = some (.ref a_admits)
  a_lowest : Addr
  d_lowest : FuncData
  F_lowest : FunD K "lowest" "lowest" (defArgs s_lowest) (defBody s_lowest) (defScope s_lowest) [] [] a_lowest d_lowest
  g_lowest : mg "lowest" = some (.ref a_lowest)
  a_check_limits : Addr
  d_check_limits : FuncData
  F_check_limits : FunD K "check_limits" "check_limits" (defArgs s_check_limits) (defBody s_check_limits) (defScope s_check_limits) [] [] a_check_limits d_check_limits
  g_check_limits : mg "check_limits" = some (.ref a_check_limits)
  a_solve : Addr
  d_solve : FuncData
  F_solve : FunD K "solve" "solve" (defArgs s_solve) (defBody s_solve) (defScope s_solve) [] [] a_solve d_solve
  g_solve : mg "solve" = some (.ref a_solve)
  a_solution_of : Addr
  d_solution_of : FuncData
  F_solution_of : FunD K "solution_of" "solution_of" (defArgs s_solution_of) (defBody s_solution_of) (defScope s_solution_of) [] [] a_solution_of d_solution_of
  g_solution_of : mg "solution_of" = some (.ref a_solution_of)
  a_cycle_behind : Addr
  d_cycle_behind : FuncData
  F_cycle_behind : FunD K "cycle_behind" "cycle_behind" (defArgs s_cycle_behind) (defBody s_cycle_behind) (defScope s_cycle_behind) [] [] a_cycle_behind d_cycle_behind
  g_cycle_behind : mg "cycle_behind" = some (.ref a_cycle_behind)
  a_least_sums : Addr
  d_least_sums : FuncData
  F_least_sums : FunD K "least_sums" "least_sums" (defArgs s_least_sums) (defBody s_least_sums) (defScope s_least_sums) [] [] a_least_sums d_least_sums
  g_least_sums : mg "least_sums" = some (.ref a_least_sums)
  a_span : Addr
  d_span : FuncData
  F_span : FunD K "span" "span" (defArgs s_span) (defBody s_span) (defScope s_span) [] [] a_span d_span
  g_span : mg "span" = some (.ref a_span)
  a__law_bag : Addr
  d__law_bag : FuncData
  F__law_bag : FunD K "_law_bag" "_law_bag" (defArgs s__law_bag) (defBody s__law_bag) (defScope s__law_bag) [] [] a__law_bag d__law_bag
  g__law_bag : mg "_law_bag" = some (.ref a__law_bag)
  a__law_take : Addr
  d__law_take : FuncData
  F__law_take : FunD K "_law_take" "_law_take" (defArgs s__law_take) (defBody s__law_take) (defScope s__law_take) [] [] a__law_take d__law_take
  g__law_take : mg "_law_take" = some (.ref a__law_take)
  a__law_is_number : Addr
  d__law_is_number : FuncData
  F__law_is_number : FunD K "_law_is_number" "_law_is_number" (defArgs s__law_is_number) (defBody s__law_is_number) (defScope s__law_is_number) [] [] a__law_is_number d__law_is_number
  g__law_is_number : mg "_law_is_number" = some (.ref a__law_is_number)
  a__law_number : Addr
  d__law_number : FuncData
  F__law_number : FunD K "_law_number" "_law_number" (defArgs s__law_number) (defBody s__law_number) (defScope s__law_number) [] [] a__law_number d__law_number
  g__law_number : mg "_law_number" = some (.ref a__law_number)
  a__law_count : Addr
  d__law_count : FuncData
  F__law_count : FunD K "_law_count" "_law_count" (defArgs s__law_count) (defBody s__law_count) (defScope s__law_count) [] [] a__law_count d__law_count
  g__law_count : mg "_law_count" = some (.ref a__law_count)
  a__law_order : Addr
  d__law_order : FuncData
  F__law_order : FunD K "_law_order" "_law_order" (defArgs s__law_order) (defBody s__law_order) (defScope s__law_order) [] [] a__law_order d__law_order
  g__law_order : mg "_law_order" = some (.ref a__law_order)
  a__law_pair : Addr
  d__law_pair : FuncData
  F__law_pair : FunD K "_law_pair" "_law_pair" (defArgs s__law_pair) (defBody s__law_pair) (defScope s__law_pair) [] [] a__law_pair d__law_pair
  g__law_pair : mg "_law_pair" = some (.ref a__law_pair)
  a__law_around : Addr
  d__law_around : FuncData
  F__law_around : FunD K "_law_around" "_law_around" (defArgs s__law_around) (defBody s__law_around) (defScope s__law_around) [] [] a__law_around d__law_around
  g__law_around : mg "_law_around" = some (.ref a__law_around)
  a__law_stairs : Addr
  d__law_stairs : FuncData
  F__law_stairs : FunD K "_law_stairs" "_law_stairs" (defArgs s__law_stairs) (defBody s__law_stairs) (defScope s__law_stairs) [] [] a__law_stairs d__law_stairs
  g__law_stairs : mg "_law_stairs" = some (.ref a__law_stairs)
  a__law_system : Addr
  d__law_system : FuncData
  F__law_system : FunD K "_law_system" "_law_system" (defArgs s__law_system) (defBody s__law_system) (defScope s__law_system) [] [] a__law_system d__law_system
  g__law_system : mg "_law_system" = some (.ref a__law_system)
  a__law_cycle : Addr
  d__law_cycle : FuncData
  F__law_cycle : FunD K "_law_cycle" "_law_cycle" (defArgs s__law_cycle) (defBody s__law_cycle) (defScope s__law_cycle) [] [] a__law_cycle d__law_cycle
  g__law_cycle : mg "_law_cycle" = some (.ref a__law_cycle)
  a__law_mixed : Addr
  d__law_mixed : FuncData
  F__law_mixed : FunD K "_law_mixed" "_law_mixed" (defArgs s__law_mixed) (defBody s__law_mixed) (defScope s__law_mixed) [] [] a__law_mixed d__law_mixed
  g__law_mixed : mg "_law_mixed" = some (.ref a__law_mixed)
  a__law_wrong_limit : Addr
  d__law_wrong_limit : FuncData
  F__law_wrong_limit : FunD K "_law_wrong_limit" "_law_wrong_limit" (defArgs s__law_wrong_limit) (defBody s__law_wrong_limit) (defScope s__law_wrong_limit) [] [] a__law_wrong_limit d__law_wrong_limit
  g__law_wrong_limit : mg "_law_wrong_limit" = some (.ref a__law_wrong_limit)
  a__law_solves : Addr
  d__law_solves : FuncData
  F__law_solves : FunD K "_law_solves" "_law_solves" (defArgs s__law_solves) (defBody s__law_solves) (defScope s__law_solves) [] [] a__law_solves d__law_solves
  g__law_solves : mg "_law_solves" = some (.ref a__law_solves)
  a__law_is_bad_cycle : Addr
  d__law_is_bad_cycle : FuncData
  F__law_is_bad_cycle : FunD K "_law_is_bad_cycle" "_law_is_bad_cycle" (defArgs s__law_is_bad_cycle) (defBody s__law_is_bad_cycle) (defScope s__law_is_bad_cycle) [] [] a__law_is_bad_cycle d__law_is_bad_cycle
  g__law_is_bad_cycle : mg "_law_is_bad_cycle" = some (.ref a__law_is_bad_cycle)
  a__law_answers : Addr
  d__law_answers : FuncData
  F__law_answers : FunD K "_law_answers" "_law_answers" (defArgs s__law_answers) (defBody s__law_answers) (defScope s__law_answers) [] [] a__law_answers d__law_answers
  g__law_answers : mg "_law_answers" = some (.ref a__law_answers)
  a__law_same_bound : Addr
  d__law_same_bound : FuncData
  F__law_same_bound : FunD K "_law_same_bound" "_law_same_bound" (defArgs s__law_same_bound) (defBody s__law_same_bound) (defScope s__law_same_bound) [] [] a__law_same_bound d__law_same_bound
  g__law_same_bound : mg "_law_same_bound" = some (.ref a__law_same_bound)
  a__law_least : Addr
  d__law_least : FuncData
  F__law_least : FunD K "_law_least" "_law_least" (defArgs s__law_least) (defBody s__law_least) (defScope s__law_least) [] [] a__law_least d__law_least
  g__law_least : mg "_law_least" = some (.ref a__law_least)
  a__law_span_is : Addr
  d__law_span_is : FuncData
  F__law_span_is : FunD K "_law_span_is" "_law_span_is" (defArgs s__law_span_is) (defBody s__law_span_is) (defScope s__law_span_is) [] [] a__law_span_is d__law_span_is
  g__law_span_is : mg "_law_span_is" = some (.ref a__law_span_is)
  a__law_end_exact : Addr
  d__law_end_exact : FuncData
  F__law_end_exact : FunD K "_law_end_exact" "_law_end_exact" (defArgs s__law_end_exact) (defBody s__law_end_exact) (defScope s__law_end_exact) [] [] a__law_end_exact d__law_end_exact
  g__law_end_exact : mg "_law_end_exact" = some (.ref a__law_end_exact)
  a__law_unsolvable : Addr
  d__law_unsolvable : FuncData
  F__law_unsolvable : FunD K "_law_unsolvable" "_law_unsolvable" (defArgs s__law_unsolvable) (defBody s__law_unsolvable) (defScope s__law_unsolvable) [] [] a__law_unsolvable d__law_unsolvable
  g__law_unsolvable : mg "_law_unsolvable" = some (.ref a__law_unsolvable)
  a__law_refuses : Addr
  d__law_refuses : FuncData
  F__law_refuses : FunD K "_law_refuses" "_law_refuses" (defArgs s__law_refuses) (defBody s__law_refuses) (defScope s__law_refuses) [] [] a__law_refuses d__law_refuses
  g__law_refuses : mg "_law_refuses" = some (.ref a__law_refuses)
  a__law_bound : Addr
  d__law_bound : FuncData
  F__law_bound : FunD K "_law_bound" "_law_bound" (defArgs s__law_bound) (defBody s__law_bound) (defScope s__law_bound) [] [] a__law_bound d__law_bound
  g__law_bound : mg "_law_bound" = some (.ref a__law_bound)
  a__law_bounds_right : Addr
  d__law_bounds_right : FuncData
  F__law_bounds_right : FunD K "_law_bounds_right" "_law_bounds_right" (defArgs s__law_bounds_right) (defBody s__law_bounds_right) (defScope s__law_bounds_right) [] [] a__law_bounds_right d__law_bounds_right
  g__law_bounds_right : mg "_law_bounds_right" = some (.ref a__law_bounds_right)
  a__law_gcd : Addr
  d__law_gcd : FuncData
  F__law_gcd : FunD K "_law_gcd" "_law_gcd" (defArgs s__law_gcd) (defBody s__law_gcd) (defScope s__law_gcd) [] [] a__law_gcd d__law_gcd
  g__law_gcd : mg "_law_gcd" = some (.ref a__law_gcd)
  a__law_lowest_right : Addr
  d__law_lowest_right : FuncData
  F__law_lowest_right : FunD K "_law_lowest_right" "_law_lowest_right" (defArgs s__law_lowest_right) (defBody s__law_lowest_right) (defScope s__law_lowest_right) [] [] a__law_lowest_right d__law_lowest_right
  g__law_lowest_right : mg "_law_lowest_right" = some (.ref a__law_lowest_right)
  a_law : Addr
  d_law : FuncData
  F_law : FunD K "law" "law" (defArgs s_law) (defBody s_law) (defScope s_law) [] [] a_law d_law
  g_law : mg "law" = some (.ref a_law)
  z_ValueError : mg "ValueError" = none
  z_abs : mg "abs" = none
  z_bool : mg "bool" = none
  z_enumerate : mg "enumerate" = none
  z_int : mg "int" = none
  z_isinstance : mg "isinstance" = none
  z_len : mg "len" = none
  z_list : mg "list" = none
  z_min : mg "min" = none
  z_range : mg "range" = none
  z_str : mg "str" = none
  z_super : mg "super" = none
  z_tuple : mg "tuple" = none
  c_BadLimit : Addr
  gc_BadLimit : mg "BadLimit" = some (.ref c_BadLimit)
  f_BadLimit : Addr
  fd_BadLimit : FuncData
  e_BadLimit : ErrI K P c_BadLimit f_BadLimit fd_BadLimit "BadLimit.__init__" (defArgs s_BadLimit___init__) (defBody s_BadLimit___init__) (defScope s_BadLimit___init__) ["place"]
  c_Unsolvable : Addr
  gc_Unsolvable : mg "Unsolvable" = some (.ref c_Unsolvable)
  f_Unsolvable : Addr
  fd_Unsolvable : FuncData
  e_Unsolvable : ErrI K P c_Unsolvable f_Unsolvable fd_Unsolvable "Unsolvable.__init__" (defArgs s_Unsolvable___init__) (defBody s_Unsolvable___init__) (defScope s_Unsolvable___init__) ["chain"]
  c_BadVariable : Addr
  gc_BadVariable : mg "BadVariable" = some (.ref c_BadVariable)
  p_BadVariable : ErrP K c_BadVariable
  c_BadValue : Addr
  gc_BadValue : mg "BadValue" = some (.ref c_BadValue)
  p_BadValue : ErrP K c_BadValue
  c_DwellError : Addr
  gc_DwellError : mg "DwellError" = some (.ref c_DwellError)
  em_BadLimit_DwellError : PySem.W.exmOne K (.ref c_BadLimit) (.ref c_DwellError) = some true
  em_Unsolvable_DwellError : PySem.W.exmOne K (.ref c_Unsolvable) (.ref c_DwellError) = some true
  em_BadVariable_DwellError : PySem.W.exmOne K (.ref c_BadVariable) (.ref c_DwellError) = some true
  em_BadValue_DwellError : PySem.W.exmOne K (.ref c_BadValue) (.ref c_DwellError) = some true
  k_BadLimit_BadLimit : PySem.W.kitOne K (.ref c_BadLimit) (.ref c_BadLimit) = some true
  k_BadLimit_BadVariable : PySem.W.kitOne K (.ref c_BadLimit) (.ref c_BadVariable) = some false
  k_BadLimit_Unsolvable : PySem.W.kitOne K (.ref c_BadLimit) (.ref c_Unsolvable) = some false
  k_Unsolvable_Unsolvable : PySem.W.kitOne K (.ref c_Unsolvable) (.ref c_Unsolvable) = some true
  k_Unsolvable_BadLimit : PySem.W.kitOne K (.ref c_Unsolvable) (.ref c_BadLimit) = some false
  k_Unsolvable_BadVariable : PySem.W.kitOne K (.ref c_Unsolvable) (.ref c_BadVariable) = some false
  k_BadVariable_BadVariable : PySem.W.kitOne K (.ref c_BadVariable) (.ref c_BadVariable) = some true
  k_BadVariable_BadLimit : PySem.W.kitOne K (.ref c_BadVariable) (.ref c_BadLimit) = some false
  k_BadVariable_Unsolvable : PySem.W.kitOne K (.ref c_BadVariable) (.ref c_Unsolvable) = some false
  k_BadVariable_BadValue : PySem.W.kitOne K (.ref c_BadVariable) (.ref c_BadValue) = some false
  k_BadValue_BadValue : PySem.W.kitOne K (.ref c_BadValue) (.ref c_BadValue) = some true
  k_BadValue_BadLimit : PySem.W.kitOne K (.ref c_BadValue) (.ref c_BadLimit) = some false
  k_BadValue_BadVariable : PySem.W.kitOne K (.ref c_BadValue) (.ref c_BadVariable) = some false
  k_BadValue_Unsolvable : PySem.W.kitOne K (.ref c_BadValue) (.ref c_Unsolvable) = some false
  kt_BadLimit_ValueError : PySem.W.kitOne K (.ref c_BadLimit) (.type "ValueError") = some true
  kt_Unsolvable_ValueError : PySem.W.kitOne K (.ref c_Unsolvable) (.type "ValueError") = some true
  kt_BadVariable_ValueError : PySem.W.kitOne K (.ref c_BadVariable) (.type "ValueError") = some true
  ec_BadLimit : ExcC K c_BadLimit
  ec_Unsolvable : ExcC K c_Unsolvable
  ec_BadVariable : ExcC K c_BadVariable
  ec_BadValue : ExcC K c_BadValue
  na_BadLimit_place : PySem.W.findIn K (.ref c_BadLimit) "place" = some none
  na_Unsolvable_chain : PySem.W.findIn K (.ref c_Unsolvable) "chain" = some none
  ptop : (P.main.scope.names.lookup ("super" : Str)).isSome = false
  g_gcd : mg "gcd" = some (.builtin "math.gcd")

section
variable {P : Program} {w : World} {K : PySem.W.Frag} {mg : Str → Option Value} {base : Heap}
theorem b_plus {f : Addr} {fd : FuncData} (F : FunD K "plus" "plus" (defArgs s_plus) (defBody s_plus) (defScope s_plus) [] [] f fd) : Binds K fd ["first", "second"] [] := F.bindsN fun _ _ _ _ _ _ us hl => match us, hl with | [_, _], _ => rfl
theorem b_less {f : Addr} {fd : FuncData} (F : FunD K "less" "less" (defArgs s_less) (defBody s_less) (defScope s_less) [] [] f fd) : Binds K fd ["first", "second"] [] := F.bindsN fun _ _ _ _ _ _ us hl => match us, hl with | [_, _], _ => rfl
theorem b_tighter {f : Addr} {fd : FuncData} (F : FunD K "tighter" "tighter" (defArgs s_tighter) (defBody s_tighter) (defScope s_tighter) [] [] f fd) : Binds K fd ["first", "second"] [] := F.bindsN fun _ _ _ _ _ _ us hl => match us, hl with | [_, _], _ => rfl
theorem b_admits {f : Addr} {fd : FuncData} (F : FunD K "admits" "admits" (defArgs s_admits) (defBody s_admits) (defScope s_admits) [] [] f fd) : Binds K fd ["bound", "unit", "ticks"] [] := F.bindsN fun _ _ _ _ _ _ us hl => match us, hl with | [_, _, _], _ => rfl
theorem b_lowest {f : Addr} {fd : FuncData} (F : FunD K "lowest" "lowest" (defArgs s_lowest) (defBody s_lowest) (defScope s_lowest) [] [] f fd) : Binds K fd ["n", "d"] [] := F.bindsN fun _ _ _ _ _ _ us hl => match us, hl with | [_, _], _ => rfl
theorem b_check_limits {f : Addr} {fd : FuncData} (F : FunD K "check_limits" "check_limits" (defArgs s_check_limits) (defBody s_check_limits) (defScope s_check_limits) [] [] f fd) : Binds K fd ["count", "limits"] [] := F.bindsN fun _ _ _ _ _ _ us hl => match us, hl with | [_, _], _ => rfl
theorem b_solve {f : Addr} {fd : FuncData} (F : FunD K "solve" "solve" (defArgs s_solve) (defBody s_solve) (defScope s_solve) [] [] f fd) : Binds K fd ["count", "limits"] [] := F.bindsN fun _ _ _ _ _ _ us hl => match us, hl with | [_, _], _ => rfl
theorem b_solution_of {f : Addr} {fd : FuncData} (F : FunD K "solution_of" "solution_of" (defArgs s_solution_of) (defBody s_solution_of) (defScope s_solution_of) [] [] f fd) : Binds K fd ["unit", "sums"] [] := F.bindsN fun _ _ _ _ _ _ us hl => match us, hl with | [_, _], _ => rfl
theorem b_cycle_behind {f : Addr} {fd : FuncData} (F : FunD K "cycle_behind" "cycle_behind" (defArgs s_cycle_behind) (defBody s_cycle_behind) (defScope s_cycle_behind) [] [] f fd) : Binds K fd ["limits", "back", "at"] [] := F.bindsN fun _ _ _ _ _ _ us hl => match us, hl with | [_, _, _], _ => rfl
theorem b_least_sums {f : Addr} {fd : FuncData} (F : FunD K "least_sums" "least_sums" (defArgs s_least_sums) (defBody s_least_sums) (defScope s_least_sums) [] [] f fd) : Binds K fd ["count", "limits", "root"] [] := F.bindsN fun _ _ _ _ _ _ us hl => match us, hl with | [_, _, _], _ => rfl
theorem b_span {f : Addr} {fd : FuncData} (F : FunD K "span" "span" (defArgs s_span) (defBody s_span) (defScope s_span) [] [] f fd) : Binds K fd ["count", "limits", "late", "early"] [] := F.bindsN fun _ _ _ _ _ _ us hl => match us, hl with | [_, _, _, _], _ => rfl
theorem b__law_bag {f : Addr} {fd : FuncData} (F : FunD K "_law_bag" "_law_bag" (defArgs s__law_bag) (defBody s__law_bag) (defScope s__law_bag) [] [] f fd) : Binds K fd ["script"] [] := F.bindsN fun _ _ _ _ _ _ us hl => match us, hl with | [_], _ => rfl
theorem b__law_take {f : Addr} {fd : FuncData} (F : FunD K "_law_take" "_law_take" (defArgs s__law_take) (defBody s__law_take) (defScope s__law_take) [] [] f fd) : Binds K fd ["bag", "many"] [] := F.bindsN fun _ _ _ _ _ _ us hl => match us, hl with | [_, _], _ => rfl
theorem b__law_is_number {f : Addr} {fd : FuncData} (F : FunD K "_law_is_number" "_law_is_number" (defArgs s__law_is_number) (defBody s__law_is_number) (defScope s__law_is_number) [] [] f fd) : Binds K fd ["value"] [] := F.bindsN fun _ _ _ _ _ _ us hl => match us, hl with | [_], _ => rfl
theorem b__law_number {f : Addr} {fd : FuncData} (F : FunD K "_law_number" "_law_number" (defArgs s__law_number) (defBody s__law_number) (defScope s__law_number) [] [] f fd) : Binds K fd ["bag", "scale"] [] := F.bindsN fun _ _ _ _ _ _ us hl => match us, hl with | [_, _], _ => rfl
theorem b__law_count {f : Addr} {fd : FuncData} (F : FunD K "_law_count" "_law_count" (defArgs s__law_count) (defBody s__law_count) (defScope s__law_count) [] [] f fd) : Binds K fd ["bag"] [] := F.bindsN fun _ _ _ _ _ _ us hl => match us, hl with | [_], _ => rfl
theorem b__law_order {f : Addr} {fd : FuncData} (F : FunD K "_law_order" "_law_order" (defArgs s__law_order) (defBody s__law_order) (defScope s__law_order) [] [] f fd) : Binds K fd ["bag", "count"] [] := F.bindsN fun _ _ _ _ _ _ us hl => match us, hl with | [_, _], _ => rfl
theorem b__law_pair {f : Addr} {fd : FuncData} (F : FunD K "_law_pair" "_law_pair" (defArgs s__law_pair) (defBody s__law_pair) (defScope s__law_pair) [] [] f fd) : Binds K fd ["bag", "many"] [] := F.bindsN fun _ _ _ _ _ _ us hl => match us, hl with | [_, _], _ => rfl
theorem b__law_around {f : Addr} {fd : FuncData} (F : FunD K "_law_around" "_law_around" (defArgs s__law_around) (defBody s__law_around) (defScope s__law_around) [] [] f fd) : Binds K fd ["bag", "unit", "secret", "i", "j"] [] := F.bindsN fun _ _ _ _ _ _ us hl => match us, hl with | [_, _, _, _, _], _ => rfl
theorem b__law_stairs {f : Addr} {fd : FuncData} (F : FunD K "_law_stairs" "_law_stairs" (defArgs s__law_stairs) (defBody s__law_stairs) (defScope s__law_stairs) [] [] f fd) : Binds K fd ["bag", "count", "scale"] [] := F.bindsN fun _ _ _ _ _ _ us hl => match us, hl with | [_, _, _], _ => rfl
theorem b__law_system {f : Addr} {fd : FuncData} (F : FunD K "_law_system" "_law_system" (defArgs s__law_system) (defBody s__law_system) (defScope s__law_system) [] [] f fd) : Binds K fd ["bag", "count", "scale"] [] := F.bindsN fun _ _ _ _ _ _ us hl => match us, hl with | [_, _, _], _ => rfl
theorem b__law_cycle {f : Addr} {fd : FuncData} (F : FunD K "_law_cycle" "_law_cycle" (defArgs s__law_cycle) (defBody s__law_cycle) (defScope s__law_cycle) [] [] f fd) : Binds K fd ["bag", "count", "scale"] [] := F.bindsN fun _ _ _ _ _ _ us hl => match us, hl with | [_, _, _], _ => rfl
theorem b__law_mixed {f : Addr} {fd : FuncData} (F : FunD K "_law_mixed" "_law_mixed" (defArgs s__law_mixed) (defBody s__law_mixed) (defScope s__law_mixed) [] [] f fd) : Binds K fd ["bag", "rows", "more"] [] := F.bindsN fun _ _ _ _ _ _ us hl => match us, hl with | [_, _, _], _ => rfl
theorem b__law_wrong_limit {f : Addr} {fd : FuncData} (F : FunD K "_law_wrong_limit" "_law_wrong_limit" (defArgs s__law_wrong_limit) (defBody s__law_wrong_limit) (defScope s__law_wrong_limit) [] [] f fd) : Binds K fd ["bag", "count"] [] := F.bindsN fun _ _ _ _ _ _ us hl => match us, hl with | [_, _], _ => rfl
theorem b__law_solves {f : Addr} {fd : FuncData} (F : FunD K "_law_solves" "_law_solves" (defArgs s__law_solves) (defBody s__law_solves) (defScope s__law_solves) [] [] f fd) : Binds K fd ["answer", "count", "rows"] [] := F.bindsN fun _ _ _ _ _ _ us hl => match us, hl with | [_, _, _], _ => rfl
theorem b__law_is_bad_cycle {f : Addr} {fd : FuncData} (F : FunD K "_law_is_bad_cycle" "_law_is_bad_cycle" (defArgs s__law_is_bad_cycle) (defBody s__law_is_bad_cycle) (defScope s__law_is_bad_cycle) [] [] f fd) : Binds K fd ["chain", "rows"] [] := F.bindsN fun _ _ _ _ _ _ us hl => match us, hl with | [_, _], _ => rfl
theorem b__law_answers {f : Addr} {fd : FuncData} (F : FunD K "_law_answers" "_law_answers" (defArgs s__law_answers) (defBody s__law_answers) (defScope s__law_answers) [] [] f fd) : Binds K fd ["count", "rows", "good"] [] := F.bindsN fun _ _ _ _ _ _ us hl => match us, hl with | [_, _, _], _ => rfl
theorem b__law_same_bound {f : Addr} {fd : FuncData} (F : FunD K "_law_same_bound" "_law_same_bound" (defArgs s__law_same_bound) (defBody s__law_same_bound) (defScope s__law_same_bound) [] [] f fd) : Binds K fd ["told", "due"] [] := F.bindsN fun _ _ _ _ _ _ us hl => match us, hl with | [_, _], _ => rfl
theorem b__law_least {f : Addr} {fd : FuncData} (F : FunD K "_law_least" "_law_least" (defArgs s__law_least) (defBody s__law_least) (defScope s__law_least) [] [] f fd) : Binds K fd ["count", "rows", "root"] [] := F.bindsN fun _ _ _ _ _ _ us hl => match us, hl with | [_, _, _], _ => rfl
theorem b__law_span_is {f : Addr} {fd : FuncData} (F : FunD K "_law_span_is" "_law_span_is" (defArgs s__law_span_is) (defBody s__law_span_is) (defScope s__law_span_is) [] [] f fd) : Binds K fd ["count", "rows", "late", "early", "under", "over"] [] := F.bindsN fun _ _ _ _ _ _ us hl => match us, hl with | [_, _, _, _, _, _], _ => rfl
theorem b__law_end_exact {f : Addr} {fd : FuncData} (F : FunD K "_law_end_exact" "_law_end_exact" (defArgs s__law_end_exact) (defBody s__law_end_exact) (defScope s__law_end_exact) [] [] f fd) : Binds K fd ["bag", "count", "rows", "a", "b", "end"] [] := F.bindsN fun _ _ _ _ _ _ us hl => match us, hl with | [_, _, _, _, _, _], _ => rfl
theorem b__law_unsolvable {f : Addr} {fd : FuncData} (F : FunD K "_law_unsolvable" "_law_unsolvable" (defArgs s__law_unsolvable) (defBody s__law_unsolvable) (defScope s__law_unsolvable) [] [] f fd) : Binds K fd ["count", "rows", "late", "early"] [] := F.bindsN fun _ _ _ _ _ _ us hl => match us, hl with | [_, _, _, _], _ => rfl
theorem b__law_refuses {f : Addr} {fd : FuncData} (F : FunD K "_law_refuses" "_law_refuses" (defArgs s__law_refuses) (defBody s__law_refuses) (defScope s__law_refuses) [] [] f fd) : Binds K fd ["bag", "count", "rows", "late", "early"] [] := F.bindsN fun _ _ _ _ _ _ us hl => match us, hl with | [_, _, _, _, _], _ => rfl
theorem b__law_bound {f : Addr} {fd : FuncData} (F : FunD K "_law_bound" "_law_bound" (defArgs s__law_bound) (defBody s__law_bound) (defScope s__law_bound) [] [] f fd) : Binds K fd ["bag", "scale"] [] := F.bindsN fun _ _ _ _ _ _ us hl => match us, hl with | [_, _], _ => rfl
theorem b__law_bounds_right {f : Addr} {fd : FuncData} (F : FunD K "_law_bounds_right" "_law_bounds_right" (defArgs s__law_bounds_right) (defBody s__law_bounds_right) (defScope s__law_bounds_right) [] [] f fd) : Binds K fd ["bag", "scale"] [] := F.bindsN fun _ _ _ _ _ _ us hl => match us, hl with | [_, _], _ => rfl
theorem b__law_gcd {f : Addr} {fd : FuncData} (F : FunD K "_law_gcd" "_law_gcd" (defArgs s__law_gcd) (defBody s__law_gcd) (defScope s__law_gcd) [] [] f fd) : Binds K fd ["a", "b"] [] := F.bindsN fun _ _ _ _ _ _ us hl => match us, hl with | [_, _], _ => rfl
theorem b__law_lowest_right {f : Addr} {fd : FuncData} (F : FunD K "_law_lowest_right" "_law_lowest_right" (defArgs s__law_lowest_right) (defBody s__law_lowest_right) (defScope s__law_lowest_right) [] [] f fd) : Binds K fd ["bag", "scale"] [] := F.bindsN fun _ _ _ _ _ _ us hl => match us, hl with | [_, _], _ => rfl
theorem b_law {f : Addr} {fd : FuncData} (F : FunD K "law" "law" (defArgs s_law) (defBody s_law) (defScope s_law) [] [] f fd) : Binds K fd ["script"] [] := F.bindsN fun _ _ _ _ _ _ us hl => match us, hl with | [_], _ => rfl
theorem b_BadLimit___init__ {C f : Addr} {fd : FuncData} (F : FunS K P "__init__" "BadLimit.__init__" (defArgs s_BadLimit___init__) (defBody s_BadLimit___init__) (defScope s_BadLimit___init__) C f fd) : Binds K fd ["self", "place"] [] := by
  obtain ⟨_, _, _, _, _, _, _, _, _, _, rfl, _⟩ := F.ex
  exact Binds.all fun us hl => match us, hl with | [_, _], _ => rfl
theorem ok_BadLimit___init__ (T : Tx P K mg) : FnOk P w K mg base CX0 1 T.f_BadLimit T.fd_BadLimit ["self", "place"] (spE K T.c_BadLimit ["place"]) := by
  obtain ⟨oc, od, kV, doc, pm, an, cda, cc, ct, osl, e, lk, hcd, SC⟩ := T.e_BadLimit.F.ex
  rw [e] at lk ⊢
  refine fn_super (k := 0) lk hcd sc_BadLimit___init__ SC T.e_BadLimit.o T.z_super T.ptop rfl rfl (spE_len rfl) (fun _ => rfl) (fun _ => rfl) (fun _ => rfl) (fun _ => rfl) (fun _ => rfl) (fun A outer s H vs Q E hr h => ?_)
  obtain ⟨a, ws, rfl, hl, fm, ha, q⟩ := h
  match ws, hl, fm, q with
  | [v0], _, fm, q =>
  refine ⟨_, _, a, pa_cons (pe_joined (PJ.cons pe_str (PJ.cons (pe_fmt (pv 1)) (PJ.cons pe_str PJ.nil)))) pa_nil, (pss_one (ps_ost (pv 0) (pv 1))), rfl, ha, js_ok (fun t ht => ?_) (by decide) (fun out => ⟨show 1 ≤ 1000 by decide, ha, ?_⟩)⟩
  · simp only [List.mem_cons, List.not_mem_nil, or_false] at ht
    rcases ht with rfl | rfl | rfl
    · exact part_c (by decide)
    · exact part_f rfl (fm _ (by simp))
    · exact part_c (by decide)
  · exact ost1 T.e_BadLimit.o (T.e_BadLimit.n _ (by simp)) rfl rfl ha fun dx h1 h2 => q dx h1 h2
theorem b_Unsolvable___init__ {C f : Addr} {fd : FuncData} (F : FunS K P "__init__" "Unsolvable.__init__" (defArgs s_Unsolvable___init__) (defBody s_Unsolvable___init__) (defScope s_Unsolvable___init__) C f fd) : Binds K fd ["self", "chain"] [] := by
  obtain ⟨_, _, _, _, _, _, _, _, _, _, rfl, _⟩ := F.ex
  exact Binds.all fun us hl => match us, hl with | [_, _], _ => rfl
theorem ok_Unsolvable___init__ (T : Tx P K mg) : FnOk P w K mg base CX0 1 T.f_Unsolvable T.fd_Unsolvable ["self", "chain"] (spL K T.c_Unsolvable "chain") := by
  obtain ⟨oc, od, kV, doc, pm, an, cda, cc, ct, osl, e, lk, hcd, SC⟩ := T.e_Unsolvable.F.ex
  rw [e] at lk ⊢
  refine fn_super (k := 0) lk hcd sc_Unsolvable___init__ SC T.e_Unsolvable.o T.z_super T.ptop rfl rfl spL_len (fun _ => rfl) (fun _ => rfl) (fun _ => rfl) (fun _ => rfl) (fun _ => rfl) (fun A outer s H vs Q E hr h => ?_)
  obtain ⟨a, l, ws, rfl, hl, ha, q⟩ := h
  refine ⟨_, _, a, pa_cons pe_str pa_nil, (pss_one (ps_ost (pv 0) (pe_callTy call_list_of (by rfl) T.z_list (by decide +kernel) (pa_cons (pv 1) pa_nil)))), rfl, ha, ⟨show 1 ≤ 1000 by decide, ha, ⟨_, rfl, l, ws, rfl, .inl hl, fun p hp => ⟨_, rfl, a, T.c_Unsolvable, rfl, T.e_Unsolvable.o, T.e_Unsolvable.n _ (by simp), .inl ⟨(upd_ne (fun x => by rw [← x, ha] at hp; cases hp)).trans ha, fun dx h1 h2 => q p hp dx h1 h2⟩⟩⟩⟩⟩
end
end K00

namespace K00
open PySem
open _root_.L2
open Dw
def loose0 : List Str := ["DwellError", "BadVariable", "BadValue", "BadLimit", "Unsolvable", "plus", "less", "tighter", "admits", "lowest", "check_limits", "solve"]
def loose1 : List Str := ["solution_of", "cycle_behind", "least_sums", "span", "_law_bag", "_law_take", "_law_is_number", "_law_number", "_law_count", "_law_order", "_law_pair", "_law_around"]
def loose2 : List Str := ["_law_stairs", "_law_system", "_law_cycle", "_law_mixed", "_law_wrong_limit", "_law_solves", "_law_is_bad_cycle", "_law_answers", "_law_same_bound", "_law_least", "_law_span_is", "_law_end_exact"]
def loose3 : List Str := ["_law_unsolvable", "_law_refuses", "_law_bound", "_law_bounds_right", "_law_gcd", "_law_lowest_right"]
def loose : List Str := loose0 ++ loose1 ++ loose2 ++ loose3
def dd_plus : He.DefD := ⟨("plus", none), "plus", "plus", defArgs s_plus, defBody s_plus, defScope s_plus, [], []⟩
def dd_less : He.DefD := ⟨("less", none), "less", "less", defArgs s_less, defBody s_less, defScope s_less, [], []⟩
def dd_tighter : He.DefD := ⟨("tighter", none), "tighter", "tighter", defArgs s_tighter, defBody s_tighter, defScope s_tighter, [], []⟩
def dd_admits : He.DefD := ⟨("admits", none), "admits", "admits", defArgs s_admits, defBody s_admits, defScope s_admits, [], []⟩
def dd_lowest : He.DefD := ⟨("lowest", none), "lowest", "lowest", defArgs s_lowest, defBody s_lowest, defScope s_lowest, [], []⟩
def dd_check_limits : He.DefD := ⟨("check_limits", none), "check_limits", "check_limits", defArgs s_check_limits, defBody s_check_limits, defScope s_check_limits, [], []⟩
def dd_solve : He.DefD := ⟨("solve", none), "solve", "solve", defArgs s_solve, defBody s_solve, defScope s_solve, [], []⟩
def dd_solution_of : He.DefD := ⟨("solution_of", none), "solution_of", "solution_of", defArgs s_solution_of, defBody s_solution_of, defScope s_solution_of, [], []⟩
def dd_cycle_behind : He.DefD := ⟨("cycle_behind", none), "cycle_behind", "cycle_behind", defArgs s_cycle_behind, defBody s_cycle_behind, defScope s_cycle_behind, [], []⟩
def dd_least_sums : He.DefD := ⟨("least_sums", none), "least_sums", "least_sums", defArgs s_least_sums, defBody s_least_sums, defScope s_least_sums, [], []⟩
def dd_span : He.DefD := ⟨("span", none), "span", "span", defArgs s_span, defBody s_span, defScope s_span, [], []⟩
def dd__law_bag : He.DefD := ⟨("_law_bag", none), "_law_bag", "_law_bag", defArgs s__law_bag, defBody s__law_bag, defScope s__law_bag, [], []⟩
def dd__law_take : He.DefD := ⟨("_law_take", none), "_law_take", "_law_take", defArgs s__law_take, defBody s__law_take, defScope s__law_take, [], []⟩
def dd__law_is_number : He.DefD := ⟨("_law_is_number", none), "_law_is_number", "_law_is_number", defArgs s__law_is_number, defBody s__law_is_number, defScope s__law_is_number, [], []⟩
def dd__law_number : He.DefD := ⟨("_law_number", none), "_law_number", "_law_number", defArgs s__law_number, defBody s__law_number, defScope s__law_number, [], []⟩
def dd__law_count : He.DefD := ⟨("_law_count", none), "_law_count", "_law_count", defArgs s__law_count, defBody s__law_count, defScope s__law_count, [], []⟩
def dd__law_order : He.DefD := ⟨("_law_order", none), "_law_order", "_law_order", defArgs s__law_order, defBody s__law_order, defScope s__law_order, [], []⟩
def dd__law_pair : He.DefD := ⟨("_law_pair", none), "_law_pair", "_law_pair", defArgs s__law_pair, defBody s__law_pair, defScope s__law_pair, [], []⟩
def dd__law_around : He.DefD := ⟨("_law_around", none), "_law_around", "_law_around", defArgs s__law_around, defBody s__law_around, defScope s__law_around, [], []⟩
def dd__law_stairs : He.DefD := ⟨("_law_stairs", none), "_law_stairs", "_law_stairs", defArgs s__law_stairs, defBody s__law_stairs, defScope s__law_stairs, [], []⟩
def dd__law_system : He.DefD := ⟨("_law_system", none), "_law_system", "_law_system", defArgs s__law_system, defBody s__law_system, defScope s__law_system, [], []⟩
def dd__law_cycle : He.DefD := ⟨("_law_cycle", none), "_law_cycle", "_law_cycle", defArgs s__law_cycle, defBody s__law_cycle, defScope s__law_cycle, [], []⟩
def dd__law_mixed : He.DefD := ⟨("_law_mixed", none), "_law_mixed", "_law_mixed", defArgs s__law_mixed, defBody s__law_mixed, defScope s__law_mixed, [], []⟩
def dd__law_wrong_limit : He.DefD := ⟨("_law_wrong_limit", none), "_law_wrong_limit", "_law_wrong_limit", defArgs s__law_wrong_limit, defBody s__law_wrong_limit, defScope s__law_wrong_limit, [], []⟩
def dd__law_solves : He.DefD := ⟨("_law_solves", none), "_law_solves", "_law_solves", defArgs s__law_solves, defBody s__law_solves, defScope s__law_solves, [], []⟩
def dd__law_is_bad_cycle : He.DefD := ⟨("_law_is_bad_cycle", none), "_law_is_bad_cycle", "_law_is_bad_cycle", defArgs s__law_is_bad_cycle, defBody s__law_is_bad_cycle, defScope s__law_is_bad_cycle, [], []⟩
def dd__law_answers : He.DefD := ⟨("_law_answers", none), "_law_answers", "_law_answers", defArgs s__law_answers, defBody s__law_answers, defScope s__law_answers, [], []⟩
def dd__law_same_bound : He.DefD := ⟨("_law_same_bound", none), "_law_same_bound", "_law_same_bound", defArgs s__law_same_bound, defBody s__law_same_bound, defScope s__law_same_bound, [], []⟩
def dd__law_least : He.DefD := ⟨("_law_least", none), "_law_least", "_law_least", defArgs s__law_least, defBody s__law_least, defScope s__law_least, [], []⟩
def dd__law_span_is : He.DefD := ⟨("_law_span_is", none), "_law_span_is", "_law_span_is", defArgs s__law_span_is, defBody s__law_span_is, defScope s__law_span_is, [], []⟩
def dd__law_end_exact : He.DefD := ⟨("_law_end_exact", none), "_law_end_exact", "_law_end_exact", defArgs s__law_end_exact, defBody s__law_end_exact, defScope s__law_end_exact, [], []⟩
def dd__law_unsolvable : He.DefD := ⟨("_law_unsolvable", none), "_law_unsolvable", "_law_unsolvable", defArgs s__law_unsolvable, defBody s__law_unsolvable, defScope s__law_unsolvable, [], []⟩
def dd__law_refuses : He.DefD := ⟨("_law_refuses", none), "_law_refuses", "_law_refuses", defArgs s__law_refuses, defBody s__law_refuses, defScope s__law_refuses, [], []⟩
def dd__law_bound : He.DefD := ⟨("_law_bound", none), "_law_bound", "_law_bound", defArgs s__law_bound, defBody s__law_bound, defScope s__law_bound, [], []⟩
def dd__law_bounds_right : He.DefD := ⟨("_law_bounds_right", none), "_law_bounds_right", "_law_bounds_right", defArgs s__law_bounds_right, defBody s__law_bounds_right, defScope s__law_bounds_right, [], []⟩
def dd__law_gcd : He.DefD := ⟨("_law_gcd", none), "_law_gcd", "_law_gcd", defArgs s__law_gcd, defBody s__law_gcd, defScope s__law_gcd, [], []⟩
def dd__law_lowest_right : He.DefD := ⟨("_law_lowest_right", none), "_law_lowest_right", "_law_lowest_right", defArgs s__law_lowest_right, defBody s__law_lowest_right, defScope s__law_lowest_right, [], []⟩
def dd_law : He.DefD := ⟨("law", none), "law", "law", defArgs s_law, defBody s_law, defScope s_law, [], []⟩
def hfn : List He.DefD := [dd_plus, dd_less, dd_tighter, dd_admits, dd_lowest, dd_check_limits, dd_solve, dd_solution_of, dd_cycle_behind, dd_least_sums, dd_span, dd__law_bag, dd__law_take, dd__law_is_number, dd__law_number, dd__law_count, dd__law_order, dd__law_pair, dd__law_around, dd__law_stairs, dd__law_system, dd__law_cycle, dd__law_mixed, dd__law_wrong_limit, dd__law_solves, dd__law_is_bad_cycle, dd__law_answers, dd__law_same_bound, dd__law_least, dd__law_span_is, dd__law_end_exact, dd__law_unsolvable, dd__law_refuses, dd__law_bound, dd__law_bounds_right, dd__law_gcd, dd__law_lowest_right, dd_law]
def hfa0 : List He.Fa := [.glo "plus", .glo "less", .glo "tighter", .glo "admits", .glo "lowest", .glo "check_limits", .glo "solve", .glo "solution_of", .glo "cycle_behind", .glo "least_sums", .glo "span", .glo "_law_bag", .glo "_law_take", .glo "_law_is_number", .glo "_law_number", .glo "_law_count", .glo "_law_order", .glo "_law_pair", .glo "_law_around", .glo "_law_stairs"]
def hfa1 : List He.Fa := [.glo "_law_system", .glo "_law_cycle", .glo "_law_mixed", .glo "_law_wrong_limit", .glo "_law_solves", .glo "_law_is_bad_cycle", .glo "_law_answers", .glo "_law_same_bound", .glo "_law_least", .glo "_law_span_is", .glo "_law_end_exact", .glo "_law_unsolvable", .glo "_law_refuses", .glo "_law_bound", .glo "_law_bounds_right", .glo "_law_gcd", .glo "_law_lowest_right", .glo "law", .glo "BadLimit", .glo "Unsolvable"]
def hfa2 : List He.Fa := [.glo "BadVariable", .glo "BadValue", .glo "DwellError", .free "ValueError", .free "abs", .free "bool", .free "enumerate", .free "int", .free "isinstance", .free "len", .free "list", .free "min", .free "range", .free "str", .free "super", .free "tuple", .exc "BadVariable", .exc "BadValue", .exm "BadLimit" "DwellError" true, .exm "Unsolvable" "DwellError" true]
def hfa3 : List He.Fa := [.exm "BadVariable" "DwellError" true, .exm "BadValue" "DwellError" true]
def hfa : List He.Fa := hfa0 ++ hfa1 ++ hfa2 ++ hfa3
def de_BadLimit : DefS := ⟨"BadLimit", "BadLimit.__init__", defArgs s_BadLimit___init__, defBody s_BadLimit___init__, defScope s_BadLimit___init__, ["place"]⟩
def de_Unsolvable : DefS := ⟨"Unsolvable", "Unsolvable.__init__", defArgs s_Unsolvable___init__, defBody s_Unsolvable___init__, defScope s_Unsolvable___init__, ["chain"]⟩
def hfs : List DefS := [de_BadLimit, de_Unsolvable]
def hraw0 (K : PySem.W.Frag) : Bool := He.eqO (PySem.W.nsIn K mainGlobals "gcd") (some (some (.builtin "math.gcd")))
def hfk : List Fk := [.kit "BadLimit" "BadLimit" true, .kit "BadLimit" "BadVariable" false, .kit "BadLimit" "Unsolvable" false, .kit "Unsolvable" "Unsolvable" true, .kit "Unsolvable" "BadLimit" false, .kit "Unsolvable" "BadVariable" false, .kit "BadVariable" "BadVariable" true, .kit "BadVariable" "BadLimit" false, .kit "BadVariable" "Unsolvable" false, .kit "BadVariable" "BadValue" false, .kit "BadValue" "BadValue" true, .kit "BadValue" "BadLimit" false, .kit "BadValue" "BadVariable" false, .kit "BadValue" "Unsolvable" false, .kty "BadLimit" "ValueError" true, .kty "Unsolvable" "ValueError" true, .kty "BadVariable" "ValueError" true, .ecc "BadLimit", .ecc "Unsolvable", .ecc "BadVariable", .ecc "BadValue", .noat "BadLimit" "place", .noat "Unsolvable" "chain", .raw hraw0]
abbrev R : PySem.W.OpenRow := PySem.W.OpenLaw.row PySem.Challenge.rw_dwellhouse_k01_span_ends
def hfile : Str := R.prog.main.file
abbrev hk : PySem.W.Hook := hookY 4 hfa hfn hfile hfs hfk
def ob (s : PySem.W.SharedT) : AlY := obsYG 4 hfa hfn hfile hfs hfk (HandSHeadRun.getT s)
theorem ob_eq (s : PySem.W.SharedT) : ob s = hk.obs s.abs := obsYG_eq (HandSHeadRun.getT_eq s)
theorem run (w : World) : HandSHeadRun.RunEqI R (PySem.W.view R.prog [0, 47]) hk ob 6000 loose w := by
  unfold HandSHeadRun.RunEqI
  kernel_rfl
end K00
namespace K00
open PySem
open _root_.L2
open Dw
local macro_rules | `(tactic| walk_at "ev") => `(tactic| (first
  | (with_reducible refine go_sAsg ?_)
  | (with_reducible refine go_sDrop ?_)
  | (with_reducible refine go_sAug (by with_unfolding_all exact rfl) ?_)
  | (with_reducible refine ev_op ?_)
  | (with_reducible refine ev_var (by with_unfolding_all exact rfl) ?_)
  | (with_reducible refine ev_int ?_)
  | (with_reducible refine ev_bl ?_)
  | (with_reducible refine ev_non ?_)
  | (with_reducible refine ev_str ?_)
  | (with_reducible refine ea_cons ?_)
  | (with_reducible refine ea_nil ?_)
  | (with_reducible refine go_ret ?_)
  | (with_reducible refine go_asg ?_)
  | (with_reducible refine gt_name ?_)
  | (with_reducible refine go_if ?_)
  | (with_reducible refine go_drop ?_)
  | (with_reducible refine ev_cb ?_)
  | (with_reducible refine et_test ?_)
  | (with_reducible refine et_and ?_)
  | (with_reducible refine et_or ?_)
  | (with_reducible refine et_not ?_)
  | (with_reducible refine et_truth ?_)
  | (with_reducible refine ev_if ?_)
  | (with_reducible refine ev_andV ?_)
  | (with_reducible refine ev_orV ?_)
  | (with_reducible refine ev_notT ?_)
  | (with_reducible refine ev_un ?_)
  | (with_reducible refine v1_neg ?_)
  | (with_reducible refine v2_addI ?_)
  | (with_reducible refine v2_ltI ?_)
  | (with_reducible refine v2_leI ?_)
  | (with_reducible refine v2_gtI ?_)
  | (with_reducible refine v2_geI ?_)
  | (with_reducible refine v2_ii ?_)
  | (with_reducible refine v2_ixT (by with_unfolding_all exact rfl) ?_)
  | (with_reducible refine v2_isNA (fun _ _ q => nomatch q) ?_)
  | (with_reducible refine v2_notNA (fun _ _ q => nomatch q) ?_)
  | (with_reducible refine rt_val ?_)
  | (with_reducible refine ev_tup ?_)
  | (with_reducible refine ⟨_, (by with_unfolding_all exact rfl : undA _ = some _), (by with_unfolding_all exact rfl), ?_⟩)
  | (with_reducible refine go_next ?_)
  | (with_reducible refine go_retN ?_)
  | (with_reducible refine go_brk ?_)
  | (with_reducible refine go_cont ?_)
  | (with_reducible refine ev_sl ?_)
  | (with_reducible refine eo_none ?_)
  | (with_reducible refine eo_some ?_)
  | (with_reducible refine gts_consD ?_)
  | (with_reducible refine gts_nilD ?_)
  | (with_reducible refine gts_nil ?_)
  | (with_reducible refine gt_tup (by with_unfolding_all exact rfl) ?_)
  | (with_reducible refine ⟨_, rfl, ?_⟩)
  | (with_reducible refine ⟨_, (by with_unfolding_all exact rfl : Tru _ _ _), ?_⟩)
  ))
local macro_rules | `(tactic| walk_at "mul") => `(tactic| (first
  | exact cmS (by assumption) (by assumption)
  | exact cm64 (by omega) (by omega)))
local macro_rules | `(tactic| walk_at "ev2") => `(tactic| (first
  | walk_at "ev"
  | (with_reducible refine v2_mulI (by walk_at "mul") ?_)
  | (with_reducible refine vc_lenV (by with_unfolding_all apply_assumption) ?_)
  | (with_reducible refine v2_ixV (by with_unfolding_all apply_assumption) (by assumption) ?_)
  | (with_reducible refine v2_eqI ?_)
  | (with_reducible refine v2_neI ?_)
  | (with_reducible refine v2_eqB ?_)
  | (with_reducible refine v2_neB ?_)
  | (with_reducible refine go_aug (by with_unfolding_all exact rfl) ?_)
  | (with_reducible refine ⟨(by with_unfolding_all exact rfl : (_ : List _) = _), ?_⟩)))
local macro_rules | `(tactic| walk_at "ev3") => `(tactic| (first
  | walk_at "ev2"
  | (with_reducible refine go_seq ?_)))
local macro_rules | `(tactic| walk_at "z1") => `(tactic| (first
  | (with_reducible refine ev_isi (by decide) ?_)
  | (with_reducible refine ev_isY1 (by with_unfolding_all exact rfl) (by assumption) ?_)
  | (with_reducible refine ev_isY2 (by with_unfolding_all exact rfl) (by assumption) ?_)
  | (with_reducible refine ev_isYT2 (by with_unfolding_all exact rfl) (by assumption) (by assumption) ?_)
  | (with_reducible refine vc_lenT ?_)
  | (with_reducible refine vc_lenO (by with_unfolding_all exact rfl) ?_)
  | (with_reducible refine v2_eqSt (by decide +kernel) ?_)
  | (with_reducible refine v2_neSt (by decide +kernel) ?_)
  | (with_reducible refine v2_eqSf (by decide +kernel) (by decide +kernel) (by decide +kernel) ?_)
  | (with_reducible refine v2_neSf (by decide +kernel) (by decide +kernel) (by decide +kernel) ?_)
  | walk_at "ev2"
  | (with_reducible refine ev_chain ?_)
  | (with_reducible refine ⟨_, (by with_unfolding_all exact rfl : Vw _ (Dw.A.d _) _), ?_⟩)
  | (with_reducible refine vc_intI ?_)
  | (with_reducible refine vc_intB ?_)
  | (with_reducible refine vc_abs ?_)
  | (with_reducible refine vc_lenV (by with_unfolding_all exact rfl) ?_)
  | (with_reducible refine v2_ixO (by with_unfolding_all exact rfl) (by with_unfolding_all exact rfl) ?_)
  | (with_reducible refine v2_mulJ (cmR (by decide)) ?_)
  | (with_reducible refine v2_mulJ (cmL (by decide)) ?_)
  | (with_reducible refine v2_mulJ (cmL (by omega)) ?_)
  | (with_reducible refine v2_mulJ (cmR (by omega)) ?_)
  | (with_reducible refine v2_ic (C := fun _ j => 0 < j) (by decide) ?_)
  | (with_reducible refine v2_ic (C := fun _ j => 0 < j) (show (0 : Int) < _ by omega) ?_)
  | (with_reducible refine v2_ic (C := CDivW) (cdv (by decide)) ?_)
  | (with_reducible refine v2_ic (C := CDivW) (cdv (by omega)) ?_)
  | (with_reducible refine v2_ic (C := CPow) (cpw (by decide)) ?_)
  | (with_reducible refine gt_setL ?_)
  | (with_reducible refine ⟨_, _, _, _, _, rfl, rfl, rfl, (by with_unfolding_all exact rfl), (by with_unfolding_all exact rfl), ?_⟩)
  ))
local macro_rules | `(tactic| walk_at "z3") => `(tactic| (first
  | walk_at "z1"
  | (with_reducible refine go_seq ?_)))
local macro_rules | `(tactic| walk_at "z4") => `(tactic| (first
  | walk_at "z3"
  | ((with_reducible refine ⟨?_, ?_⟩); (focus (intro h; cases h; done)); intro h)
  | ((with_reducible refine ⟨?_, ?_⟩); rotate_left; (focus (intro h; cases h; done)); intro h)))
local macro_rules | `(tactic| walk_at "ev") => `(tactic| (with_reducible refine ev_isYT3 (by with_unfolding_all exact rfl) (by assumption) (by assumption) (by assumption) ?_))
def sp__law_take : Spc where
  I := Bg × Int
  args := fun (x, n) => [.o 0, .d (.int n)]
  cells := fun (x, _) => [.lst x.l]
  pre := fun (x, n) => 0 ≤ x.i ∧ 1 ≤ n ∧ n < 2 ^ 60
  post := fun (x, n) r os => ∃ (m : Int) (y : Bg), r = .val (.int m) ∧ os = [.lst y.l] ∧ 0 ≤ y.i ∧ 0 ≤ m ∧ m < n
section
variable {P : Program} {w : World} {K : PySem.W.Frag} {mg : Str → Option Value} {base : Heap}
theorem ok__law_take (T : Tx P K mg) : FnOk P w K mg base CX0 1 T.a__law_take T.d__law_take ["bag", "many"] (SpB K sp__law_take) := by
  refine T.F__law_take.ok sc__law_take (fun vs H Q E h => spB_len h (fun _ => rfl)) (fun cdv A outer s H vs Q E hr h => ⟨_, PSs.nox ((pss_cons (ps_set (i := 2) sc__law_take.nd rfl (.inl rfl) (pe_ix ix_seq (pv 0) pe_int (fun _ _ => rfl)))
      (pss_cons (ps_if (PW.pt (pw_and (pt_cmpR (op_eqD hr.units) (pe_ix ix_seq (pv 0) pe_int (fun _ _ => rfl)) pe_int (nomark _)) (pw_and1 (pt_cmpR op_ltA (pe_ix ix_seq (pv 0) pe_int (fun _ _ => rfl)) (pe_callB call_len (by rfl) T.z_len (by decide +kernel) (pa_cons (pv 2) pa_nil)) (nomark _)))))
      (pss_cons (ps_set (i := 3) sc__law_take.nd rfl (.inl rfl) (pe_ix ix_seq (pv 2) (pe_ix ix_seq (pv 0) pe_int (fun _ _ => rfl)) (fun _ _ => rfl)))
      (pss_cons (ps_asg (pe_op op_addA (pe_ix ix_seq (pv 0) pe_int (fun _ _ => rfl)) pe_int) (pg_sub (pv 0) pe_int set_list))
      (pss_one (ps_if (pt_cmpR op_geA (pv 3) (pe_op op_pow pe_int pe_int) (nomark _))
      (pss_one (ps_asg (pv 3) (pg_sub (pv 0) pe_int set_list)))
      (pss_one (ps_asg (pe_op op_mod (pe_callTy call_int1 (by rfl) T.z_int (by decide +kernel) (pa_cons (pe_op op_addA (pe_op op_addA (pe_op op_mulA (pe_ix ix_seq (pv 0) pe_int (fun _ _ => rfl)) pe_int) (pe_op op_mod (pe_callTy call_int1 (by rfl) T.z_int (by decide +kernel) (pa_cons (pv 3) pa_nil)) pe_int)) pe_int) pa_nil)) pe_int) (pg_sub (pv 0) pe_int set_list)))))))
      pss_nil)
      (pss_cons (ps_if (pt_cmpR op_gtA (pe_ix ix_seq (pv 0) pe_int (fun _ _ => rfl)) pe_int (nomark _))
      (pss_cons (ps_set (i := 4) sc__law_take.nd rfl (.inl rfl) (pe_op op_mod (pe_callTy call_int1 (by rfl) T.z_int (by decide +kernel) (pa_cons (pe_ix ix_seq (pv 0) pe_int (fun _ _ => rfl)) pa_nil)) (pv 1)))
      (pss_cons (ps_asg (pe_op op_fdivW (pe_ix ix_seq (pv 0) pe_int (fun _ _ => rfl)) (pv 1)) (pg_sub (pv 0) pe_int set_list))
      (pss_one (ps_ret (pv 4)))))
      pss_nil)
      (pss_cons (ps_asg (pe_op op_addA (pe_ix ix_seq (pv 0) pe_int (fun _ _ => rfl)) pe_int) (pg_sub (pv 0) pe_int set_list))
      (pss_cons (ps_asg (pe_op op_mod (pe_callTy call_int1 (by rfl) T.z_int (by decide +kernel) (pa_cons (pe_op op_addA (pe_op op_addA (pe_op op_mulA (pe_ix ix_seq (pv 0) pe_int (fun _ _ => rfl)) pe_int) (pe_op op_mulA (pe_ix ix_seq (pv 0) pe_int (fun _ _ => rfl)) pe_int)) pe_int) pa_nil)) pe_int) (pg_sub (pv 0) pe_int set_list))
      (pss_one (ps_ret (pe_op op_mod (pe_op op_mod (pe_callTy call_int1 (by rfl) T.z_int (by decide +kernel) (pa_cons (pe_op op_addA (pe_op op_addA (pe_op op_mulA (pe_op op_fdivW (pe_ix ix_seq (pv 0) pe_int (fun _ _ => rfl)) pe_int) pe_int) (pe_op op_fdivW (pe_ix ix_seq (pv 0) pe_int (fun _ _ => rfl)) pe_int)) (pe_ix ix_seq (pv 0) pe_int (fun _ _ => rfl))) pa_nil)) pe_int) (pv 1)))))))))), ?_⟩)
  refine go_fn (L := ["bag", "many", "cells", "cell", "digit"]) h (fun b i hp hX => ?_)
  dsimp only [cxOf, L2H.cxH, L2.Cx.nox, L2.Cx.wish]
  
  obtain ⟨x, n⟩ := i
  obtain ⟨h0, n1, n2⟩ := hp
  show GO K b _ ⟨[some (.o 0), some (.d (.int n)), none, none, none], [.lst x.l]⟩ _
  repeat walk_at "z1"
  
  refine go_mid (fun s => ∃ (y : Bg) (x3 : Option Dw.A), 0 ≤ y.i ∧ s = ⟨[some (.o 0), some (.d (.int n)), some (.d (.list (inL x.cs))), x3, none], [.lst y.l]⟩) ?_ ?_
  · repeat walk_at "z1"
  
    refine ⟨fun z => ?_, fun z => ⟨fun z => (nomatch z), fun _ => ?_⟩⟩
    · repeat walk_at "z1"
  
      refine ⟨fun z => ?_, fun z => ?_⟩
      · obtain ⟨c, hc⟩ := at_inL h0 (of_decide_eq_true z)
        repeat walk_at "z1"
  
        refine ⟨fun z => ?_, fun z => ?_⟩
        · repeat walk_at "z1"
  
          exact ⟨⟨x.cs, x.i + 1, c, x.st, x.cnt⟩, _, show 0 ≤ x.i + 1 by omega, rfl⟩
        · repeat walk_at "z1"
  
          exact ⟨⟨x.cs, x.i + 1, x.big, _, x.cnt⟩, _, show 0 ≤ x.i + 1 by omega, rfl⟩
      · repeat walk_at "z1"
  
        exact ⟨x, _, h0, rfl⟩
    · repeat walk_at "z1"
  
      exact ⟨x, _, h0, rfl⟩
  rintro s2 ⟨y, x3, hy, rfl⟩
  repeat walk_at "z3"
  
  refine ⟨fun z => ?_, fun z => ?_⟩
  · repeat walk_at "z3"
  
    exact ⟨_, ⟨y.cs, y.i, y.big / n, y.st, y.cnt⟩, rfl, rfl, hy, Int.emod_nonneg _ (by omega), Int.emod_lt_of_pos _ (by omega)⟩
  · repeat walk_at "z3"
  
    exact ⟨_, ⟨y.cs, y.i, y.big, _, y.cnt + 1⟩, rfl, rfl, hy, Int.emod_nonneg _ (by omega), Int.emod_lt_of_pos _ (by omega)⟩
end
section
variable {K : PySem.W.Frag} {b : B} {s : S} {t : TA} {Φ : Dw.A → S → Prop}
theorem ev_take (h : EA K b t s fun as s1 => ∃ (x : Bg) (n : Int) (ss : List (Option Dw.A)) (cs : List C), as = [.o 0, .d (.int n)] ∧ s1 = ⟨ss, .lst x.l :: cs⟩ ∧ 0 ≤ x.i ∧ (1 ≤ n ∧ n < 2 ^ 60) ∧ ∀ (m : Int) (y : Bg), 0 ≤ y.i → 0 ≤ m → m < n → Φ (.d (.int m)) ⟨ss, .lst y.l :: cs⟩) : EV K b (tCall (SpB K sp__law_take) [] E0 t) s Φ := by
  refine ev_call1 0 fun σ H tv tl Hd ps R Q k => h σ H tv tl Hd ps R Q fun vs H1 as s1 Hd1 ps1 h1 R1 a1 => k vs H1 as s1 Hd1 ps1 ?_ R1 a1
  obtain ⟨x, n, ss, cs, rfl, rfl, h0, hn, q⟩ := h1
  refine ⟨(x, n), .lst x.l, [.d (.int n)], rfl, rfl, rfl, rfl, (fun z => nomatch z), rfl, ⟨h0, hn⟩, fun r c' hr => ?_, fun x c' hx => (show False from hx).elim⟩
  obtain ⟨m, y, rfl, e, h1, h2, h3⟩ := hr
  cases e
  exact q m y h1 h2 h3
end
def sp__law_is_number : Spc where
  I := Int
  args := fun n => [.d (.int n)]
  cells := fun _ => []
  pre := fun _ => True
  post := fun _ r _ => r = .val (.bool true)
section
variable {P : Program} {w : World} {K : PySem.W.Frag} {mg : Str → Option Value} {base : Heap}
theorem ok__law_is_number (T : Tx P K mg) : FnOk P w K mg base CX0 1 T.a__law_is_number T.d__law_is_number ["value"] (SpB K sp__law_is_number) := by
  refine T.F__law_is_number.ok sc__law_is_number (fun vs H Q E h => spB_len h (fun _ => rfl)) (fun cdv A outer s H vs Q E hr h => ⟨_, PSs.nox ((pss_one (ps_ret (pe_and (pe_callB call_isi (by rfl) T.z_isinstance (by decide +kernel) (pa_cons (pv 0) (pa_cons (pe_bltn (v := .ty "int") (by rfl) T.z_int (by decide +kernel) rfl) pa_nil))) (pe_one (pe_notT (pe_callB call_isi (by rfl) T.z_isinstance (by decide +kernel) (pa_cons (pv 0) (pa_cons (pe_bltn (v := .ty "bool") (by rfl) T.z_bool (by decide +kernel) rfl) pa_nil))))))))), ?_⟩)
  refine go_fn (L := ["value"]) h (fun b i hp hX => ?_)
  dsimp only [cxOf, L2H.cxH, L2.Cx.nox, L2.Cx.wish]
  
  repeat walk_at "z3"
  
  refine ⟨fun _ => ?_, fun z => (nomatch z)⟩
  repeat walk_at "z3"
  
  rfl
theorem okH__law_is_number (T : Tx P K mg) : L2H.FnH P w K mg base CX0 1 T.a__law_is_number T.d__law_is_number ["value"] (SpB K sp__law_is_number) := by
  refine okH T.F__law_is_number sc__law_is_number (fun vs H Q E h => spB_len h (fun _ => rfl)) (fun cdv A outer s H vs Q E p hot hr h => ⟨_, PSs.nox ((pss_one (ps_ret (pe_and (pe_callB call_isi (by rfl) T.z_isinstance (by decide +kernel) (pa_cons (pv 0) (pa_cons (pe_bltn (v := .ty "int") (by rfl) T.z_int (by decide +kernel) rfl) pa_nil))) (pe_one (pe_notT (pe_callB call_isi (by rfl) T.z_isinstance (by decide +kernel) (pa_cons (pv 0) (pa_cons (pe_bltn (v := .ty "bool") (by rfl) T.z_bool (by decide +kernel) rfl) pa_nil))))))))), ?_⟩)
  refine go_fn (L := ["value"]) h (fun b i hp hX => ?_)
  dsimp only [cxOf, L2H.cxH, L2.Cx.nox, L2.Cx.wish]
  
  repeat walk_at "z3"
  
  refine ⟨fun _ => ?_, fun z => (nomatch z)⟩
  repeat walk_at "z3"
  
  rfl
end
section
variable {K : PySem.W.Frag} {b : B} {s : S} {t : TA} {Φ : Dw.A → S → Prop}
theorem ev_isnum {E : L2.St → XK} {i : Int} (h : EA K b t s fun as s1 => as = [.d (.int i)] ∧ Φ (.d (.bool true)) s1) : EV K b (tCallG (SpB K sp__law_is_number) E t) s Φ := by
  refine ev_callV fun σ H tv tl Hd ps R Q k => h σ H tv tl Hd ps R Q fun vs H1 as s1 Hd1 ps1 h1 R1 a1 => k vs H1 as s1 Hd1 ps1 ?_ R1 a1
  obtain ⟨rfl, q⟩ := h1
  exact ⟨i, _, rfl, rfl, rfl, trivial, fun r os' hr => hr, fun x os' hx => (show False from hx).elim, q⟩
end
def sp__law_pair : Spc where
  I := Bg × Int
  args := fun (x, n) => [.o 0, .d (.int n)]
  cells := fun (x, _) => [.lst x.l]
  pre := fun (x, n) => 0 ≤ x.i ∧ 1 ≤ n ∧ n < 1000
  post := fun (x, n) r os => ∃ (i j : Int) (y : Bg), r = .val (.tuple [.int i, .int j]) ∧ os = [.lst y.l] ∧ 0 ≤ y.i ∧ (0 ≤ i ∧ i < n) ∧ 0 ≤ j ∧ j < n
section
variable {P : Program} {w : World} {K : PySem.W.Frag} {mg : Str → Option Value} {base : Heap}
theorem ok__law_pair (T : Tx P K mg) : FnOk P w K mg base CX0 2 T.a__law_pair T.d__law_pair ["bag", "many"] (SpB K sp__law_pair) := by
  refine T.F__law_pair.ok sc__law_pair (fun vs H Q E h => spB_len h (fun _ => rfl)) (fun cdv A outer s H vs Q E hr h => ⟨_, PSs.nox ((pss_cons (ps_set (i := 2) sc__law_pair.nd rfl (.inl rfl) (pe_call (ok__law_take T) (hr.mono (by decide)) (by rfl) T.g__law_take T.F__law_take.kp (b__law_take T.F__law_take) .nil pass0 (pa_cons (pv 0) (pa_cons (pv 1) pa_nil))))
      (pss_cons (ps_set (i := 3) sc__law_pair.nd rfl (.inl rfl) (pe_call (ok__law_take T) (hr.mono (by decide)) (by rfl) T.g__law_take T.F__law_take.kp (b__law_take T.F__law_take) .nil pass0 (pa_cons (pv 0) (pa_cons (pv 1) pa_nil))))
      (pss_cons (ps_if (PW.pt (pw_and (pt_cmpR (op_eqD hr.units) (pv 2) (pv 3) (nomark _)) (pw_and1 (pt_cmpR op_gtA (pe_call (ok__law_take T) (hr.mono (by decide)) (by rfl) T.g__law_take T.F__law_take.kp (b__law_take T.F__law_take) .nil pass0 (pa_cons (pv 0) (pa_cons pe_int pa_nil))) pe_int (nomark _)))))
      (pss_one (ps_set (i := 3) sc__law_pair.nd rfl (.inl rfl) (pe_op op_mod (pe_op op_addA (pv 2) pe_int) (pv 1))))
      pss_nil)
      (pss_one (ps_ret (pe_tup (pa_cons (pv 2) (pa_cons (pv 3) pa_nil))))))))), ?_⟩)
  refine go_fn (L := ["bag", "many", "i", "j"]) h (fun b i hp hX => ?_)
  dsimp only [cxOf, L2H.cxH, L2.Cx.nox, L2.Cx.wish]
  
  obtain ⟨x, n⟩ := i
  obtain ⟨h0, n1, n2⟩ := hp
  repeat walk_at "z1"
  
  (refine ev_take ?_; repeat walk_at "z1")
  refine ⟨x, _, _, _, rfl, rfl, h0, by first | decide | omega, fun i y hy i0 i1 => ?_⟩
  repeat walk_at "z1"
  
  (refine ev_take ?_; repeat walk_at "z1")
  refine ⟨y, _, _, _, rfl, rfl, hy, by first | decide | omega, fun j y2 hy2 j0 j1 => ?_⟩
  repeat walk_at "z1"
  
  refine go_mid (fun s => ∃ (j : Int) (y : Bg), 0 ≤ y.i ∧ 0 ≤ j ∧ j < n ∧ s = ⟨[some (.o 0), some (.d (.int n)), some (.d (.int i)), some (.d (.int j))], [.lst y.l]⟩) ?_ ?_
  · repeat walk_at "z1"
  
    refine ⟨fun z => ?_, fun z => ⟨fun z => (nomatch z), fun _ => ?_⟩⟩
    · repeat walk_at "z1"
  
      (refine ev_take ?_; repeat walk_at "z1")
      refine ⟨y2, _, _, _, rfl, rfl, hy2, by first | decide | omega, fun k y3 hy3 k0 k1 => ?_⟩
      repeat walk_at "z1"
  
      refine ⟨fun z => ?_, fun z => ?_⟩
      · repeat walk_at "z1"
  
        exact ⟨_, y3, hy3, Int.emod_nonneg _ (by omega), Int.emod_lt_of_pos _ (by omega), rfl⟩
      · repeat walk_at "z1"
  
        exact ⟨j, y3, hy3, j0, j1, rfl⟩
    · repeat walk_at "z1"
  
      exact ⟨j, y2, hy2, j0, j1, rfl⟩
  rintro s2 ⟨j, y, hy, j0, j1, rfl⟩
  repeat walk_at "z3"
  
  exact ⟨i, j, y, rfl, rfl, hy, ⟨i0, i1⟩, j0, j1⟩
end
def sp__law_count : Spc where
  I := Bg
  args := fun x => [.o 0]
  cells := fun x => [.lst x.l]
  pre := fun x => 0 ≤ x.i
  post := fun x r os => ∃ (n : Int) (y : Bg), r = .val (.int n) ∧ os = [.lst y.l] ∧ 0 ≤ y.i ∧ 1 ≤ n ∧ n ≤ 100
section
variable {P : Program} {w : World} {K : PySem.W.Frag} {mg : Str → Option Value} {base : Heap}
theorem ok__law_count (T : Tx P K mg) : FnOk P w K mg base CX0 2 T.a__law_count T.d__law_count ["bag"] (SpB K sp__law_count) := by
  refine T.F__law_count.ok sc__law_count (fun vs H Q E h => spB_len h (fun _ => rfl)) (fun cdv A outer s H vs Q E hr h => ⟨_, PSs.nox ((pss_cons (ps_set (i := 1) sc__law_count.nd rfl (.inl rfl) (pe_call (ok__law_take T) (hr.mono (by decide)) (by rfl) T.g__law_take T.F__law_take.kp (b__law_take T.F__law_take) .nil pass0 (pa_cons (pv 0) (pa_cons pe_int pa_nil))))
      (pss_cons (ps_if (pt_cmpR (op_eqD hr.units) (pv 1) pe_int (nomark _))
      (pss_one (ps_ret (pe_op op_addA pe_int (pe_call (ok__law_take T) (hr.mono (by decide)) (by rfl) T.g__law_take T.F__law_take.kp (b__law_take T.F__law_take) .nil pass0 (pa_cons (pv 0) (pa_cons pe_int pa_nil))))))
      pss_nil)
      (pss_cons (ps_if (pt_cmpR op_geA (pv 1) pe_int (nomark _))
      (pss_one (ps_ret (pe_op op_addA pe_int (pe_call (ok__law_take T) (hr.mono (by decide)) (by rfl) T.g__law_take T.F__law_take.kp (b__law_take T.F__law_take) .nil pass0 (pa_cons (pv 0) (pa_cons pe_int pa_nil))))))
      pss_nil)
      (pss_one (ps_ret (pe_op op_addA pe_int (pe_call (ok__law_take T) (hr.mono (by decide)) (by rfl) T.g__law_take T.F__law_take.kp (b__law_take T.F__law_take) .nil pass0 (pa_cons (pv 0) (pa_cons pe_int pa_nil)))))))))), ?_⟩)
  refine go_fn (L := ["bag", "shape"]) h (fun b i hp hX => ?_)
  dsimp only [cxOf, L2H.cxH, L2.Cx.nox, L2.Cx.wish]
  
  have h0 : 0 ≤ i.i := hp
  repeat walk_at "z1"
  
  (refine ev_take ?_; repeat walk_at "z1")
  refine ⟨i, _, _, _, rfl, rfl, h0, by first | decide | omega, fun sh y hy i0 i1 => ?_⟩
  repeat walk_at "z3"
  
  refine ⟨fun z => ?_, fun z => ?_⟩
  · repeat walk_at "z3"
  
    (refine ev_take ?_; repeat walk_at "z1")
    refine ⟨y, _, _, _, rfl, rfl, hy, by first | decide | omega, fun k y2 hy2 k0 k1 => ?_⟩
    repeat walk_at "z3"
  
    exact ⟨_, y2, rfl, rfl, hy2, by omega, by omega⟩
  repeat walk_at "z3"
  
  refine ⟨fun z => ?_, fun z => ?_⟩
  · repeat walk_at "z3"
  
    (refine ev_take ?_; repeat walk_at "z1")
    refine ⟨y, _, _, _, rfl, rfl, hy, by first | decide | omega, fun k y2 hy2 k0 k1 => ?_⟩
    repeat walk_at "z3"
  
    exact ⟨_, y2, rfl, rfl, hy2, by omega, by omega⟩
  repeat walk_at "z3"
  
  (refine ev_take ?_; repeat walk_at "z1")
  refine ⟨y, _, _, _, rfl, rfl, hy, by first | decide | omega, fun k y2 hy2 k0 k1 => ?_⟩
  repeat walk_at "z3"
  
  exact ⟨_, y2, rfl, rfl, hy2, by omega, by omega⟩
end
section
variable {K : PySem.W.Frag} {b : B} {s : S} {t : TA} {Φ : Dw.A → S → Prop}
theorem ev_pair (h : EA K b t s fun as s1 => ∃ (x : Bg) (n : Int) (ss : List (Option Dw.A)) (cs : List C), as = [.o 0, .d (.int n)] ∧ s1 = ⟨ss, .lst x.l :: cs⟩ ∧ 0 ≤ x.i ∧ (1 ≤ n ∧ n < 1000) ∧ ∀ (i j : Int) (y : Bg), 0 ≤ y.i → 0 ≤ i → i < n → 0 ≤ j → j < n → Φ (.d (.tuple [.int i, .int j])) ⟨ss, .lst y.l :: cs⟩) : EV K b (tCall (SpB K sp__law_pair) [] E0 t) s Φ := by
  refine ev_call1 0 fun σ H tv tl Hd ps R Q k => h σ H tv tl Hd ps R Q fun vs H1 as s1 Hd1 ps1 h1 R1 a1 => k vs H1 as s1 Hd1 ps1 ?_ R1 a1
  obtain ⟨x, n, ss, cs, rfl, rfl, h0, hn, q⟩ := h1
  refine ⟨(x, n), .lst x.l, [.d (.int n)], rfl, rfl, rfl, rfl, (fun z => nomatch z), rfl, ⟨h0, hn⟩, fun r c' hr => ?_, fun x c' hx => (show False from hx).elim⟩
  obtain ⟨i, j, y, rfl, e, h1, ⟨h2, h3⟩, h4, h5⟩ := hr
  cases e
  exact q i j y h1 h2 h3 h4 h5
theorem ev_count (h : EA K b t s fun as s1 => ∃ (x : Bg) (ss : List (Option Dw.A)) (cs : List C), as = [.o 0] ∧ s1 = ⟨ss, .lst x.l :: cs⟩ ∧ 0 ≤ x.i ∧ ∀ (n : Int) (y : Bg), 0 ≤ y.i → 1 ≤ n → n ≤ 100 → Φ (.d (.int n)) ⟨ss, .lst y.l :: cs⟩) : EV K b (tCall (SpB K sp__law_count) [] E0 t) s Φ := by
  refine ev_call1 0 fun σ H tv tl Hd ps R Q k => h σ H tv tl Hd ps R Q fun vs H1 as s1 Hd1 ps1 h1 R1 a1 => k vs H1 as s1 Hd1 ps1 ?_ R1 a1
  obtain ⟨x, ss, cs, rfl, rfl, h0, q⟩ := h1
  refine ⟨x, .lst x.l, [], rfl, rfl, rfl, rfl, (fun z => nomatch z), rfl, h0, fun r c' hr => ?_, fun x c' hx => (show False from hx).elim⟩
  obtain ⟨n, y, rfl, e, h1, h2, h3⟩ := hr
  cases e
  exact q n y h1 h2 h3
end
def sp__law_number : Spc where
  I := Bg × Int
  args := fun (x, n) => [.o 0, .d (.int n)]
  cells := fun (x, _) => [.lst x.l]
  pre := fun (x, n) => 0 ≤ x.i
  post := fun (x, n) r os => ∃ (m : Int) (y : Bg), r = .val (.int m) ∧ os = [.lst y.l] ∧ 0 ≤ y.i ∧ -(10 ^ 36) ≤ m ∧ m ≤ 10 ^ 36
section
variable {P : Program} {w : World} {K : PySem.W.Frag} {mg : Str → Option Value} {base : Heap}
theorem ok__law_number (T : Tx P K mg) : FnOk P w K mg base CX0 2 T.a__law_number T.d__law_number ["bag", "scale"] (SpB K sp__law_number) := by
  refine T.F__law_number.ok sc__law_number (fun vs H Q E h => spB_len h (fun _ => rfl)) (fun cdv A outer s H vs Q E hr h => ⟨_, PSs.nox ((pss_cons (ps_if (pt_cmpR (op_eqD hr.units) (pv 1) pe_int (nomark _))
      (pss_one (ps_ret (pe_op op_sub (pe_call (ok__law_take T) (hr.mono (by decide)) (by rfl) T.g__law_take T.F__law_take.kp (b__law_take T.F__law_take) .nil pass0 (pa_cons (pv 0) (pa_cons pe_int pa_nil))) pe_int)))
      pss_nil)
      (pss_cons (ps_if (pt_cmpR (op_eqD hr.units) (pv 1) pe_int (nomark _))
      (pss_one (ps_ret (pe_op op_sub (pe_call (ok__law_take T) (hr.mono (by decide)) (by rfl) T.g__law_take T.F__law_take.kp (b__law_take T.F__law_take) .nil pass0 (pa_cons (pv 0) (pa_cons pe_int pa_nil))) pe_int)))
      pss_nil)
      (pss_cons (ps_setLc (i := 2) (own := [("k", 4)]) rfl sc__law_number.nd rfl rfl (sw_true rfl rfl rfl (by decide +kernel)) (pi_range1 (by rfl) T.z_range (pa_cons pe_int pa_nil)) (blkOk_by (own := [("k", 4)]) (N := ["bag", "scale", "parts", "number", "k"]) (sc := defScope s__law_number) (by decide +kernel)) (fun _ _ _ _ _ => (pg_name (i := 4) sc__law_number.nd rfl (.inl rfl) (.inr rfl))) (fun _ _ _ _ _ => pts_nil) (fun _ _ _ _ _ => (pe_call (ok__law_take T) (hr.mono (by decide)) (by rfl) T.g__law_take T.F__law_take.kp (b__law_take T.F__law_take) .nil pass0 (pa_cons (pv 0) (pa_cons pe_int pa_nil)))))
      (pss_cons (ps_set (i := 3) sc__law_number.nd rfl (.inl rfl) (pe_op op_addA (pe_op op_addA (pe_op op_addA (pe_ix ix_seq (pv 2) pe_int (fun _ _ => rfl)) (pe_op op_mulA (pe_ix ix_seq (pv 2) pe_int (fun _ _ => rfl)) (pe_op op_pow pe_int pe_int))) (pe_op op_mulA (pe_ix ix_seq (pv 2) pe_int (fun _ _ => rfl)) (pe_op op_pow pe_int pe_int))) (pe_op op_mulA (pe_ix ix_seq (pv 2) pe_int (fun _ _ => rfl)) (pe_op op_pow pe_int pe_int))))
      (pss_one (ps_ret (pe_op op_sub (pv 3) (pe_op op_mulA pe_int (pe_op op_pow pe_int pe_int)))))))))), ?_⟩)
  refine go_fn (L := ["bag", "scale", "parts", "number", "k"]) h (fun b i hp hX => ?_)
  dsimp only [cxOf, L2H.cxH, L2.Cx.nox, L2.Cx.wish]
  
  obtain ⟨x, n⟩ := i
  have h0 : 0 ≤ x.i := hp
  show GO K b _ ⟨[some (.o 0), some (.d (.int n)), none, none, none], [.lst x.l]⟩ _
  repeat walk_at "z3"
  
  refine ⟨fun z => ?_, fun z => ?_⟩
  · repeat walk_at "z3"
  
    (refine ev_take ?_; repeat walk_at "z1")
    refine ⟨x, _, _, _, rfl, rfl, h0, by first | decide | omega, fun k y2 hy2 k0 k1 => ?_⟩
    repeat walk_at "z3"
  
    exact ⟨_, y2, rfl, rfl, hy2, by omega, by omega⟩
  repeat walk_at "z3"
  
  refine ⟨fun z => ?_, fun z => ?_⟩
  · repeat walk_at "z3"
  
    (refine ev_take ?_; repeat walk_at "z1")
    refine ⟨x, _, _, _, rfl, rfl, h0, by first | decide | omega, fun k y2 hy2 k0 k1 => ?_⟩
    repeat walk_at "z3"
  
    exact ⟨_, y2, rfl, rfl, hy2, by omega, by omega⟩
  refine go_next ?_
  refine go_sAsg (ev_lc (tg_name (.head _)) mg_name (ei_r1 ?_))
  repeat walk_at "z3"
  
  refine ⟨by decide, by decide, ?_⟩
  refine ⟨fun k js s => ∃ (ms : List Int) (y : Bg), ms.length = k ∧ (∀ m, m ∈ ms → 0 ≤ m ∧ m < 1000000000) ∧ 0 ≤ y.i ∧ js = inL ms ∧ s = ⟨[some (.o 0), some (.d (.int n)), none, none, none], [.lst y.l, .lst (inL ms)]⟩, ⟨[], x, rfl, (fun m h => nomatch h), h0, rfl, rfl⟩, ?_, ?_, ?_⟩
  · rintro k js s3 _ ⟨ms, y, _, _, _, rfl, rfl⟩
    exact ⟨trivial, rfl⟩
  · rintro k v js s3 hx ⟨ms, y, hk, hm, hy, rfl, rfl⟩
    obtain ⟨hk4, rfl⟩ := rngD_get hx
    refine gt_name ?_
    refine fun σ H tv tl Hd ps R Q kk => kk true H _ Hd ps ⟨fun _ => ?_, fun h => (nomatch h)⟩ R
    (refine ev_take ?_; repeat walk_at "z1")
    refine ⟨y, _, _, _, rfl, rfl, hy, by first | decide | omega, fun m y2 hy2 m0 m1 => ?_⟩
    refine ⟨_, rfl, rfl, Nat.lt_of_le_of_lt (show _ ≤ 1000 by rw [inL, List.length_map]; omega) (by decide), ms ++ [m], y2, by simp; omega, fun m' h' => ?_, hy2, by rw [inL, inL, List.map_append]; rfl, ?_⟩
    · rcases List.mem_append.mp h' with h' | h'
      · exact hm m' h'
      · rw [List.mem_singleton.mp h']; exact ⟨m0, m1⟩
    · rw [show inL (ms ++ [m]) = inL ms ++ [.int m] by rw [inL, inL, List.map_append]; rfl]
      rfl
  · rintro js s3 ⟨ms, y, hk, hm, hy, rfl, rfl⟩
    rw [rngD_len] at hk
    have hk : ms.length = 4 := hk
    match ms, hk, hm with
    | [a, c, d, e], _, hm =>
      have ha := hm a (by simp)
      have hc := hm c (by simp)
      have hd := hm d (by simp)
      have he := hm e (by simp)
      repeat walk_at "z3"
  
      refine ⟨_, y, rfl, rfl, hy, ?_, ?_⟩
      · show -(10 ^ 36) ≤ a + c * 10 ^ 9 + d * 10 ^ 18 + e * 10 ^ 27 - 5 * 10 ^ 35
        omega
      · show a + c * 10 ^ 9 + d * 10 ^ 18 + e * 10 ^ 27 - 5 * 10 ^ 35 ≤ 10 ^ 36
        omega
end
def sp__law_bag (K : PySem.W.Frag) : Spc where
  I := List Int
  args := fun ns => [scrP K ns]
  cells := fun _ => []
  pre := fun _ => True
  post := fun _ r _ => ∃ x : Bg, r = .new (.lst x.l) ∧ 0 ≤ x.i
section
variable {P : Program} {w : World} {K : PySem.W.Frag} {mg : Str → Option Value} {base : Heap}
theorem ok__law_bag (T : Tx P K mg) : FnOk P w K mg base CX0 1 T.a__law_bag T.d__law_bag ["script"] (SpB K (sp__law_bag K)) := by
  refine T.F__law_bag.ok sc__law_bag (fun vs H Q E h => spB_len h (fun _ => rfl)) (fun cdv A outer s H vs Q E hr h => ⟨_, PSs.nox ((pss_one (ps_ret (pe_lst (pa_cons (pe_lc (own := [("cell", 1)]) rfl sc__law_bag.nd (pi_any (pe_slice sl_any (pv 0) po_none (po_some pe_int))) (blkOk_by (own := [("cell", 1)]) (N := ["script", "cell"]) (sc := defScope s__law_bag) (by decide +kernel)) (fun _ _ _ _ _ => (pg_name (i := 1) sc__law_bag.nd rfl (.inl rfl) (.inr rfl))) (fun _ _ _ _ _ => pts_nil) (fun _ _ _ _ _ => (pe_callTy call_int1 (by rfl) T.z_int (by decide +kernel) (pa_cons (pv 1) pa_nil)))) (pa_cons pe_int (pa_cons pe_int (pa_cons pe_int (pa_cons pe_int pa_nil))))))))), ?_⟩)
  refine go_fn (L := ["script", "cell"]) h (fun b i hp hX => ?_)
  dsimp only [cxOf, L2H.cxH, L2.Cx.nox, L2.Cx.wish]
  
  obtain ⟨ms, hms, hlen⟩ := cut63 i
  show GO K b _ ⟨[some (scrP K i), none], []⟩ _
  refine go_ret (ev_lstO (ea_cons (ev_dat (ev_lc (tg_name (.head _)) mg_name (ei_anyL (ei_list ?_))))))
  repeat walk_at "z1"
  
  refine vs_scr ?_
  rw [hms]
  refine ⟨inL ms, fun _ => True, .inl rfl, trivial, ?_⟩
  refine ⟨fun k js s => k ≤ ms.length ∧ js = inL (ms.take k) ∧ s = ⟨[some (scrP K i), none], [.lst js]⟩, ⟨Nat.zero_le _, rfl, rfl⟩, ?_, ?_, ?_⟩
  · rintro k js s3 _ ⟨_, _, rfl⟩
    exact ⟨trivial, rfl⟩
  · rintro k v js s3 hx ⟨_, rfl, rfl⟩
    obtain ⟨m, hm⟩ : ∃ m, ms[k]? = some m := ⟨ms[k]'(by have := (List.getElem?_eq_some_iff.mp hx).1; rw [inL, List.length_map] at this; exact this), List.getElem?_eq_getElem _⟩
    have e : v = .int m := by
      rw [inL, List.getElem?_map, hm] at hx
      exact (Option.some.inj hx).symm
    subst e
    have hk := (List.getElem?_eq_some_iff.mp hm).1
    refine gt_name ?_
    refine fun σ H tv tl Hd ps R Q kk => kk true H _ Hd ps ⟨fun _ => ?_, fun h => (nomatch h)⟩ R
    repeat walk_at "z1"
  
    refine ⟨rfl, Nat.lt_of_le_of_lt (show _ ≤ 1000 by rw [inL, List.length_map, List.length_take]; omega) (by decide), hk, ?_, rfl⟩
    rw [List.take_add_one, hm, inL, inL, List.map_append]
    rfl
  · rintro js s3 ⟨_, rfl, rfl⟩
    rw [show (inL ms).length = ms.length from List.length_map .., List.take_of_length_le (Nat.le_refl _)]
    refine ⟨0, inL ms, rfl, rfl, ?_⟩
    repeat walk_at "z1"
  
    exact ⟨_, Nat.zero_le _, rfl, (fun z => nomatch z), ⟨⟨ms, 0, 0, 7, 0⟩, rfl, Int.le_refl 0⟩⟩
end
def sp__law_order : Spc where
  I := Bg × Nat
  args := fun (x, n) => [.o 0, .d (.int n)]
  cells := fun (x, _) => [.lst x.l]
  pre := fun (x, n) => 0 ≤ x.i ∧ n ≤ 200
  post := fun (x, n) r os => ∃ (o : List Nat) (y : Bg), r = .val (.list (inN o)) ∧ os = [.lst y.l] ∧ 0 ≤ y.i ∧ o.Perm (List.range n)
section
variable {P : Program} {w : World} {K : PySem.W.Frag} {mg : Str → Option Value} {base : Heap}
theorem ok__law_order (T : Tx P K mg) : FnOk P w K mg base CX0 2 T.a__law_order T.d__law_order ["bag", "count"] (SpB K sp__law_order) := by
  refine T.F__law_order.ok sc__law_order (fun vs H Q E h => spB_len h (fun _ => rfl)) (fun cdv A outer s H vs Q E hr h => ⟨_, PSs.nox ((pss_cons (ps_set (i := 2) sc__law_order.nd rfl (.inl rfl) (pe_listRg rfl (by rfl) T.z_list (prg_1 (by rfl) T.z_range (pv 1))))
      (pss_cons (ps_set (i := 3) sc__law_order.nd rfl (.inl rfl) (pe_lst pa_nil))
      (pss_cons (ps_for PassesOwn.never rfl (pi_range1 (by rfl) T.z_range (pa_cons (pv 1) pa_nil)) (pg_name (i := 4) sc__law_order.nd rfl (.inl rfl) (.inr rfl))
      (pss_one (ps_expr (pe_bm PySem.F.plainAttrs_list PySem.F.slot_list_append PySem.F.type_list_append mt_append (pv 3) (pa_cons (pe_bm PySem.F.plainAttrs_list PySem.F.slot_list_pop PySem.F.type_list_pop mt_popAt (pv 2) (pa_cons (pe_call (ok__law_take T) (hr.mono (by decide)) (by rfl) T.g__law_take T.F__law_take.kp (b__law_take T.F__law_take) .nil pass0 (pa_cons (pv 0) (pa_cons (pe_callB call_len (by rfl) T.z_len (by decide +kernel) (pa_cons (pv 2) pa_nil)) pa_nil))) pa_nil)) pa_nil)))))
      (pss_one (ps_ret (pv 3))))))), ?_⟩)
  refine go_fn (L := ["bag", "count", "left", "order", "k"]) h (fun b i hp hX => ?_)
  dsimp only [cxOf, L2H.cxH, L2.Cx.nox, L2.Cx.wish]
  
  obtain ⟨x, n⟩ := i
  obtain ⟨h0, hn⟩ := hp
  show GO K b _ ⟨[some (.o 0), some (.d (.int n)), none, none, none], [.lst x.l]⟩ _
  refine go_sAsg (ev_lstRg1 (ev_var rfl ⟨n, rfl, by omega, gt_name ?_⟩))
  rw [rng_inN]
  refine go_sAsg (ev_lstO (ea_nil ⟨[], rfl, rfl, gt_name ?_⟩))
  refine go_seq (go_for (ei_r1 ?_))
  repeat walk_at "z1"
  
  refine ⟨by omega, by omega, ?_⟩
  refine ⟨fun k s => ∃ (l o : List Nat) (y : Bg) (x4 : Option Dw.A), l.length + k = n ∧ (l ++ o).Perm (List.range n) ∧ 0 ≤ y.i ∧ s = ⟨[some (.o 0), some (.d (.int n)), some (.o 1), some (.o 2), x4], [.lst y.l, .lst (inN l), .lst (inN o)]⟩, ⟨List.range n, [], x, none, by simp, by rw [List.append_nil], h0, rfl⟩, fun _ _ _ _ => trivial, ?_, ?_⟩
  · rintro k v s2 hx ⟨l, o, y, x4, hk, hperm, hy, rfl⟩
    obtain ⟨hk4, rfl⟩ := rngD_get hx
    have ho : o.length ≤ 200 := by
      have := hperm.length_eq
      rw [List.length_append, List.length_range] at this
      omega
    refine gt_name ?_
    refine go_drop (ev_bmL (ev_var (a := .o 2) rfl ⟨⟨2, inN o, rfl, rfl⟩, ?_⟩))
    repeat walk_at "z1"
  
    refine ev_bmL (ev_var (a := .o 1) rfl ⟨⟨1, inN l, rfl, rfl⟩, ?_⟩)
    repeat walk_at "z1"
  
    (refine ev_take ?_; repeat walk_at "z1")
    repeat walk_at "z1"
  
    refine ⟨y, l.length, _, _, by rw [inN_len], rfl, hy, ⟨by omega, by omega⟩, fun m y2 hy2 m0 m1 => ?_⟩
    repeat walk_at "z1"
  
    obtain ⟨z, hz⟩ : ∃ z, l[m.toNat]? = some z := ⟨l[m.toNat]'(by omega), List.getElem?_eq_getElem _⟩
    refine vm_popAt (n := 1) (ds := inN l) (i := m) (m := m.toNat) (z := .int z) rfl (by omega) (by omega) (seq_ix m0 (by rw [inN_len]; exact m1)) (by rw [inN, List.getElem?_map, hz]; rfl) ?_
    rw [inN_erase]
    repeat walk_at "z1"
  
    refine vm_append (n := 2) (ds := inN o) rfl (Nat.lt_of_le_of_lt (show _ ≤ 1000 by rw [inN_len]; omega) (by decide)) ?_
    rw [inN_snoc]
    refine ⟨l.eraseIdx m.toNat, o ++ [z], y2, _, ?_, (pop_perm hz).trans hperm, hy2, rfl⟩
    rw [List.length_eraseIdx_of_lt (by omega)]
    omega
  · rintro s2 ⟨l, o, y, x4, hk, hperm, hy, rfl⟩
    rw [rngD_len] at hk
    have e : l = [] := List.length_eq_zero_iff.mp (by omega)
    subst e
    refine go_ret (ev_frz (xs := inN o) rfl rfl (rt_val ?_))
    exact ⟨o, y, rfl, rfl, hy, hperm⟩
end
section
variable {K : PySem.W.Frag} {b : B} {s : S} {t : TA} {Φ : Dw.A → S → Prop}
theorem ev_order (h : EA K b t s fun as s1 => ∃ (x : Bg) (n : Nat) (ss : List (Option Dw.A)) (cs : List C), as = [.o 0, .d (.int n)] ∧ s1 = ⟨ss, .lst x.l :: cs⟩ ∧ 0 ≤ x.i ∧ n ≤ 200 ∧ ∀ (o : List Nat) (y : Bg), 0 ≤ y.i → o.Perm (List.range n) → Φ (.d (.list (inN o))) ⟨ss, .lst y.l :: cs⟩) : EV K b (tCall (SpB K sp__law_order) [] E0 t) s Φ := by
  refine ev_call1 0 fun σ H tv tl Hd ps R Q k => h σ H tv tl Hd ps R Q fun vs H1 as s1 Hd1 ps1 h1 R1 a1 => k vs H1 as s1 Hd1 ps1 ?_ R1 a1
  obtain ⟨x, n, ss, cs, rfl, rfl, h0, hn, q⟩ := h1
  refine ⟨(x, n), .lst x.l, [.d (.int n)], rfl, rfl, rfl, rfl, (fun z => nomatch z), rfl, ⟨h0, hn⟩, fun r c' hr => ?_, fun x c' hx => (show False from hx).elim⟩
  obtain ⟨o, y, rfl, e, h1, h2⟩ := hr
  cases e
  exact q o y h1 h2
theorem ev_number (h : EA K b t s fun as s1 => ∃ (x : Bg) (n : Int) (ss : List (Option Dw.A)) (cs : List C), as = [.o 0, .d (.int n)] ∧ s1 = ⟨ss, .lst x.l :: cs⟩ ∧ 0 ≤ x.i ∧ ∀ (m : Int) (y : Bg), 0 ≤ y.i → -(10 ^ 36) ≤ m → m ≤ 10 ^ 36 → Φ (.d (.int m)) ⟨ss, .lst y.l :: cs⟩) : EV K b (tCall (SpB K sp__law_number) [] E0 t) s Φ := by
  refine ev_call1 0 fun σ H tv tl Hd ps R Q k => h σ H tv tl Hd ps R Q fun vs H1 as s1 Hd1 ps1 h1 R1 a1 => k vs H1 as s1 Hd1 ps1 ?_ R1 a1
  obtain ⟨x, n, ss, cs, rfl, rfl, h0, q⟩ := h1
  refine ⟨(x, n), .lst x.l, [.d (.int n)], rfl, rfl, rfl, rfl, (fun z => nomatch z), rfl, h0, fun r c' hr => ?_, fun x c' hx => (show False from hx).elim⟩
  obtain ⟨m, y, rfl, e, h1, h2, h3⟩ := hr
  cases e
  exact q m y h1 h2 h3
end
def sp__law_around : Spc where
  I := Bg × Int × List Int × Nat × Nat
  args := fun (x, u, sc, i, j) => [.o 0, .d (.int u), .d (.list (inL sc)), .d (.int i), .d (.int j)]
  cells := fun (x, _) => [.lst x.l]
  pre := fun (x, u, sc, i, j) => 0 ≤ x.i ∧ (1 ≤ u ∧ u ≤ 100) ∧ i < sc.length ∧ j < sc.length
  post := fun (x, u, sc, i, j) r os => ∃ (c w : Int) (y : Bg), r = .val (.tuple [.int i, .int j, .int c, .int w]) ∧ os = [.lst y.l] ∧ 0 ≤ y.i ∧ (w = 0 ∨ w = 1) ∧ sc.getD i 0 - sc.getD j 0 ≤ c * u - (1 - w)
section
variable {P : Program} {w : World} {K : PySem.W.Frag} {mg : Str → Option Value} {base : Heap}
theorem ok__law_around (T : Tx P K mg) : FnOk P w K mg base CX0 2 T.a__law_around T.d__law_around ["bag", "unit", "secret", "i", "j"] (SpB K sp__law_around) := by
  refine T.F__law_around.ok sc__law_around (fun vs H Q E h => spB_len h (fun _ => rfl)) (fun cdv A outer s H vs Q E hr h => ⟨_, PSs.nox ((pss_cons (ps_set (i := 5) sc__law_around.nd rfl (.inl rfl) (pe_op op_sub (pe_ix ix_seq (pv 2) (pv 3) (fun _ _ => rfl)) (pe_ix ix_seq (pv 2) (pv 4) (fun _ _ => rfl))))
      (pss_cons (ps_set (i := 6) sc__law_around.nd rfl (.inl rfl) (pe_op op_addA (pe_un un_neg (pe_op op_fdivW (pe_un un_neg (pv 5)) (pv 1))) (pe_ix ix_seq (pe_lst (pa_cons pe_int (pa_cons pe_int (pa_cons pe_int (pa_cons pe_int (pa_cons pe_int (pa_cons pe_int pa_nil))))))) (pe_call (ok__law_take T) (hr.mono (by decide)) (by rfl) T.g__law_take T.F__law_take.kp (b__law_take T.F__law_take) .nil pass0 (pa_cons (pv 0) (pa_cons pe_int pa_nil))) (fun _ _ => rfl))))
      (pss_cons (ps_if (pt_cmpR (op_eqD hr.units) (pe_op op_mulA (pv 6) (pv 1)) (pv 5) (nomark _))
      (pss_one (ps_ret (pe_tup (pa_cons (pv 3) (pa_cons (pv 4) (pa_cons (pv 6) (pa_cons pe_int pa_nil)))))))
      pss_nil)
      (pss_one (ps_ret (pe_tup (pa_cons (pv 3) (pa_cons (pv 4) (pa_cons (pv 6) (pa_cons (pe_call (ok__law_take T) (hr.mono (by decide)) (by rfl) T.g__law_take T.F__law_take.kp (b__law_take T.F__law_take) .nil pass0 (pa_cons (pv 0) (pa_cons pe_int pa_nil))) pa_nil))))))))))), ?_⟩)
  refine go_fn (L := ["bag", "unit", "secret", "i", "j", "gap", "c"]) h (fun b i hp hX => ?_)
  dsimp only [cxOf, L2H.cxH, L2.Cx.nox, L2.Cx.wish]
  
  obtain ⟨x, u, sc, i, j⟩ := i
  obtain ⟨h0, ⟨u1, u2⟩, hi, hj⟩ := hp
  have gi : ∀ k : Nat, k < sc.length → atI (inL sc) (k : Int) = some (.int (sc.getD k 0)) := fun k hk => atI_n (by
    rw [inL, List.getElem?_map, List.getElem?_eq_getElem hk]
    simp [List.getD, List.getElem?_eq_getElem hk])
  have ei := gi i hi
  have ej := gi j hj
  show GO K b _ ⟨[some (.o 0), some (.d (.int u)), some (.d (.list (inL sc))), some (.d (.int i)), some (.d (.int j)), none, none], [.lst x.l]⟩ _
  obtain ⟨a, ha⟩ : ∃ a, sc.getD i 0 = a := ⟨_, rfl⟩
  obtain ⟨d, hd⟩ : ∃ d, sc.getD j 0 = d := ⟨_, rfl⟩
  rw [ha] at ei
  rw [hd] at ej
  repeat walk_at "z1"
  
  refine ev_lst ?_
  repeat walk_at "z1"
  
  (refine ev_take ?_; repeat walk_at "z1")
  refine ⟨x, _, _, _, rfl, rfl, h0, by first | decide | omega, fun m y hy m0 m1 => ?_⟩
  obtain ⟨e, he, e0⟩ : ∃ e : Int, atI (inL [0, 0, 0, 1, 2, 7]) m = some (.int e) ∧ 0 ≤ e := by
    have : m = 0 ∨ m = 1 ∨ m = 2 ∨ m = 3 ∨ m = 4 ∨ m = 5 := by omega
    rcases this with rfl | rfl | rfl | rfl | rfl | rfl
    · exact ⟨_, rfl, by decide⟩
    · exact ⟨_, rfl, by decide⟩
    · exact ⟨_, rfl, by decide⟩
    · exact ⟨_, rfl, by decide⟩
    · exact ⟨_, rfl, by decide⟩
    · exact ⟨_, rfl, by decide⟩
  refine v2_ixL (ds := inL [0, 0, 0, 1, 2, 7]) he ?_
  have big : a - d ≤ (-(-(a - d) / u) + e) * u := by
    have q := Int.ediv_mul_le (-(a - d)) (show u ≠ 0 by omega)
    have r := Int.mul_nonneg e0 (show 0 ≤ u by omega)
    rw [Int.add_mul, Int.neg_mul]
    omega
  refine v2_addI ?_
  generalize -(-(a - d) / u) + e = c at *
  repeat walk_at "z3"
  
  refine ⟨fun z => ?_, fun z => ?_⟩
  · repeat walk_at "z3"
  
    exact ⟨c, 1, y, rfl, rfl, hy, .inr rfl, by rw [ha, hd]; omega⟩
  · have hne : c * u ≠ a - d := of_decide_eq_false z
    repeat walk_at "z3"
  
    (refine ev_take ?_; repeat walk_at "z1")
    refine ⟨y, _, _, _, rfl, rfl, hy, by first | decide | omega, fun w y2 hy2 w0 w1 => ?_⟩
    repeat walk_at "z3"
  
    exact ⟨c, w, y2, rfl, rfl, hy2, by omega, by rw [ha, hd]; omega⟩
end
def sp__law_mixed : Spc where
  I := Bg × List PyData × List PyData
  args := fun (x, rs, ms) => [.o 0, .d (.list rs), .d (.list ms)]
  cells := fun (x, _) => [.lst x.l]
  pre := fun (x, rs, ms) => 0 ≤ x.i ∧ rs.length + ms.length ≤ 1000
  post := fun (x, rs, ms) r os => ∃ (mx : List PyData) (y : Bg), r = .val (.list mx) ∧ os = [.lst y.l] ∧ 0 ≤ y.i ∧ mx.Perm (rs ++ ms)
section
variable {P : Program} {w : World} {K : PySem.W.Frag} {mg : Str → Option Value} {base : Heap}
theorem ok__law_mixed (T : Tx P K mg) : FnOk P w K mg base CX0 2 T.a__law_mixed T.d__law_mixed ["bag", "rows", "more"] (SpB K sp__law_mixed) := by
  refine T.F__law_mixed.ok sc__law_mixed (fun vs H Q E h => spB_len h (fun _ => rfl)) (fun cdv A outer s H vs Q E hr h => ⟨_, PSs.nox ((pss_cons (ps_set (i := 3) sc__law_mixed.nd rfl (.inl rfl) (pe_callTy call_list_of (by rfl) T.z_list (by decide +kernel) (pa_cons (pv 1) pa_nil)))
      (pss_cons (ps_for PassesOwn.never rfl (pi_any (pv 2)) (pg_name (i := 4) sc__law_mixed.nd rfl (.inl rfl) (.inr rfl))
      (pss_one (ps_expr (pe_bm PySem.F.plainAttrs_list PySem.F.slot_list_insert PySem.F.type_list_insert mt_insert (pv 3) (pa_cons (pe_call (ok__law_take T) (hr.mono (by decide)) (by rfl) T.g__law_take T.F__law_take.kp (b__law_take T.F__law_take) .nil pass0 (pa_cons (pv 0) (pa_cons (pe_op op_addA (pe_callB call_len (by rfl) T.z_len (by decide +kernel) (pa_cons (pv 3) pa_nil)) pe_int) pa_nil))) (pa_cons (pv 4) pa_nil))))))
      (pss_one (ps_ret (pv 3)))))), ?_⟩)
  refine go_fn (L := ["bag", "rows", "more", "mixed", "row"]) h (fun b i hp hX => ?_)
  dsimp only [cxOf, L2H.cxH, L2.Cx.nox, L2.Cx.wish]
  
  obtain ⟨x, rs, ms⟩ := i
  obtain ⟨h0, hlen⟩ := hp
  show GO K b _ ⟨[some (.o 0), some (.d (.list rs)), some (.d (.list ms)), none, none], [.lst x.l]⟩ _
  repeat walk_at "z1"
  
  refine vc_listO (ds := rs) (.inl rfl) ?_
  refine gt_name ?_
  refine go_seq (go_for (ei_anyL (ei_list (ev_var rfl ⟨ms, fun _ => True, .inl rfl, trivial, ?_⟩))))
  refine ⟨fun k s => ∃ (mx : List PyData) (y : Bg) (x4 : Option Dw.A), mx.Perm (rs ++ ms.take k) ∧ 0 ≤ y.i ∧ s = ⟨[some (.o 0), some (.d (.list rs)), some (.d (.list ms)), some (.o 1), x4], [.lst y.l, .lst mx]⟩, ⟨rs, x, none, by rw [List.take_zero, List.append_nil], h0, rfl⟩, fun _ _ _ _ => trivial, ?_, ?_⟩
  · rintro k v s2 hx ⟨mx, y, x4, hperm, hy, rfl⟩
    have hk := (List.getElem?_eq_some_iff.mp hx).1
    have hl : mx.length ≤ 1000 := by
      have := hperm.length_eq
      rw [List.length_append, List.length_take] at this
      omega
    refine gt_name ?_
    refine go_drop (ev_bmL (ev_var (a := .o 1) rfl ⟨⟨1, mx, rfl, rfl⟩, ?_⟩))
    repeat walk_at "z1"
  
    (refine ev_take ?_; repeat walk_at "z1")
    repeat walk_at "z1"
  
    refine ⟨y, (mx.length : Int) + 1, _, _, rfl, rfl, hy, ⟨by omega, by omega⟩, fun m y2 hy2 m0 m1 => ?_⟩
    repeat walk_at "z1"
  
    refine vm_insert (n := 1) (ds := mx) (z := v) (i := m) rfl (Nat.lt_of_le_of_lt hl (by decide)) m0 (by omega) ?_
    refine ⟨mx.take m.toNat ++ [v] ++ mx.drop m.toNat, y2, _, ?_, hy2, rfl⟩
    have p1 : (mx.take m.toNat ++ [v] ++ mx.drop m.toNat).Perm (v :: mx) := by
      rw [List.append_assoc]
      have := List.perm_middle (a := v) (l₁ := mx.take m.toNat) (l₂ := mx.drop m.toNat)
      rw [List.take_append_drop] at this
      exact this
    have p2 : (v :: mx).Perm (mx ++ [v]) := (List.perm_append_singleton v mx).symm
    refine (p1.trans p2).trans ?_
    rw [List.take_add_one, hx, ← List.append_assoc]
    exact hperm.append_right _
  · rintro s2 ⟨mx, y, x4, hperm, hy, rfl⟩
    rw [List.take_length] at hperm
    refine go_ret (ev_frz (xs := mx) rfl rfl (rt_val ?_))
    exact ⟨mx, y, rfl, rfl, hy, hperm⟩
end
def sp__law_stairs : Spc where
  I := Bg × Nat × Int
  args := fun (x, n, sc) => [.o 0, .d (.int n), .d (.int sc)]
  cells := fun (x, _) => [.lst x.l]
  pre := fun (x, n, _) => 0 ≤ x.i ∧ 1 ≤ n ∧ n ≤ 200
  post := fun (x, n, _) r os => ∃ (o : List Nat) (f : List Int) (y : Bg), r = .val (.list ((List.range n).map fun k => lmD (stair n o f k))) ∧ os = [.lst y.l] ∧ 0 ≤ y.i ∧ o.Perm (List.range n) ∧ f.length = n
section
variable {P : Program} {w : World} {K : PySem.W.Frag} {mg : Str → Option Value} {base : Heap}
theorem ok__law_stairs (T : Tx P K mg) : FnOk P w K mg base CX0 3 T.a__law_stairs T.d__law_stairs ["bag", "count", "scale"] (SpB K sp__law_stairs) := by
  refine T.F__law_stairs.ok sc__law_stairs (fun vs H Q E h => spB_len h (fun _ => rfl)) (fun cdv A outer s H vs Q E hr h => ⟨_, PSs.nox ((pss_cons (ps_set (i := 3) sc__law_stairs.nd rfl (.inl rfl) (pe_call (ok__law_order T) (hr.mono (by decide)) (by rfl) T.g__law_order T.F__law_order.kp (b__law_order T.F__law_order) .nil pass0 (pa_cons (pv 0) (pa_cons (pv 1) pa_nil))))
      (pss_cons (ps_setLc (i := 5) (own := [("k", 4)]) rfl sc__law_stairs.nd rfl rfl (sw_true rfl rfl rfl (by decide +kernel)) (pi_range1 (by rfl) T.z_range (pa_cons (pv 1) pa_nil)) (blkOk_by (own := [("k", 4)]) (N := ["bag", "count", "scale", "order", "k", "offsets", "rows", "i", "j"]) (sc := defScope s__law_stairs) (by decide +kernel)) (fun _ _ _ _ _ => (pg_name (i := 4) sc__law_stairs.nd rfl (.inl rfl) (.inr rfl))) (fun _ _ _ _ _ => pts_nil) (fun _ _ _ _ _ => (pe_call (ok__law_number T) (hr.mono (by decide)) (by rfl) T.g__law_number T.F__law_number.kp (b__law_number T.F__law_number) .nil pass0 (pa_cons (pv 0) (pa_cons (pv 2) pa_nil)))))
      (pss_cons (ps_set (i := 6) sc__law_stairs.nd rfl (.inl rfl) (pe_lst pa_nil))
      (pss_cons (ps_for PassesOwn.never rfl (pi_range1 (by rfl) T.z_range (pa_cons (pv 1) pa_nil)) (pg_name (i := 4) sc__law_stairs.nd rfl (.inl rfl) (.inr rfl))
      (pss_cons (ps_set (i := 7) sc__law_stairs.nd rfl (.inl rfl) (pe_ix ix_seq (pv 3) (pv 4) (fun _ _ => rfl)))
      (pss_cons (ps_set (i := 8) sc__law_stairs.nd rfl (.inl rfl) (pe_ix ix_seq (pv 3) (pe_op op_mod (pe_op op_addA (pv 4) pe_int) (pv 1)) (fun _ _ => rfl)))
      (pss_one (ps_expr (pe_bm PySem.F.plainAttrs_list PySem.F.slot_list_append PySem.F.type_list_append mt_append (pv 6) (pa_cons (pe_tup (pa_cons (pv 7) (pa_cons (pv 8) (pa_cons (pe_op op_addA (pe_op op_sub (pe_ix ix_seq (pv 5) (pv 7) (fun _ _ => rfl)) (pe_ix ix_seq (pv 5) (pv 8) (fun _ _ => rfl))) (pe_callTy call_int1 (by rfl) T.z_int (by decide +kernel) (pa_cons (pe_cmpR (op_eqD hr.units) (pv 4) (pe_op op_sub (pv 1) pe_int) (nomark _)) pa_nil))) (pa_cons pe_int pa_nil))))) pa_nil)))))))
      (pss_one (ps_ret (pv 6)))))))), ?_⟩)
  refine go_fn (L := ["bag", "count", "scale", "order", "k", "offsets", "rows", "i", "j"]) h (fun b i hp hX => ?_)
  dsimp only [cxOf, L2H.cxH, L2.Cx.nox, L2.Cx.wish]
  
  obtain ⟨x, n, sc⟩ := i
  obtain ⟨h0, n1, hn⟩ := hp
  show GO K b _ ⟨[some (.o 0), some (.d (.int n)), some (.d (.int sc)), none, none, none, none, none, none], [.lst x.l]⟩ _
  repeat walk_at "z1"
  
  refine ev_order ?_
  repeat walk_at "z1"
  
  refine ⟨x, n, _, _, rfl, rfl, h0, hn, fun o y hy ho => ?_⟩
  have hol : o.length = n := by have := ho.length_eq; rw [List.length_range] at this; exact this
  have hor : ∀ k, k < n → o.getD k 0 < n := fun k hk => by
    have m : o.getD k 0 ∈ o := by
      rw [List.getD, List.getElem?_eq_getElem (by omega)]
      exact List.getElem_mem _
    exact List.mem_range.mp (ho.mem_iff.mp m)
  refine gt_name ?_
  refine go_sAsg (ev_lc (tg_name (.head _)) mg_name (ei_r1 ?_))
  repeat walk_at "z1"
  
  refine ⟨by omega, by omega, ?_⟩
  refine ⟨fun k js s => ∃ (f : List Int) (y : Bg), f.length = k ∧ 0 ≤ y.i ∧ js = inL f ∧ s = ⟨[some (.o 0), some (.d (.int n)), some (.d (.int sc)), some (.d (.list (inN o))), none, none, none, none, none], [.lst y.l, .lst (inL f)]⟩, ⟨[], y, rfl, hy, rfl, rfl⟩, ?_, ?_, ?_⟩
  · rintro k js s3 _ ⟨f, y, _, _, rfl, rfl⟩
    exact ⟨trivial, rfl⟩
  · rintro k v js s3 hx ⟨f, y, hk, hy, rfl, rfl⟩
    obtain ⟨hk4, rfl⟩ := rngD_get hx
    rw [Int.toNat_natCast] at hk4
    refine gt_name ?_
    refine fun σ H tv tl Hd ps R Q kk => kk true H _ Hd ps ⟨fun _ => ?_, fun h => (nomatch h)⟩ R
    refine ev_number ?_
    repeat walk_at "z1"
  
    refine ⟨y, sc, _, _, rfl, rfl, hy, fun m y2 hy2 _ _ => ?_⟩
    have e : inL f ++ [.int m] = inL (f ++ [m]) := by rw [inL, inL, List.map_append]; rfl
    refine ⟨_, rfl, rfl, Nat.lt_of_le_of_lt (show _ ≤ 1000 by rw [inL, List.length_map]; omega) (by decide), f ++ [m], y2, by simp; omega, hy2, e, ?_⟩
    rw [← e]
    rfl
  · rintro js s3 ⟨f, y, hf, hy, rfl, rfl⟩
    rw [rngD_len, Int.toNat_natCast] at hf
    refine gt_name ?_
    refine go_sAsg (ev_lstO (ea_nil ⟨[], rfl, rfl, gt_name ?_⟩))
    refine go_seq (go_for (ei_r1 ?_))
    repeat walk_at "z1"
  
    refine ⟨by omega, by omega, ?_⟩
    refine ⟨fun k s => ∃ (y : Bg) (x4 x7 x8 : Option Dw.A), 0 ≤ y.i ∧ s = ⟨[some (.o 0), some (.d (.int n)), some (.d (.int sc)), some (.d (.list (inN o))), x4, some (.o 1), some (.o 2), x7, x8], [.lst y.l, .lst (inL f), .lst ((List.range k).map fun k => lmD (stair n o f k))]⟩, ⟨y, none, none, none, hy, rfl⟩, fun _ _ _ _ => trivial, ?_, ?_⟩
    · rintro k v s2 hx ⟨y, x4, x7, x8, hy, rfl⟩
      obtain ⟨hk, rfl⟩ := rngD_get hx
      rw [Int.toNat_natCast] at hk
      rw [Int.zero_add]
      have e1 := inN_at (o := o) (k := k) (by omega)
      have hm : (k + 1) % n < n := Nat.mod_lt _ (by omega)
      have e2 : atI (inN o) (((k : Int) + 1) % (n : Int)) = some (.int (o.getD ((k + 1) % n) 0 : Nat)) := inN_at (o := o) (k := (k + 1) % n) (by omega)
      have e3 := inL_at (o := f) (k := o.getD k 0) (by have := hor k hk; omega)
      have e4 := inL_at (o := f) (k := o.getD ((k + 1) % n) 0) (by have := hor _ hm; omega)
      repeat walk_at "z1"
  
      refine ev_bmL (ev_var (a := .o 2) rfl ⟨⟨2, (List.range k).map fun k => lmD (stair n o f k), rfl, rfl⟩, ?_⟩)
      repeat walk_at "z1"
  
      refine v2_ixO (n := 1) (ds := inL f) rfl e3 ?_
      repeat walk_at "z1"
  
      refine v2_ixO (n := 1) (ds := inL f) rfl e4 ?_
      repeat walk_at "z1"
  
      refine vm_append (n := 2) (ds := (List.range k).map fun k => lmD (stair n o f k)) rfl (Nat.lt_of_le_of_lt (show _ ≤ 1000 by rw [List.length_map, List.length_range]; omega) (by decide)) ?_
      refine ⟨y, some (.d (.int (k : Int))), some (.d (.int ((o.getD k 0 : Nat) : Int))), some (.d (.int ((o.getD ((k + 1) % n) 0 : Nat) : Int))), hy, ?_⟩
      rw [List.range_succ, List.map_append]
      have e5 : (if decide ((k : Int) = (n : Int) - 1) = true then (1 : Int) else 0) = if k + 1 = n then 1 else 0 := by
        by_cases z : k + 1 = n
        · rw [if_pos z, if_pos (decide_eq_true (by omega))]
        · rw [if_neg z, if_neg (by simp; omega)]
      rw [e5]
      rfl
    · rintro s2 ⟨y, x4, x7, x8, hy, rfl⟩
      rw [rngD_len, Int.toNat_natCast]
      refine go_ret (ev_frz (xs := (List.range n).map fun k => lmD (stair n o f k)) rfl rfl (rt_val ?_))
      exact ⟨o, f, y, rfl, rfl, hy, ho, hf⟩
end
def sp_solution_of : Spc where
  I := Nat × List Int
  args := fun (n, f) => [.d (.int n), .d (.list (inL f))]
  cells := fun _ => []
  pre := fun (n, f) => 1 ≤ n ∧ n ≤ 200 ∧ 1 ≤ f.length ∧ f.length ≤ 1000
  post := fun (n, f) r _ => ∃ g : Int, 1 ≤ g ∧ (∃ m : Int, (n : Int) = g * m) ∧ (∀ v, v < f.length → ∃ m : Int, f.getD v 0 - f.getD 0 0 = g * m) ∧ r = .val (.tuple [.str (PySem.Str.ofString "times"), .int ((n : Int) / g), .list (inL (f.map fun v => (v - f.getD 0 0) / g))])
section
variable {P : Program} {w : World} {K : PySem.W.Frag} {mg : Str → Option Value} {base : Heap}
theorem ok_solution_of (T : Tx P K mg) : FnOk P w K mg base CX0 1 T.a_solution_of T.d_solution_of ["unit", "sums"] (SpB K sp_solution_of) := by
  refine T.F_solution_of.ok sc_solution_of (fun vs H Q E h => spB_len h (fun _ => rfl)) (fun cdv A outer s H vs Q E hr h => ⟨_, PSs.nox ((pss_cons (ps_setLc (i := 3) (own := [("value", 2)]) rfl sc_solution_of.nd rfl rfl (sw_true rfl rfl rfl (by decide +kernel)) (pi_any (pv 1)) (blkOk_by (own := [("value", 2)]) (N := ["unit", "sums", "value", "ticks", "share"]) (sc := defScope s_solution_of) (by decide +kernel)) (fun _ _ _ _ _ => (pg_name (i := 2) sc_solution_of.nd rfl (.inl rfl) (.inr rfl))) (fun _ _ _ _ _ => pts_nil) (fun _ _ _ _ _ => (pe_op op_sub (pv 2) (pe_ix (ix_seqK (K := K) rfl) (pv 1) pe_int (fun _ _ => rfl)))))
      (pss_cons (ps_set (i := 4) sc_solution_of.nd rfl (.inr rfl) (pv 0))
      (pss_cons (ps_for PassesOwn.never rfl (pi_any (pv 3)) (pg_name (i := 2) sc_solution_of.nd rfl (.inl rfl) (.inr rfl))
      (pss_one (ps_set (i := 4) sc_solution_of.nd rfl (.inr rfl) (pe_callBfun cr_gcd (by rfl) T.g_gcd (pa_cons (pv 4) (pa_cons (pv 2) pa_nil))))))
      (pss_one (ps_ret (pe_tup (pa_cons pe_str (pa_cons (pe_op op_fdivW (pv 0) (pv 4)) (pa_cons (pe_lc (own := [("value", 2)]) rfl sc_solution_of.nd (pi_any (pv 3)) (blkOk_by (own := [("value", 2)]) (N := ["unit", "sums", "value", "ticks", "share"]) (sc := defScope s_solution_of) (by decide +kernel)) (fun _ _ _ _ _ => (pg_name (i := 2) sc_solution_of.nd rfl (.inl rfl) (.inr rfl))) (fun _ _ _ _ _ => pts_nil) (fun _ _ _ _ _ => (pe_op op_fdivW (pv 2) (pv 4)))) pa_nil)))))))))), ?_⟩)
  refine go_fn (L := ["unit", "sums", "value", "ticks", "share"]) h (fun b i hp hX => ?_)
  dsimp only [cxOf, L2H.cxH, L2.Cx.nox, L2.Cx.wish]
  
  obtain ⟨n, f⟩ := i
  obtain ⟨n1, n2, l1, l2⟩ := hp
  show GO K b _ ⟨[some (.d (.int n)), some (.d (.list (inL f))), none, none, none], []⟩ _
  have e0 := inL_at (o := f) (k := 0) (by omega)
  have e0 : atI (inL f) 0 = some (.int (f.getD 0 0)) := e0
  refine go_sAsg (ev_lc (tg_name (.head _)) mg_name (ei_anyL (ei_list (ev_var rfl ⟨inL f, fun _ => True, .inl rfl, trivial, ?_⟩))))
  refine ⟨fun k js s => js = inL ((f.take k).map fun v => v - f.getD 0 0) ∧ s = ⟨[some (.d (.int n)), some (.d (.list (inL f))), none, none, none], [.lst js]⟩, ⟨rfl, rfl⟩, ?_, ?_, ?_⟩
  · rintro k js s3 _ ⟨_, rfl⟩
    exact ⟨trivial, rfl⟩
  · rintro k v js s3 hx ⟨rfl, rfl⟩
    obtain ⟨m, hm⟩ : ∃ m, f[k]? = some m := ⟨f[k]'(by have := (List.getElem?_eq_some_iff.mp hx).1; rw [inL, List.length_map] at this; exact this), List.getElem?_eq_getElem _⟩
    have e : v = .int m := by
      rw [inL, List.getElem?_map, hm] at hx
      exact (Option.some.inj hx).symm
    subst e
    refine gt_name ?_
    refine fun σ H tv tl Hd ps R Q kk => kk true H _ Hd ps ⟨fun _ => ?_, fun h => (nomatch h)⟩ R
    repeat walk_at "z1"
  
    refine ⟨rfl, Nat.lt_of_le_of_lt (show _ ≤ 1000 by rw [inL, List.length_map, List.length_map, List.length_take]; omega) (by decide), ?_, rfl⟩
    rw [List.take_add_one, hm, inL, inL, List.map_append, List.map_append]
    rfl
  · rintro js s3 ⟨rfl, rfl⟩
    rw [show (inL f).length = f.length from List.length_map .., List.take_of_length_le (Nat.le_refl _)]
    refine gt_name ?_
    repeat walk_at "z1"
  
    refine go_seq (go_for (ei_anyL (ei_list (ev_var rfl ⟨inL (f.map fun v => v - f.getD 0 0), fun o => o[0]? = some (.lst (inL (f.map fun v => v - f.getD 0 0))), .inr ⟨0, rfl, fun o h => h⟩, rfl, ?_⟩))))
    refine ⟨fun k s => ∃ (g : Int) (x4 : Option Dw.A), 1 ≤ g ∧ g ≤ n ∧ (∃ m : Int, (n : Int) = g * m) ∧ (∀ v, v < k → v < f.length → ∃ m : Int, f.getD v 0 - f.getD 0 0 = g * m) ∧ s = ⟨[some (.d (.int n)), some (.d (.list (inL f))), x4, some (.o 0), some (.d (.int g))], [.lst (inL (f.map fun v => v - f.getD 0 0))]⟩, ⟨(n : Int), none, by omega, by omega, ⟨1, by omega⟩, (fun v h => absurd h (Nat.not_lt_zero v)), rfl⟩, (by rintro k s2 _ ⟨_, _, _, _, _, _, rfl⟩; rfl), ?_, ?_⟩
    · rintro k v s2 hx ⟨g, x4, g1, g2, ⟨m, hm⟩, hall, rfl⟩
      obtain ⟨a, ha⟩ : ∃ a, f[k]? = some a := ⟨f[k]'(by have := (List.getElem?_eq_some_iff.mp hx).1; rw [inL, List.length_map, List.length_map] at this; exact this), List.getElem?_eq_getElem _⟩
      have ea : f.getD k 0 = a := by rw [List.getD, ha]; rfl
      have e : v = .int (a - f.getD 0 0) := by
        rw [inL, List.getElem?_map, List.getElem?_map, ha] at hx
        exact (Option.some.inj hx).symm
      subst e
      refine gt_name ?_
      repeat walk_at "z1"
  
      refine vc_gcd ?_
      repeat walk_at "z1"
  
      have hg0 : Nat.gcd g.natAbs (a - f.getD 0 0).natAbs ≠ 0 := fun z => by
        have := (Nat.gcd_eq_zero_iff.mp z).1
        omega
      have d1 : ((Nat.gcd g.natAbs (a - f.getD 0 0).natAbs : Nat) : Int) ∣ g := Int.ofNat_dvd_left.mpr (Nat.gcd_dvd_left _ _)
      have d2 : ((Nat.gcd g.natAbs (a - f.getD 0 0).natAbs : Nat) : Int) ∣ (a - f.getD 0 0) := Int.ofNat_dvd_left.mpr (Nat.gcd_dvd_right _ _)
      have hle := Int.le_of_dvd (by omega) d1
      obtain ⟨p, hp⟩ := d1
      obtain ⟨q, hq⟩ := d2
      refine ⟨_, _, by omega, by omega, ⟨p * m, by rw [← Int.mul_assoc, ← hp]; exact hm⟩, fun w h1 h2 => ?_, rfl⟩
      by_cases e : w = k
      · subst e
        rw [ea]
        exact ⟨q, hq⟩
      · obtain ⟨z, hz⟩ := hall w (by omega) h2
        exact ⟨p * z, by rw [← Int.mul_assoc, ← hp]; exact hz⟩
    · rintro s2 ⟨g, x4, g1, g2, hm, hall, rfl⟩
      rw [show (inL (f.map fun v => v - f.getD 0 0)).length = f.length by rw [inL, List.length_map, List.length_map]] at hall
      repeat walk_at "z1"
  
      refine ev_dat (ev_lc (tg_name (.head _)) mg_name (ei_anyL (ei_list (ev_var rfl ⟨inL (f.map fun v => v - f.getD 0 0), fun o => o[0]? = some (.lst (inL (f.map fun v => v - f.getD 0 0))), .inr ⟨0, rfl, fun o h => h⟩, rfl, ?_⟩))))
      refine ⟨fun k js s => js = inL (((f.map fun v => v - f.getD 0 0).take k).map fun v => v / g) ∧ s = ⟨[some (.d (.int n)), some (.d (.list (inL f))), none, some (.o 0), some (.d (.int g))], [.lst (inL (f.map fun v => v - f.getD 0 0)), .lst js]⟩, ⟨rfl, rfl⟩, ?_, ?_, ?_⟩
      · rintro k js s3 _ ⟨_, rfl⟩
        exact ⟨rfl, rfl⟩
      · rintro k v js s3 hx ⟨rfl, rfl⟩
        obtain ⟨m, hm⟩ : ∃ m, (f.map fun v => v - f.getD 0 0)[k]? = some m := ⟨(f.map fun v => v - f.getD 0 0)[k]'(by have := (List.getElem?_eq_some_iff.mp hx).1; rw [inL, List.length_map] at this; exact this), List.getElem?_eq_getElem _⟩
        have e : v = .int m := by
          rw [inL, List.getElem?_map, hm] at hx
          exact (Option.some.inj hx).symm
        subst e
        refine gt_name ?_
        refine fun σ H tv ta Hd ps R Q kk => kk true H _ Hd ps ⟨fun _ => ?_, fun h => (nomatch h)⟩ R
        repeat walk_at "z1"
  
        refine ⟨rfl, Nat.lt_of_le_of_lt (show _ ≤ 1000 by rw [inL, List.length_map, List.length_map, List.length_take, List.length_map]; omega) (by decide), ?_, rfl⟩
        rw [List.take_add_one, hm, inL, inL, List.map_append, List.map_append]
        rfl
      · rintro js s3 ⟨rfl, rfl⟩
        rw [show (inL (f.map fun v => v - f.getD 0 0)).length = (f.map fun v => v - f.getD 0 0).length from List.length_map .., List.take_of_length_le (Nat.le_refl _)]
        refine ⟨1, _, rfl, rfl, ?_⟩
        repeat walk_at "z1"
  
        refine ⟨g, g1, hm, fun v hv => hall v hv hv, ?_⟩
        rw [List.map_map]
        rfl
end
def sp_cycle_behind : Spc where
  I := Nat × List Lm × Bs × Nat
  args := fun (n, ls, s, v) => [.d (.list (lmsD ls)), .d (.list (fnL n (bkD s))), .d (.int v)]
  cells := fun _ => []
  pre := fun (n, ls, s, v) => Inv n ls n ls.length s ∧ Rg n ls ∧ W01 ls ∧ v < n ∧ n ≤ s.T v ∧ n ≤ 200
  post := fun (n, ls, s, v) r _ => ∃ ch, BadCh ls ch ∧ ch.length ≤ n ∧ r = .new (.lst (inN ch))
section
variable {P : Program} {w : World} {K : PySem.W.Frag} {mg : Str → Option Value} {base : Heap}
theorem ok_cycle_behind (T : Tx P K mg) : FnOk P w K mg base CX0 1 T.a_cycle_behind T.d_cycle_behind ["limits", "back", "at"] (SpB K sp_cycle_behind) := by
  refine T.F_cycle_behind.ok sc_cycle_behind (fun vs H Q E h => spB_len h (fun _ => rfl)) (fun cdv A outer s H vs Q E hr h => ⟨_, PSs.nox ((pss_cons (ps_set (i := 3) sc_cycle_behind.nd rfl (.inl rfl) (pv 2))
      (pss_cons (ps_for PassesOwn.never rfl (pi_range1 (by rfl) T.z_range (pa_cons (pe_callB call_len (by rfl) T.z_len (by decide +kernel) (pa_cons (pv 1) pa_nil)) pa_nil)) (pg_name (i := 4) sc_cycle_behind.nd rfl (.inl rfl) (.inr rfl))
      (pss_one (ps_set (i := 3) sc_cycle_behind.nd rfl (.inl rfl) (pe_ix ix_seq (pe_ix ix_seq (pv 0) (pe_ix ix_seq (pv 1) (pv 3) (fun _ _ => rfl)) (fun _ _ => rfl)) pe_int (fun _ _ => rfl)))))
      (pss_cons (ps_set (i := 5) sc_cycle_behind.nd rfl (.inl rfl) (pe_lst (pa_cons (pe_ix ix_seq (pv 1) (pv 3) (fun _ _ => rfl)) pa_nil)))
      (pss_cons (ps_set (i := 6) sc_cycle_behind.nd rfl (.inl rfl) (pe_ix ix_seq (pe_ix ix_seq (pv 0) (pe_ix ix_seq (pv 1) (pv 3) (fun _ _ => rfl)) (fun _ _ => rfl)) pe_int (fun _ _ => rfl)))
      (pss_cons (ps_while PassesOwn.never (pt_cmpR (op_neD hr.units) (pv 6) (pv 3) (nomark _))
      (pss_cons (ps_expr (pe_bm PySem.F.plainAttrs_list PySem.F.slot_list_append PySem.F.type_list_append mt_append (pv 5) (pa_cons (pe_ix ix_seq (pv 1) (pv 6) (fun _ _ => rfl)) pa_nil)))
      (pss_one (ps_set (i := 6) sc_cycle_behind.nd rfl (.inl rfl) (pe_ix ix_seq (pe_ix ix_seq (pv 0) (pe_ix ix_seq (pv 1) (pv 6) (fun _ _ => rfl)) (fun _ _ => rfl)) pe_int (fun _ _ => rfl))))))
      (pss_one (ps_ret (pv 5))))))))), ?_⟩)
  refine go_fn (L := ["limits", "back", "at", "start", "_", "chain", "here"]) h (fun b i hp hX => ?_)
  dsimp only [cxOf, L2H.cxH, L2.Cx.nox, L2.Cx.wish]
  
  obtain ⟨n, ls, s, v⟩ := i
  obtain ⟨I, hr, hw, hv, hT, hn⟩ := hp
  obtain ⟨m, m1, m2, hm, hb, hmin⟩ := ring I hr hv hT
  have lt : ∀ k, pth ls s v k < n := fun k => by
    obtain ⟨q, l, _, h2, h3, h4, _⟩ := edge I (hb k)
    rw [← h4]
    exact (hr l (List.mem_of_getElem? h2)).1
  have e1 : ∀ k, atI (fnL n (bkD s)) (pth ls s v k : Nat) = some (.int (bkN s (pth ls s v k) : Nat)) := fun k => by
    rw [fnL_at (lt k), bkD_at (bkN_at I (hb k)).1]
  have e2 : ∀ k, atI (lmsD ls) (bkN s (pth ls s v k) : Nat) = some (lmD (lmOf ls s (pth ls s v k))) := fun k => lmsD_at (bkN_at I (hb k)).2.1
  have e3 : ∀ k, lmOf ls s (pth ls s v k) = (pth ls s v k, pth ls s v (k + 1), (lmOf ls s (pth ls s v k)).2.2) := fun k => by
    rw [show pth ls s v (k + 1) = (lmOf ls s (pth ls s v k)).2.1 from rfl]
    exact Prod.ext (bkN_at I (hb k)).2.2 rfl
  have step : ∀ (k : Nat) (b : B) (s1 : S) (Φ : Dw.A → S → Prop) (j : Nat), s1.ss[0]? = some (some (.d (.list (lmsD ls)))) → s1.ss[1]? = some (some (.d (.list (fnL n (bkD s))))) → s1.ss[j]? = some (some (.d (.int (pth ls s v k : Nat)))) → Φ (.d (.int (pth ls s v (k + 1) : Nat))) s1 →
      EV K b (tOp (rIx K) (tOp (rIx K) (tVar 0) (tOp (rIx K) (tVar 1) (tVar j))) (tC (V.int 1))) s1 Φ := fun k b s1 Φ j h0 h1 hj q => by
    refine ev_op (ev_op (ev_var h0 (ev_op (ev_var h1 (ev_var hj ?_)))))
    refine v2_ixL (e1 k) ?_
    refine v2_ixL (e2 k) ?_
    rw [e3 k]
    exact ev_int (v2_ixT rfl q)
  have stepb : ∀ (k : Nat) (b : B) (s1 : S) (Φ : Dw.A → S → Prop) (j : Nat), s1.ss[1]? = some (some (.d (.list (fnL n (bkD s))))) → s1.ss[j]? = some (some (.d (.int (pth ls s v k : Nat)))) → Φ (.d (.int (bkN s (pth ls s v k) : Nat))) s1 →
      EV K b (tOp (rIx K) (tVar 1) (tVar j)) s1 Φ := fun k b s1 Φ j h1 hj q => ev_op (ev_var h1 (ev_var hj (v2_ixL (e1 k) q)))
  show GO K b _ ⟨[some (.d (.list (lmsD ls))), some (.d (.list (fnL n (bkD s)))), some (.d (.int v)), none, none, none, none], []⟩ _
  repeat walk_at "z1"
  
  refine go_seq (go_for (ei_r1 ?_))
  repeat walk_at "z1"
  
  rw [fnL_len]
  refine ⟨by omega, by omega, ?_⟩
  refine ⟨fun k s2 => ∃ (x4 : Option Dw.A), s2 = ⟨[some (.d (.list (lmsD ls))), some (.d (.list (fnL n (bkD s)))), some (.d (.int v)), some (.d (.int (pth ls s v k : Nat))), x4, none, none], []⟩, ⟨none, rfl⟩, fun _ _ _ _ => trivial, ?_, ?_⟩
  · rintro k x s2 hx ⟨x4, rfl⟩
    refine gt_name ?_
    refine go_asg ?_
    refine step k _ _ _ 3 rfl rfl rfl ?_
    refine gt_name ?_
    exact ⟨_, rfl⟩
  rintro s2 ⟨x4, rfl⟩
  rw [rngD_len, Int.toNat_natCast]
  refine go_sAsg (ev_lstO (ea_cons ?_))
  refine stepb n _ _ _ 3 rfl rfl ?_
  repeat walk_at "z1"
  
  refine v2_ixL (e1 n) ?_
  refine v2_ixL (e2 n) ?_
  rw [e3 n]
  repeat walk_at "z1"
  
  have pa : ∀ k, pth ls s (pth ls s v n) k = pth ls s v (n + k) := fun k => (pth_add n k).symm
  refine go_seq (go_while (fun d s2 => ∃ k, d = m - k ∧ 1 ≤ k ∧ k ≤ m ∧ s2 = ⟨[some (.d (.list (lmsD ls))), some (.d (.list (fnL n (bkD s)))), some (.d (.int v)), some (.d (.int (pth ls s v n : Nat))), x4, some (.o 0), some (.d (.int (pth ls s v (n + k) : Nat)))], [.lst (inN (chOf ls s (pth ls s v n) k))]⟩) (m - 1) ⟨1, rfl, Nat.le_refl _, m1, rfl⟩ ?_)
  rintro d s2 ⟨k, rfl, k1, k2, rfl⟩
  repeat walk_at "z1"
  
  refine ⟨fun z => ?_, fun z => ?_⟩
  · have hne : pth ls s v (n + k) ≠ pth ls s v n := fun e => by
      rw [e] at z
      simp at z
    have hk : k < m := by
      rcases Nat.lt_or_ge k m with l | l
      · exact l
      · have : k = m := by omega
        subst this
        rw [← pa, hm] at hne
        exact absurd rfl hne
    refine go_sDrop (ev_bmL (ev_var (a := .o 0) rfl ⟨⟨0, inN (chOf ls s (pth ls s v n) k), rfl, rfl⟩, ?_⟩))
    refine ea_cons ?_
    refine stepb (n + k) _ _ _ 6 rfl rfl ?_
    repeat walk_at "z1"
  
    refine vm_append (n := 0) (ds := inN (chOf ls s (pth ls s v n) k)) rfl (Nat.lt_of_le_of_lt (show _ ≤ 1000 by rw [inN_len, chOf_len]; omega) (by decide)) ?_
    refine go_asg ?_
    refine step (n + k) _ _ _ 6 rfl rfl rfl ?_
    refine gt_name ?_
    refine ⟨m - (k + 1), by omega, k + 1, rfl, by omega, hk, ?_⟩
    rw [inN_app, ← pa k, chOf_succ]
    rfl
  · have he : pth ls s v (n + k) = pth ls s v n := by
      have : ((pth ls s v (n + k) : Nat) : Int) = (pth ls s v n : Nat) := by simpa using z
      omega
    have hk : k = m := by
      apply Decidable.byContradiction
      intro hne
      exact hmin k k1 (by omega) (by rw [pa]; exact he)
    subst hk
    refine go_ret (ev_var (a := .o 0) rfl ?_)
    refine ⟨.lst (inN (chOf ls s (pth ls s v n) k)), Nat.zero_le _, rfl, (fun z => nomatch z), ⟨_, ch_bad I hw k1 m2 hm (fun j => by rw [pa]; exact hb _), by rw [chOf_len]; exact m2, rfl⟩⟩
end
def sp_check_limits (cB : Addr) : Spc where
  I := Nat × List Rw
  args := fun (n, xs) => [.d (.int n), .d (.list (rwsD xs))]
  cells := fun _ => []
  pre := fun (n, xs) => xs.length ≤ 1000
  post := fun (n, xs) r _ => (∀ x ∈ xs, okR n x) ∧ r = .val .none
  xpost := fun (n, xs) x _ => ∃ (p : Nat) (y : Rw), xs[p]? = some y ∧ ¬ okR n y ∧ (∀ q z, q < p → xs[q]? = some z → okR n z) ∧ x = ⟨.ref cB, some [("place", .int p)]⟩
section
variable {P : Program} {w : World} {K : PySem.W.Frag} {mg : Str → Option Value} {base : Heap}
theorem ok_check_limits (T : Tx P K mg) : FnOk P w K mg base (L2N.CX P w) 3 T.a_check_limits T.d_check_limits ["count", "limits"] (SpB K (sp_check_limits T.c_BadLimit)) := by
  refine T.F_check_limits.ok sc_check_limits (fun vs H Q E h => spB_len h (fun _ => rfl)) (fun cdv A outer s H vs Q E hr h => ⟨_, ((pss_one (ps_for (passes_of rfl) rfl (pi_enum (by rfl) T.z_enumerate (pa_cons (pv 1) pa_nil)) (pg_tup rfl (pgs_cons (pg_name (i := 2) sc_check_limits.nd rfl (.inl rfl) (.inr rfl)) (pgs_cons (pg_name (i := 3) sc_check_limits.nd rfl (.inl rfl) (.inr rfl)) pgs_nil)))
      (pss_cons (ps_asg (pv 3) (pg_tup rfl (pgs_cons (pg_name (i := 4) sc_check_limits.nd rfl (.inl rfl) (.inr rfl)) (pgs_cons (pg_name (i := 5) sc_check_limits.nd rfl (.inl rfl) (.inr rfl)) (pgs_cons (pg_name (i := 6) sc_check_limits.nd rfl (.inl rfl) (.inr rfl)) (pgs_cons (pg_name (i := 7) sc_check_limits.nd rfl (.inl rfl) (.inr rfl)) pgs_nil))))))
      (pss_one (ps_if (pt_not (PW.pt (pw_and (pt_chain op_leA op_ltA pe_int (pv 4) (pv 0)) (pw_and (pt_chain op_leA op_ltA pe_int (pv 5) (pv 0)) (pw_and1 (PW.pt (pw_or (pt_cmpR (op_eqD hr.units) (pv 7) pe_int (nomark _)) (pw_or1 (pt_cmpR (op_eqD hr.units) (pv 7) pe_int (nomark _))))))))))
      (pss_one (L2N.ps_raise rfl (L2N.takes_of rfl rfl rfl rfl) (pmk_oexN T.e_BadLimit.o T.e_BadLimit.i T.e_BadLimit.t (ok_BadLimit___init__ T) (hr.mono (by decide)) (b_BadLimit___init__ T.e_BadLimit.F) .nil pass0 rfl T.gc_BadLimit (pa_cons (pv 2) pa_nil))))
      pss_nil)))))), ?_⟩)
  refine go_fn (L := ["count", "limits", "place", "limit", "i", "j", "_", "w"]) h (fun b i hp hX => ?_)
  dsimp only [cxOf, L2H.cxH, L2.Cx.nox, L2.Cx.wish]
  
  obtain ⟨n, xs⟩ := i
  have hl : xs.length ≤ 1000 := hp
  show GO K b _ ⟨[some (.d (.int n)), some (.d (.list (rwsD xs))), none, none, none, none, none, none], []⟩ _
  refine go_for (ei_enum ?_)
  repeat walk_at "z1"
  
  refine ⟨_, rwsD xs, fun _ => True, rfl, .inl rfl, trivial, ?_⟩
  refine ⟨fun k s2 => ∃ (x2 x3 x4 x5 x6 x7 : Option Dw.A), (∀ q z, q < k → xs[q]? = some z → okR n z) ∧ s2 = ⟨[some (.d (.int n)), some (.d (.list (rwsD xs))), x2, x3, x4, x5, x6, x7], []⟩, ⟨none, none, none, none, none, none, (fun q z h => absurd h (Nat.not_lt_zero q)), rfl⟩, fun _ _ _ _ => trivial, ?_, ?_⟩
  · rintro k v s2 hx ⟨x2, x3, x4, x5, x6, x7, hall, rfl⟩
    obtain ⟨y, hy, rfl⟩ := enumD_get hx
    obtain ⟨⟨i, j, c, w⟩, hk, rfl⟩ := rwsD_inv hy
    refine gt_tup (ds := [.int (k : Nat), rwD (i, j, c, w)]) rfl ?_
    repeat walk_at "z1"
  
    have hkl : k < xs.length := (List.getElem?_eq_some_iff.mp hk).1
    have rz : ¬ okR n (i, j, c, w) → ∀ (s1 : S) (N : EE), s1.ss[2]? = some (some (.d (.int (k : Nat)))) → GO K b (fun _ σ H => tMkO T.c_BadLimit (spE K T.c_BadLimit ["place"]) [] (tCons (tVar 2) tNil) σ H fun cls d H' => E cls d H') s1 N := fun hno s1 N h2 => by
      refine go_raiseE (W := fun cls d _ H' => E cls d H') (ea_cons (ev_var h2 (ea_nil ⟨[.int (k : Nat)], rfl, rfl, (show 1 ≤ 1000 by decide), (fun x hx => by rw [List.mem_singleton.mp hx]; exact fmN (by omega)), fun d σ H' tv ta Hd' ps' R hd => hX ⟨.ref T.c_BadLimit, some [("place", .int (k : Nat))]⟩ d σ H' _ tv ta Hd' ps' ⟨k, _, hk, hno, hall, rfl⟩ R hd⟩)))
    have fin : okR n (i, j, c, w) → ∀ q z, q < k + 1 → xs[q]? = some z → okR n z := fun ok q z hq hz => by
      by_cases e : q = k
      · subst e
        rw [hk] at hz
        cases hz
        exact ok
      · exact hall q z (by omega) hz
    refine ⟨fun z1 => ?_, fun z => ⟨_, rfl, (fun z => nomatch z), fun _ => ⟨fun _ => ?_, fun z => nomatch z⟩⟩⟩
    rotate_left
    · exact rz (fun ok => by have h : 0 ≤ i := ok.1.1; simp at z; omega) _ _ rfl
    repeat walk_at "z1"
  
    refine ⟨fun z2 => ?_, fun z => ⟨fun _ => ?_, fun z => nomatch z⟩⟩
    rotate_left
    · exact rz (fun ok => by have h : i < n := ok.1.2; simp at z; omega) _ _ rfl
    repeat walk_at "z1"
  
    refine ⟨fun z3 => ?_, fun z => ⟨_, rfl, (fun z => nomatch z), fun _ => ⟨fun _ => ?_, fun z => nomatch z⟩⟩⟩
    rotate_left
    · exact rz (fun ok => by have h : 0 ≤ j := ok.2.1.1; simp at z; omega) _ _ rfl
    repeat walk_at "z1"
  
    refine ⟨fun z4 => ?_, fun z => ⟨fun _ => ?_, fun z => nomatch z⟩⟩
    rotate_left
    · exact rz (fun ok => by have h : j < n := ok.2.1.2; simp at z; omega) _ _ rfl
    repeat walk_at "z1"
  
    have z1 : 0 ≤ i := of_decide_eq_true z1
    have z2 : i < n := of_decide_eq_true z2
    have z3 : 0 ≤ j := of_decide_eq_true z3
    have z4 : j < n := of_decide_eq_true z4
    refine ⟨fun z5 => ⟨(fun z => nomatch z), fun _ => ?_⟩, fun z5 => ?_⟩
    · exact go_next ⟨_, _, _, _, _, _, fin ⟨⟨z1, z2⟩, ⟨z3, z4⟩, .inl (of_decide_eq_true z5)⟩, rfl⟩
    have z5 : w ≠ 0 := of_decide_eq_false z5
    repeat walk_at "z1"
  
    refine ⟨fun z6 => ?_, fun z6 => ?_⟩
    · have z6 : w ≠ 1 := by simpa using z6
      exact rz (fun ok => by rcases ok.2.2 with h | h; exact z5 h; exact z6 h) _ _ rfl
    · have z6 : w = 1 := by simpa using z6
      exact go_next ⟨_, _, _, _, _, _, fin ⟨⟨z1, z2⟩, ⟨z3, z4⟩, .inr z6⟩, rfl⟩
  · rintro s2 ⟨x2, x3, x4, x5, x6, x7, hall, rfl⟩
    rw [enumD_len, rwsD_len] at hall
    refine ⟨fun x hx => ?_, rfl⟩
    obtain ⟨q, hq⟩ := List.getElem?_of_mem hx
    exact hall q x (List.getElem?_eq_some_iff.mp hq).1 hq
end
def sp_solve (cB : Addr) : Spc where
  I := Nat × List Rw
  args := fun (n, xs) => [.d (.int n), .d (.list (rwsD xs))]
  cells := fun _ => []
  pre := fun (n, xs) => (1 ≤ n ∧ n ≤ 200) ∧ xs.length ≤ 1000
  post := fun (n, xs) r _ => ∃ ls z, xs = ls.map lmR ∧ Rg n ls ∧ W01 ls ∧ r = .val z ∧ Ans n ls z
  xpost := fun (n, xs) x _ => ∃ (p : Nat) (y : Rw), xs[p]? = some y ∧ ¬ okR n y ∧ (∀ q z, q < p → xs[q]? = some z → okR n z) ∧ x = ⟨.ref cB, some [("place", .int p)]⟩
section
variable {P : Program} {w : World} {K : PySem.W.Frag} {mg : Str → Option Value} {base : Heap}
theorem ok_solve (T : Tx P K mg) : FnOk P w K mg base (L2N.CX P w) 4 T.a_solve T.d_solve ["count", "limits"] (SpB K (sp_solve T.c_BadLimit)) := by
  refine T.F_solve.ok sc_solve (fun vs H Q E h => spB_len h (fun _ => rfl)) (fun cdv A outer s H vs Q E hr h => ⟨_, ((pss_cons (ps_expr (pe_call (ok_check_limits T) (hr.mono (by decide)) (by rfl) T.g_check_limits T.F_check_limits.kp (b_check_limits T.F_check_limits) .nil (L2N.passes_call (L2N.takes_of rfl rfl rfl rfl) (fun _ _ _ _ h => h)) (pa_cons (pv 0) (pa_cons (pv 1) pa_nil))))
      (pss_cons (ps_setLc (i := 3) (own := [("limit", 2)]) rfl sc_solve.nd rfl rfl (sw_true rfl rfl rfl (by decide +kernel)) (pi_any (pv 1)) (blkOk_by (own := [("limit", 2)]) (N := ["count", "limits", "limit", "costs", "sums", "back", "last", "_", "index", "i", "cost"]) (sc := defScope s_solve) (by decide +kernel)) (fun _ _ _ _ _ => (pg_name (i := 2) sc_solve.nd rfl (.inl rfl) (.inr rfl))) (fun _ _ _ _ _ => pts_nil) (fun _ _ _ _ _ => (pe_op (op_addAK (K := K) rfl) (pe_op op_sub (pe_op op_mulA (pe_ix (ix_seqK (K := K) rfl) (pv 2) pe_int (fun _ _ => rfl)) (pv 0)) pe_int) (pe_ix (ix_seqK (K := K) rfl) (pv 2) pe_int (fun _ _ => rfl)))))
      (pss_cons (ps_set (i := 4) sc_solve.nd rfl (.inl rfl) (pe_op op_mulA (pe_lst (pa_cons pe_int pa_nil)) (pv 0)))
      (pss_cons (ps_set (i := 5) sc_solve.nd rfl (.inl rfl) (pe_op op_mulA (pe_lst (pa_cons pe_non pa_nil)) (pv 0)))
      (pss_cons (ps_set (i := 6) sc_solve.nd rfl (.inl rfl) pe_non)
      (pss_cons (ps_for (passes_of rfl) rfl (pi_range1 (by rfl) T.z_range (pa_cons (pv 0) pa_nil)) (pg_name (i := 7) sc_solve.nd rfl (.inl rfl) (.inr rfl))
      (pss_cons (ps_set (i := 6) sc_solve.nd rfl (.inl rfl) pe_non)
      (pss_cons (ps_for (passes_of rfl) rfl (pi_enum (by rfl) T.z_enumerate (pa_cons (pv 1) pa_nil)) (pg_tup rfl (pgs_cons (pg_name (i := 8) sc_solve.nd rfl (.inl rfl) (.inr rfl)) (pgs_cons (pg_name (i := 2) sc_solve.nd rfl (.inl rfl) (.inr rfl)) pgs_nil)))
      (pss_cons (ps_set (i := 9) sc_solve.nd rfl (.inl rfl) (pe_ix ix_seq (pv 2) pe_int (fun _ _ => rfl)))
      (pss_cons (ps_set (i := 10) sc_solve.nd rfl (.inl rfl) (pe_op op_addA (pe_ix ix_seq (pv 4) (pe_ix ix_seq (pv 2) pe_int (fun _ _ => rfl)) (fun _ _ => rfl)) (pe_ix ix_seq (pv 3) (pv 8) (fun _ _ => rfl))))
      (pss_one (ps_if (pt_cmpR op_ltA (pv 10) (pe_ix ix_seq (pv 4) (pv 9) (fun _ _ => rfl)) (nomark _))
      (pss_cons (ps_asg (pv 10) (pg_sub (pv 4) (pv 9) set_list))
      (pss_cons (ps_asg (pv 8) (pg_sub (pv 5) (pv 9) set_list))
      (pss_one (ps_set (i := 6) sc_solve.nd rfl (.inl rfl) (pv 9)))))
      pss_nil)))))
      (pss_one (ps_if (pt_cmpR op_isA (pv 6) pe_non (nomark _))
      (pss_one (ps_ret (pe_call (ok_solution_of T) (hr.mono (by decide)) (by rfl) T.g_solution_of T.F_solution_of.kp (b_solution_of T.F_solution_of) .nil pass0 (pa_cons (pv 0) (pa_cons (pv 4) pa_nil)))))
      pss_nil)))))
      (pss_one (ps_ret (pe_tup (pa_cons pe_str (pa_cons (pe_call (ok_cycle_behind T) (hr.mono (by decide)) (by rfl) T.g_cycle_behind T.F_cycle_behind.kp (b_cycle_behind T.F_cycle_behind) .nil pass0 (pa_cons (pv 1) (pa_cons (pv 5) (pa_cons (pv 6) pa_nil)))) pa_nil)))))))))))), ?_⟩)
  refine go_fn (L := ["count", "limits", "limit", "costs", "sums", "back", "last", "_", "index", "i", "cost"]) h (fun b i hp hX => ?_)
  dsimp only [cxOf, L2H.cxH, L2.Cx.nox, L2.Cx.wish]
  
  obtain ⟨n, xs⟩ := i
  obtain ⟨⟨n1, n2⟩, hl⟩ := hp
  have hl : xs.length ≤ 1000 := hl
  show GO K b _ ⟨[some (.d (.int n)), some (.d (.list (rwsD xs))), none, none, none, none, none, none, none, none, none], []⟩ _
  refine go_sDrop (ev_call0 (E := fun _ => E) ?_)
  repeat walk_at "z1"
  
  refine ⟨(n, xs), rfl, rfl, rfl, hl, fun r os' hr => ?_, fun x os' hx d σ H' tv ta Hd' ps' R hd => hX x d σ H' _ tv ta Hd' ps' hx R hd⟩
  obtain ⟨hok, rfl⟩ := hr
  obtain ⟨ls, rfl, hr, hw⟩ := rws_lm hok
  rw [List.length_map] at hl
  have post : ∀ z os, Ans n ls z → (sp_solve T.c_BadLimit).post (n, ls.map lmR) (.val z) os := fun z os h => ⟨ls, z, rfl, hr, hw, rfl, h⟩
  rw [← lmsD_rws]
  show GO K b _ ⟨[some (.d (.int n)), some (.d (.list (lmsD ls))), none, none, none, none, none, none, none, none, none], []⟩ _
  refine go_sAsg (ev_lc (tg_name (.head _)) mg_name (ei_anyL (ei_list (ev_var rfl ⟨lmsD ls, fun _ => True, .inl rfl, trivial, ?_⟩))))
  refine ⟨fun k js s => js = inL ((ls.take k).map (cost n)) ∧ s = ⟨[some (.d (.int n)), some (.d (.list (lmsD ls))), none, none, none, none, none, none, none, none, none], [.lst js]⟩, ⟨rfl, rfl⟩, ?_, ?_, ?_⟩
  · rintro k js s3 _ ⟨_, rfl⟩
    exact ⟨trivial, rfl⟩
  · rintro k v js s3 hx ⟨rfl, rfl⟩
    obtain ⟨l, hk, rfl⟩ := lmsD_inv hx
    have hk1 := (List.getElem?_eq_some_iff.mp hk).1
    refine gt_name ?_
    refine fun σ H tv ta Hd ps R Q kk => kk true H _ Hd ps ⟨fun _ => ?_, fun h => (nomatch h)⟩ R
    repeat walk_at "z1"
  
    refine ⟨rfl, Nat.lt_of_le_of_lt (show _ ≤ 1000 by rw [inL, List.length_map, List.length_map, List.length_take]; omega) (by decide), ?_, rfl⟩
    rw [List.take_add_one, hk, inL, inL, List.map_append, List.map_append]
    rfl
  rintro js s3 ⟨rfl, rfl⟩
  rw [lmsD_len, List.take_length]
  refine gt_name ?_
  repeat walk_at "z1"
  
  refine ev_lst ?_
  repeat walk_at "z1"
  
  refine v2_mulL (xs := [.int 0]) rfl (by omega) (by omega) (Nat.le_trans (show _ ≤ 1000 by rw [Int.toNat_natCast]; simp; omega) (by decide)) ?_
  rw [Int.toNat_natCast, fnL_const]
  repeat walk_at "z1"
  
  refine ev_lst ?_
  repeat walk_at "z1"
  
  refine v2_mulL (xs := [.none]) rfl (by omega) (by omega) (Nat.le_trans (show _ ≤ 1000 by rw [Int.toNat_natCast]; simp; omega) (by decide)) ?_
  rw [Int.toNat_natCast, fnL_const]
  repeat walk_at "z1"
  
  refine go_seq (go_for (ei_r1 ?_))
  repeat walk_at "z1"
  
  refine ⟨by omega, by omega, ?_⟩
  refine ⟨fun k s2 => ∃ (s : Bs) (x2 x6 x7 x8 x9 x10 : Option Dw.A), s.f = rns n ls k ∧ (k = 0 ∧ s = s00 ∨ 1 ≤ k ∧ Inv n ls k ls.length s ∧ (∃ v : Nat, v < n ∧ s.T v = k ∧ x6 = some (.d (.int v))) ∧ ∃ l, l ∈ ls ∧ rns n ls (k - 1) l.2.1 + cost n l < rns n ls (k - 1) l.1) ∧ s2 = ⟨[some (.d (.int n)), some (.d (.list (lmsD ls))), x2, some (.o 0), some (.o 1), some (.o 2), x6, x7, x8, x9, x10], [.lst (inL (ls.map (cost n))), .lst (fnL n (fun v => .int ((s).f v))), .lst (fnL n (bkD (s)))]⟩, ⟨s00, none, some (.d .none), none, none, none, none, rfl, .inl ⟨rfl, rfl⟩, rfl⟩, fun _ _ _ _ => trivial, ?_, ?_⟩
  · rintro k v s2 hx ⟨s, x2, x6, x7, x8, x9, x10, hf, hI, rfl⟩
    obtain ⟨hk, rfl⟩ := rngD_get hx
    rw [Int.toNat_natCast] at hk
    have I0 : Inv n ls (k + 1) 0 s := by
      rcases hI with ⟨rfl, rfl⟩ | ⟨_, I, _⟩
      · exact inv_start
      · exact inv_round I
    clear hI
    refine gt_name ?_
    repeat walk_at "z1"
  
    refine go_seq (go_for (ei_enum ?_))
    repeat walk_at "z1"
  
    refine ⟨_, lmsD ls, fun _ => True, rfl, .inl rfl, trivial, ?_⟩
    refine ⟨fun p s3 => ∃ (s' : Bs) (x2 x6 x7 x8 x9 x10 : Option Dw.A), Inv n ls (k + 1) p s' ∧ s'.f = rnd n (ls.take p) s.f ∧
        ((x6 = some (.d .none) ∧ s' = s ∧ ∀ q l, q < p → ls[q]? = some l → ¬ s.f l.2.1 + cost n l < s.f l.1) ∨ (∃ v : Nat, v < n ∧ s'.T v = k + 1 ∧ x6 = some (.d (.int v))) ∧ ∃ l, l ∈ ls ∧ s.f l.2.1 + cost n l < s.f l.1) ∧ s3 = ⟨[some (.d (.int n)), some (.d (.list (lmsD ls))), x2, some (.o 0), some (.o 1), some (.o 2), x6, x7, x8, x9, x10], [.lst (inL (ls.map (cost n))), .lst (fnL n (fun v => .int ((s').f v))), .lst (fnL n (bkD (s')))]⟩, ⟨s, x2, some (.d .none), _, x8, x9, x10, I0, rfl, .inl ⟨rfl, rfl, fun q l h => absurd h (Nat.not_lt_zero q)⟩, rfl⟩, fun _ _ _ _ => trivial, ?_, ?_⟩
    · rintro p v s3 hx ⟨s', x2, x6, x7, x8, x9, x10, I, hf', hd, rfl⟩
      obtain ⟨y, hy, rfl⟩ := enumD_get hx
      obtain ⟨l, hp, rfl⟩ := lmsD_inv hy
      have hpl := (List.getElem?_eq_some_iff.mp hp).1
      obtain ⟨hi, hj⟩ := hr l (List.mem_of_getElem? hp)
      have I1 := inv_step hp (by omega) I
      have ec : atI (inL (ls.map (cost n))) (p : Int) = some (.int (cost n l)) := atI_n (by rw [inL, List.getElem?_map, List.getElem?_map, hp]; rfl)
      have ei := fnL_at (f := fun v => .int (s'.f v)) hi
      have ej := fnL_at (f := fun v => .int (s'.f v)) hj
      refine gt_tup (ds := [.int (p : Nat), lmD l]) rfl ?_
      repeat walk_at "z1"
  
      refine v2_ixO (n := 1) (ds := fnL n (fun v => .int (s'.f v))) rfl ej ?_
      repeat walk_at "z1"
  
      refine v2_ixO (n := 0) (ds := inL (ls.map (cost n))) rfl ec ?_
      repeat walk_at "z1"
  
      refine v2_ixO (n := 1) (ds := fnL n (fun v => .int (s'.f v))) rfl ei ?_
      repeat walk_at "z1"
  
      refine ⟨fun z => ?_, fun z => ?_⟩
      · have z : s'.f l.2.1 + cost n l < s'.f l.1 := of_decide_eq_true z
        have eb : bst n (k + 1) p l s' = ⟨fun v => if v = l.1 then s'.f l.2.1 + cost n l else s'.f v, fun v => if v = l.1 then some p else s'.bk v, fun v => if v = l.1 then k + 1 else s'.T v, fun v => if v = l.1 then s'.now + 1 else s'.t v, s'.now + 1⟩ := if_pos z
        repeat walk_at "z1"
  
        refine ⟨1, fnL n (fun v => .int (s'.f v)), _, l.1, _, rfl, rfl, rfl, rfl, by rw [fnL_len]; exact ixN_n hi, ?_⟩
        rw [fnL_set, fnL_ifs (s' := bst n (k + 1) p l s') (by rw [eb])]
        repeat walk_at "z3"
  
        refine ⟨2, fnL n (bkD s'), _, l.1, _, rfl, rfl, rfl, rfl, by rw [fnL_len]; exact ixN_n hi, ?_⟩
        rw [fnL_set, fnL_ifb (s' := bst n (k + 1) p l s') (by rw [eb])]
        repeat walk_at "z3"
  
        refine ⟨bst n (k + 1) p l s', _, _, _, _, _, _, I1, ?_, .inr ⟨⟨l.1, hi, by rw [eb]; exact if_pos rfl, rfl⟩, ?_⟩, rfl⟩
        · rw [rnd_take hp, ← hf', bst_f]
        · rcases hd with ⟨_, rfl, _⟩ | ⟨_, h2⟩
          · exact ⟨l, List.mem_of_getElem? hp, z⟩
          · exact h2
      · have z : ¬ s'.f l.2.1 + cost n l < s'.f l.1 := of_decide_eq_false z
        rw [bst_no z] at I1
        refine go_next ⟨s', _, _, _, _, _, _, I1, ?_, ?_, rfl⟩
        · rw [rnd_take hp, ← hf']
          exact (if_neg z).symm
        · rcases hd with ⟨h1, rfl, h3⟩ | ⟨h1, h2⟩
          · refine .inl ⟨h1, rfl, fun q l' hq hl' => ?_⟩
            by_cases e : q = p
            · subst e
              rw [hp] at hl'
              cases hl'
              exact z
            · exact h3 q l' (by omega) hl'
          · exact .inr ⟨h1, h2⟩
    · rintro s3 ⟨s', x2, x6, x7, x8, x9, x10, I, hf', hd, rfl⟩
      rw [enumD_len, lmsD_len] at I hf' hd
      rw [List.take_length] at hf'
      rcases hd with ⟨rfl, rfl, hall⟩ | ⟨⟨v, hv, hT, rfl⟩, hch⟩
      · repeat walk_at "z1"
  
        refine ⟨fun _ => ?_, fun z => (nomatch z)⟩
        refine go_ret (ev_call0 (E := fun _ => E0) (ea_cons (ev_var rfl (ea_cons (ev_frz (xs := fnL n (fun v => .int (s'.f v))) rfl rfl (ea_nil ?_))))))
        refine ⟨(n, (List.range n).map s'.f), by rw [fnL_inL]; rfl, rfl, rfl, ⟨n1, n2, by simp; omega, by simp; omega⟩, fun r os' hr' => ?_, xok_no⟩
        obtain ⟨g, g1, hm, hd, rfl⟩ := hr'
        have hlen : ((List.range n).map s'.f).length = n := by simp
        have at_ : ∀ v, v < n → ((List.range n).map s'.f).getD v 0 = s'.f v := fun v hv => by rw [List.getD, List.getElem?_map, List.getElem?_range hv]; rfl
        rw [at_ 0 (by omega)] at *
        have sol := solve_sol (f := s'.f) n1 hr hw (fun l hl => by
          obtain ⟨q, hq⟩ := List.getElem?_of_mem hl
          have := hall q l (List.getElem?_eq_some_iff.mp hq).1 hq
          omega) g1 hm (fun v hv => by
          obtain ⟨m, e⟩ := hd v (by rw [hlen]; exact hv)
          rw [at_ v hv] at e
          exact ⟨m, e⟩)
        exact post _ [] (.inl ⟨(n : Int) / g, ((List.range n).map s'.f).map fun v => (v - s'.f 0) / g, rfl, sol.1, sol.2.1, by simp, sol.2.2.1, sol.2.2.2⟩)
      · repeat walk_at "z1"
  
        refine ⟨fun z => (nomatch z), fun _ => ?_⟩
        refine go_next ⟨s', _, _, _, _, _, _, ?_, .inr ⟨by omega, I, ⟨v, hv, hT, rfl⟩, ?_⟩, rfl⟩
        · rw [hf', hf]; rfl
        · rw [Nat.add_sub_cancel, ← hf]
          exact hch
  · rintro s2 ⟨s, x2, x6, x7, x8, x9, x10, hf, hI, rfl⟩
    rw [rngD_len, Int.toNat_natCast] at hI
    rcases hI with ⟨z, _⟩ | ⟨_, I, ⟨v, hv, hT, rfl⟩, hch⟩
    · omega
    refine go_ret (ev_tup (ea_cons (ev_str (ea_cons (ev_dat (ev_call0 (E := fun _ => E0) (ea_cons (ev_var rfl (ea_cons (ev_frz (xs := fnL n (bkD s)) rfl rfl (ea_cons (ev_var rfl (ea_nil ?_))))))))))))) 
    refine ⟨(n, ls, s, v), rfl, rfl, rfl, ⟨I, hr, hw, hv, by omega, n2⟩, fun r os' hr' => ?_, xok_no⟩
    obtain ⟨ch, hb, hcn, rfl⟩ := hr'
    refine ⟨3, _, rfl, rfl, ea_nil ?_⟩
    repeat walk_at "z1"
  
    exact post _ [] (.inr ⟨ch, rfl, hb, hcn, no_feas n1 hr hch⟩)
end
def sp__law_wrong_limit : Spc where
  I := Bg × Nat
  args := fun (x, n) => [.o 0, .d (.int n)]
  cells := fun (x, _) => [.lst x.l]
  pre := fun (x, n) => 0 ≤ x.i ∧ 1 ≤ n ∧ n ≤ 200
  post := fun (x, n) r os => ∃ (z : Rw) (y : Bg), r = .val (rwD z) ∧ os = [.lst y.l] ∧ 0 ≤ y.i ∧ ¬ okR n z
section
variable {P : Program} {w : World} {K : PySem.W.Frag} {mg : Str → Option Value} {base : Heap}
theorem ok__law_wrong_limit (T : Tx P K mg) : FnOk P w K mg base CX0 2 T.a__law_wrong_limit T.d__law_wrong_limit ["bag", "count"] (SpB K sp__law_wrong_limit) := by
  refine T.F__law_wrong_limit.ok sc__law_wrong_limit (fun vs H Q E h => spB_len h (fun _ => rfl)) (fun cdv A outer s H vs Q E hr h => ⟨_, PSs.nox ((pss_cons (ps_set (i := 2) sc__law_wrong_limit.nd rfl (.inl rfl) (pe_call (ok__law_take T) (hr.mono (by decide)) (by rfl) T.g__law_take T.F__law_take.kp (b__law_take T.F__law_take) .nil pass0 (pa_cons (pv 0) (pa_cons (pv 1) pa_nil))))
      (pss_cons (ps_set (i := 3) sc__law_wrong_limit.nd rfl (.inl rfl) (pe_call (ok__law_take T) (hr.mono (by decide)) (by rfl) T.g__law_take T.F__law_take.kp (b__law_take T.F__law_take) .nil pass0 (pa_cons (pv 0) (pa_cons (pv 1) pa_nil))))
      (pss_cons (ps_set (i := 4) sc__law_wrong_limit.nd rfl (.inl rfl) (pe_op op_sub (pe_call (ok__law_take T) (hr.mono (by decide)) (by rfl) T.g__law_take T.F__law_take.kp (b__law_take T.F__law_take) .nil pass0 (pa_cons (pv 0) (pa_cons pe_int pa_nil))) pe_int))
      (pss_cons (ps_set (i := 5) sc__law_wrong_limit.nd rfl (.inl rfl) (pe_call (ok__law_take T) (hr.mono (by decide)) (by rfl) T.g__law_take T.F__law_take.kp (b__law_take T.F__law_take) .nil pass0 (pa_cons (pv 0) (pa_cons pe_int pa_nil))))
      (pss_cons (ps_set (i := 6) sc__law_wrong_limit.nd rfl (.inl rfl) (pe_call (ok__law_take T) (hr.mono (by decide)) (by rfl) T.g__law_take T.F__law_take.kp (b__law_take T.F__law_take) .nil pass0 (pa_cons (pv 0) (pa_cons pe_int pa_nil))))
      (pss_cons (ps_set (i := 7) sc__law_wrong_limit.nd rfl (.inl rfl) (pe_ix ix_seq (pe_lst (pa_cons (pv 1) (pa_cons (pe_un un_neg pe_int) (pa_cons (pe_op op_addA (pe_op op_addA (pv 1) pe_int) (pv 6)) (pa_cons (pe_op op_sub (pe_un un_neg pe_int) (pv 6)) pa_nil))))) (pe_call (ok__law_take T) (hr.mono (by decide)) (by rfl) T.g__law_take T.F__law_take.kp (b__law_take T.F__law_take) .nil pass0 (pa_cons (pv 0) (pa_cons pe_int pa_nil))) (fun _ _ => rfl)))
      (pss_cons (ps_set (i := 8) sc__law_wrong_limit.nd rfl (.inl rfl) (pe_call (ok__law_take T) (hr.mono (by decide)) (by rfl) T.g__law_take T.F__law_take.kp (b__law_take T.F__law_take) .nil pass0 (pa_cons (pv 0) (pa_cons pe_int pa_nil))))
      (pss_cons (ps_if (pt_cmpR (op_eqD hr.units) (pv 8) pe_int (nomark _))
      (pss_one (ps_ret (pe_tup (pa_cons (pv 7) (pa_cons (pv 3) (pa_cons (pv 4) (pa_cons (pv 5) pa_nil)))))))
      pss_nil)
      (pss_cons (ps_if (pt_cmpR (op_eqD hr.units) (pv 8) pe_int (nomark _))
      (pss_one (ps_ret (pe_tup (pa_cons (pv 2) (pa_cons (pv 7) (pa_cons (pv 4) (pa_cons (pv 5) pa_nil)))))))
      pss_nil)
      (pss_one (ps_ret (pe_tup (pa_cons (pv 2) (pa_cons (pv 3) (pa_cons (pv 4) (pa_cons (pe_ix ix_seq (pe_lst (pa_cons pe_int (pa_cons (pe_un un_neg pe_int) (pa_cons (pe_op op_addA pe_int (pe_call (ok__law_take T) (hr.mono (by decide)) (by rfl) T.g__law_take T.F__law_take.kp (b__law_take T.F__law_take) .nil pass0 (pa_cons (pv 0) (pa_cons pe_int pa_nil)))) pa_nil)))) (pe_call (ok__law_take T) (hr.mono (by decide)) (by rfl) T.g__law_take T.F__law_take.kp (b__law_take T.F__law_take) .nil pass0 (pa_cons (pv 0) (pa_cons pe_int pa_nil))) (fun _ _ => rfl)) pa_nil))))))))))))))))), ?_⟩)
  refine go_fn (L := ["bag", "count", "i", "j", "c", "w", "far", "beyond", "way"]) h (fun b i hp hX => ?_)
  dsimp only [cxOf, L2H.cxH, L2.Cx.nox, L2.Cx.wish]
  
  obtain ⟨x, n⟩ := i
  obtain ⟨h0, n1, n2⟩ := hp
  show GO K b _ ⟨[some (.o 0), some (.d (.int n)), none, none, none, none, none, none, none], [.lst x.l]⟩ _
  repeat walk_at "z1"
  (refine ev_take ?_; repeat walk_at "z1")
  refine ⟨x, _, _, _, rfl, rfl, h0, by first | decide | omega, fun i y1 q1 i0 i1 => ?_⟩
  repeat walk_at "z1"
  (refine ev_take ?_; repeat walk_at "z1")
  refine ⟨y1, _, _, _, rfl, rfl, q1, by first | decide | omega, fun j y2 q2 j0 j1 => ?_⟩
  repeat walk_at "z1"
  (refine ev_take ?_; repeat walk_at "z1")
  refine ⟨y2, _, _, _, rfl, rfl, q2, by first | decide | omega, fun c0 y3 q3 c1 c2 => ?_⟩
  repeat walk_at "z1"
  (refine ev_take ?_; repeat walk_at "z1")
  refine ⟨y3, _, _, _, rfl, rfl, q3, by first | decide | omega, fun w y4 q4 w0 w1 => ?_⟩
  repeat walk_at "z1"
  (refine ev_take ?_; repeat walk_at "z1")
  refine ⟨y4, _, _, _, rfl, rfl, q4, by first | decide | omega, fun far y5 q5 f0 f1 => ?_⟩
  repeat walk_at "z1"
  
  refine ev_lst ?_
  repeat walk_at "z1"
  (refine ev_take ?_; repeat walk_at "z1")
  refine ⟨y5, _, _, _, rfl, rfl, q5, by first | decide | omega, fun m y6 q6 m0 m1 => ?_⟩
  repeat walk_at "z1"
  
  obtain ⟨e, he, e0⟩ : ∃ e : Int, atI (inL [(n : Int), -1, (n : Int) + 1 + far, -2 - far]) m = some (.int e) ∧ (e < 0 ∨ n ≤ e) := by
    have : m = 0 ∨ m = 1 ∨ m = 2 ∨ m = 3 := by omega
    rcases this with rfl | rfl | rfl | rfl
    · exact ⟨_, rfl, by omega⟩
    · exact ⟨_, rfl, by omega⟩
    · exact ⟨_, rfl, by omega⟩
    · exact ⟨_, rfl, by omega⟩
  refine v2_ixL (ds := inL [(n : Int), -1, (n : Int) + 1 + far, -2 - far]) he ?_
  repeat walk_at "z1"
  (refine ev_take ?_; repeat walk_at "z1")
  refine ⟨y6, _, _, _, rfl, rfl, q6, by first | decide | omega, fun way y7 q7 v0 v1 => ?_⟩
  repeat walk_at "z1"
  
  repeat walk_at "z3"
  
  have bad1 : ∀ c w, ¬ okR n (e, j, c, w) := fun c w ok => by have h1 : 0 ≤ e := ok.1.1; have h2 : e < n := ok.1.2; omega
  have bad2 : ∀ c w, ¬ okR n (i, e, c, w) := fun c w ok => by have h1 : 0 ≤ e := ok.2.1.1; have h2 : e < n := ok.2.1.2; omega
  have bad3 : ∀ c w, w ≠ 0 → w ≠ 1 → ¬ okR n (i, j, c, w) := fun c w h1 h2 ok => by rcases ok.2.2 with h | h; exact h1 h; exact h2 h
  refine ⟨fun _ => ?_, fun _ => ?_⟩
  · repeat walk_at "z3"
  
    exact ⟨(e, j, _, _), y7, rfl, rfl, q7, bad1 _ _⟩
  repeat walk_at "z3"
  
  refine ⟨fun _ => ?_, fun _ => ?_⟩
  · repeat walk_at "z3"
  
    exact ⟨(i, e, _, _), y7, rfl, rfl, q7, bad2 _ _⟩
  repeat walk_at "z3"
  
  refine ev_lst ?_
  repeat walk_at "z1"
  (refine ev_take ?_; repeat walk_at "z1")
  refine ⟨y7, _, _, _, rfl, rfl, q7, by first | decide | omega, fun u y8 q8 u0 u1 => ?_⟩
  repeat walk_at "z1"
  (refine ev_take ?_; repeat walk_at "z1")
  refine ⟨y8, _, _, _, rfl, rfl, q8, by first | decide | omega, fun m2 y9 q9 m20 m21 => ?_⟩
  repeat walk_at "z1"
  
  obtain ⟨e2, he2, e20⟩ : ∃ e : Int, atI (inL [2, -1, 3 + u]) m2 = some (.int e) ∧ (e ≠ 0 ∧ e ≠ 1) := by
    have : m2 = 0 ∨ m2 = 1 ∨ m2 = 2 := by omega
    rcases this with rfl | rfl | rfl
    · exact ⟨_, rfl, by omega⟩
    · exact ⟨_, rfl, by omega⟩
    · exact ⟨_, rfl, by omega⟩
  refine v2_ixL (ds := inL [2, -1, 3 + u]) he2 ?_
  repeat walk_at "z3"
  
  exact ⟨(i, j, _, _), y9, rfl, rfl, q9, bad3 _ _ e20.1 e20.2⟩
end
def sp__law_is_bad_cycle : Spc where
  I := List Lm × List Nat
  args := fun (ls, ch) => [.d (.list (inN ch)), .d (.list (lmsD ls))]
  cells := fun _ => []
  pre := fun (ls, ch) => BadCh ls ch ∧ W01 ls ∧ ls.length ≤ 1000 ∧ ch.length ≤ 1000
  post := fun _ r _ => r = .val (.bool true)
section
variable {P : Program} {w : World} {K : PySem.W.Frag} {mg : Str → Option Value} {base : Heap}
theorem ok__law_is_bad_cycle (T : Tx P K mg) : FnOk P w K mg base CX0 2 T.a__law_is_bad_cycle T.d__law_is_bad_cycle ["chain", "rows"] (SpB K sp__law_is_bad_cycle) := by
  refine T.F__law_is_bad_cycle.ok sc__law_is_bad_cycle (fun vs H Q E h => spB_len h (fun _ => rfl)) (fun cdv A outer s H vs Q E hr h => ⟨_, PSs.nox ((pss_cons (ps_if (PW.pt (pw_or (pt_not (pt_truth (pe_callB call_isi (by rfl) T.z_isinstance (by decide +kernel) (pa_cons (pv 0) (pa_cons (pe_bltn (v := .ty "list") (by rfl) T.z_list (by decide +kernel) rfl) pa_nil))) (by intro _; rfl))) (pw_or1 (pt_cmpR (op_eqD hr.units) (pe_callB call_len (by rfl) T.z_len (by decide +kernel) (pa_cons (pv 0) pa_nil)) pe_int (nomark _)))))
      (pss_one (ps_ret pe_bl))
      pss_nil)
      (pss_cons (ps_for PassesOwn.never rfl (pi_any (pv 0)) (pg_name (i := 2) sc__law_is_bad_cycle.nd rfl (.inl rfl) (.inr rfl))
      (pss_one (ps_if (PW.pt (pw_or (pt_not (pt_truth (pe_call (ok__law_is_number T) (hr.mono (by decide)) (by rfl) T.g__law_is_number T.F__law_is_number.kp (b__law_is_number T.F__law_is_number) .nil pass0 (pa_cons (pv 2) pa_nil)) (by intro _; rfl))) (pw_or (pt_cmpR op_ltA (pv 2) pe_int (nomark _)) (pw_or1 (pt_cmpR op_geA (pv 2) (pe_callB call_len (by rfl) T.z_len (by decide +kernel) (pa_cons (pv 1) pa_nil)) (nomark _))))))
      (pss_one (ps_ret pe_bl))
      pss_nil)))
      (pss_cons (ps_set (i := 3) sc__law_is_bad_cycle.nd rfl (.inl rfl) pe_int)
      (pss_cons (ps_set (i := 4) sc__law_is_bad_cycle.nd rfl (.inl rfl) pe_int)
      (pss_cons (ps_for PassesOwn.never rfl (pi_range1 (by rfl) T.z_range (pa_cons (pe_callB call_len (by rfl) T.z_len (by decide +kernel) (pa_cons (pv 0) pa_nil)) pa_nil)) (pg_name (i := 5) sc__law_is_bad_cycle.nd rfl (.inl rfl) (.inr rfl))
      (pss_cons (ps_set (i := 6) sc__law_is_bad_cycle.nd rfl (.inl rfl) (pe_ix ix_seq (pv 1) (pe_ix ix_seq (pv 0) (pv 5) (fun _ _ => rfl)) (fun _ _ => rfl)))
      (pss_cons (ps_set (i := 7) sc__law_is_bad_cycle.nd rfl (.inl rfl) (pe_ix ix_seq (pv 1) (pe_ix ix_seq (pv 0) (pe_op op_mod (pe_op op_addA (pv 5) pe_int) (pe_callB call_len (by rfl) T.z_len (by decide +kernel) (pa_cons (pv 0) pa_nil))) (fun _ _ => rfl)) (fun _ _ => rfl)))
      (pss_cons (ps_if (pt_cmpR (op_neD hr.units) (pe_ix ix_seq (pv 6) pe_int (fun _ _ => rfl)) (pe_ix ix_seq (pv 7) pe_int (fun _ _ => rfl)) (nomark _))
      (pss_one (ps_ret pe_bl))
      pss_nil)
      (pss_cons (ps_set (i := 3) sc__law_is_bad_cycle.nd rfl (.inl rfl) (pe_op op_addA (pv 3) (pe_ix ix_seq (pv 6) pe_int (fun _ _ => rfl))))
      (pss_one (ps_set (i := 4) sc__law_is_bad_cycle.nd rfl (.inl rfl) (pe_op op_mulA (pv 4) (pe_ix ix_seq (pv 6) pe_int (fun _ _ => rfl))))))))))
      (pss_one (ps_ret (pe_or (pe_cmpR op_ltA (pv 3) pe_int (nomark _)) (pe_one (pe_and (pe_cmpR (op_eqD hr.units) (pv 3) pe_int (nomark _)) (pe_one (pe_cmpR (op_eqD hr.units) (pv 4) pe_int (nomark _)))))))))))))), ?_⟩)
  refine go_fn (L := ["chain", "rows", "at", "added", "weak", "k", "row", "after"]) h (fun b i hp hX => ?_)
  dsimp only [cxOf, L2H.cxH, L2.Cx.nox, L2.Cx.wish]
  
  obtain ⟨ls, ch⟩ := i
  obtain ⟨⟨m1, hlt, hln, hbad⟩, hw, hl, hm⟩ := hp
  show GO K b _ ⟨[some (.d (.list (inN ch))), some (.d (.list (lmsD ls))), none, none, none, none, none, none], []⟩ _
  have e1 : ∀ k, k < ch.length → atI (inN ch) (k : Int) = some (.int (ch.getD k 0 : Nat)) := fun k hk => inN_at hk
  have eg : ∀ k, k < ch.length → ls[ch.getD k 0]? = some (atC ls ch k) := fun k hk => by
    unfold atC
    rw [List.getElem?_eq_getElem (hlt k hk)]
    rfl
  have e2 : ∀ k, k < ch.length → atI (lmsD ls) (ch.getD k 0 : Nat) = some (lmD (atC ls ch k)) := fun k hk => lmsD_at (eg k hk)
  repeat walk_at "z3"
  
  refine ⟨fun z => (nomatch z), fun _ => ?_⟩
  repeat walk_at "z1"
  
  refine ⟨fun z => ?_, fun _ => ?_⟩
  · have := of_decide_eq_true z
    rw [inN_len] at this
    omega
  repeat walk_at "z3"
  
  first
  | refine go_for (ei_anyL (ei_list (ev_var rfl ⟨inN ch, fun _ => True, .inl rfl, trivial, ?_⟩)))
  | refine go_for (ei_list (ev_var rfl ⟨inN ch, fun _ => True, .inl rfl, trivial, ?_⟩))
  refine ⟨fun k s => ∃ (x2 : Option Dw.A), s = ⟨[some (.d (.list (inN ch))), some (.d (.list (lmsD ls))), x2, none, none, none, none, none], []⟩, ⟨none, rfl⟩, fun _ _ _ _ => trivial, ?_, ?_⟩
  · rintro k v s2 hx ⟨x2, rfl⟩
    obtain ⟨q, hq⟩ : ∃ q, ch[k]? = some q := ⟨ch[k]'(by have := (List.getElem?_eq_some_iff.mp hx).1; rw [inN_len] at this; exact this), List.getElem?_eq_getElem _⟩
    have hk := (List.getElem?_eq_some_iff.mp hq).1
    have eq : ch.getD k 0 = q := by rw [List.getD, hq]; rfl
    have hql := hlt k hk
    rw [eq] at hql
    have e : v = .int (q : Nat) := by
      rw [inN, List.getElem?_map, hq] at hx
      exact (Option.some.inj hx).symm
    subst e
    refine gt_name ?_
    repeat walk_at "z3"
  
    first
    | refine ev_isnum (E := fun _ => E0) (i := (q : Nat)) ?_
    | refine ev_S (ev_isnum (E := fun _ => E0) (i := (q : Nat)) ?_)
    repeat walk_at "z1"
  
    refine ⟨fun z => (nomatch z), fun _ => ?_⟩
    repeat walk_at "z1"
  
    refine ⟨fun z => ?_, fun _ => ?_⟩
    · have := of_decide_eq_true z
      omega
    repeat walk_at "z1"
  
    refine ⟨fun z => ?_, fun _ => ?_⟩
    · have := of_decide_eq_true z
      rw [lmsD_len] at this
      omega
    exact go_next ⟨_, rfl⟩
  rintro s2 ⟨x2, rfl⟩
  repeat walk_at "z1"
  
  refine go_seq (go_for (ei_r1 ?_))
  repeat walk_at "z1"
  
  rw [inN_len]
  refine ⟨by omega, by omega, ?_⟩
  refine ⟨fun k s => ∃ (x2 x5 x6 x7 : Option Dw.A), s = ⟨[some (.d (.list (inN ch))), some (.d (.list (lmsD ls))), x2, some (.d (.int (sumC (atC ls ch) k))), some (.d (.int (prdW (atC ls ch) k))), x5, x6, x7], []⟩, ⟨x2, none, none, none, rfl⟩, fun _ _ _ _ => trivial, ?_, ?_⟩
  · rintro k v s2 hx ⟨x2, x5, x6, x7, rfl⟩
    obtain ⟨hk, rfl⟩ := rngD_get hx
    rw [Int.toNat_natCast] at hk
    rw [Int.zero_add]
    have hk2 : (k + 1) % ch.length < ch.length := Nat.mod_lt _ (by omega)
    have f1 := e1 k hk
    have f2 : atI (inN ch) (((k : Int) + 1) % (ch.length : Int)) = some (.int (ch.getD ((k + 1) % ch.length) 0 : Nat)) := e1 _ hk2
    have g1 := e2 k hk
    have g2 := e2 _ hk2
    have w01 : (atC ls ch k).2.2.2 = 0 ∨ (atC ls ch k).2.2.2 = 1 := hw _ (List.mem_of_getElem? (eg k hk))
    have hl2 : ((atC ls ch k).2.1 : Int) = ((atC ls ch ((k + 1) % ch.length)).1 : Nat) := by rw [hln k hk]
    refine gt_name ?_
    repeat walk_at "z1"
  
    rw [inN_len]
    refine v2_ic (C := fun _ j => 0 < j) (show (0 : Int) < _ by omega) ?_
    repeat walk_at "z3"
  
    refine ⟨fun z => ?_, fun _ => ?_⟩
    · rw [hl2] at z
      simp at z
    refine go_next ?_
    repeat walk_at "z3"
  
    exact ⟨_, _, _, _, rfl⟩
  rintro s2 ⟨x2, x5, x6, x7, rfl⟩
  rw [rngD_len, Int.toNat_natCast]
  repeat walk_at "z3"
  
  refine ⟨fun _ => rfl, fun z => ?_⟩
  have z := of_decide_eq_false z
  obtain ⟨b1, b2⟩ : sumC (atC ls ch) ch.length = 0 ∧ prdW (atC ls ch) ch.length = 0 := by
    rcases hbad with h | h
    · exact absurd h z
    · exact h
  repeat walk_at "z1"
  
  refine ⟨fun _ => ?_, fun z => absurd b1 (of_decide_eq_false z)⟩
  repeat walk_at "z1"
  
  show _ = _
  rw [b2]
  rfl
theorem okH__law_is_bad_cycle (T : Tx P K mg) : L2H.FnH P w K mg base CX0 2 T.a__law_is_bad_cycle T.d__law_is_bad_cycle ["chain", "rows"] (SpB K sp__law_is_bad_cycle) := by
  refine okH T.F__law_is_bad_cycle sc__law_is_bad_cycle (fun vs H Q E h => spB_len h (fun _ => rfl)) (fun cdv A outer s H vs Q E p hot hr h => ⟨_, PSs.nox ((pss_cons (ps_if (PW.pt (pw_or (pt_not (pt_truth (pe_callB call_isi (by rfl) T.z_isinstance (by decide +kernel) (pa_cons (pv 0) (pa_cons (pe_bltn (v := .ty "list") (by rfl) T.z_list (by decide +kernel) rfl) pa_nil))) (by intro _; rfl))) (pw_or1 (pt_cmpR (op_eqD hr.units) (pe_callB call_len (by rfl) T.z_len (by decide +kernel) (pa_cons (pv 0) pa_nil)) pe_int (nomark _)))))
      (pss_one (ps_ret pe_bl))
      pss_nil)
      (pss_cons (L2H.ps_forH PassesOwn.never ⟨p, ⟨hot.1, hot.2⟩, List.mem_cons_self⟩ (L2H.pi_listH (pv 0)) (pg_name (i := 2) sc__law_is_bad_cycle.nd rfl (.inl rfl) (.inr rfl))
      (pss_one (ps_if (PW.pt (pw_or (pt_not (pt_truth (L2H.pe_callH (okH__law_is_number T) (hr.mono (by decide)) ⟨p, ⟨hot.1, hot.2⟩, List.mem_cons_self⟩ (by rfl) T.g__law_is_number T.F__law_is_number.kp (b__law_is_number T.F__law_is_number) (E := fun _ => E0) (fun _ => pass0A) (pa_cons (pv 2) pa_nil)) (by intro _; rfl))) (pw_or (pt_cmpR op_ltA (pv 2) pe_int (nomark _)) (pw_or1 (pt_cmpR op_geA (pv 2) (pe_callB call_len (by rfl) T.z_len (by decide +kernel) (pa_cons (pv 1) pa_nil)) (nomark _))))))
      (pss_one (ps_ret pe_bl))
      pss_nil)))
      (pss_cons (ps_set (i := 3) sc__law_is_bad_cycle.nd rfl (.inl rfl) pe_int)
      (pss_cons (ps_set (i := 4) sc__law_is_bad_cycle.nd rfl (.inl rfl) pe_int)
      (pss_cons (L2H.ps_forH PassesOwn.never ⟨p, ⟨hot.1, hot.2⟩, List.mem_cons_self⟩ (L2H.pi_range1H (by rfl) T.z_range (pa_cons (pe_callB call_len (by rfl) T.z_len (by decide +kernel) (pa_cons (pv 0) pa_nil)) pa_nil)) (pg_name (i := 5) sc__law_is_bad_cycle.nd rfl (.inl rfl) (.inr rfl))
      (pss_cons (ps_set (i := 6) sc__law_is_bad_cycle.nd rfl (.inl rfl) (pe_ix ix_seq (pv 1) (pe_ix ix_seq (pv 0) (pv 5) (fun _ _ => rfl)) (fun _ _ => rfl)))
      (pss_cons (ps_set (i := 7) sc__law_is_bad_cycle.nd rfl (.inl rfl) (pe_ix ix_seq (pv 1) (pe_ix ix_seq (pv 0) (pe_op op_mod (pe_op op_addA (pv 5) pe_int) (pe_callB call_len (by rfl) T.z_len (by decide +kernel) (pa_cons (pv 0) pa_nil))) (fun _ _ => rfl)) (fun _ _ => rfl)))
      (pss_cons (ps_if (pt_cmpR (op_neD hr.units) (pe_ix ix_seq (pv 6) pe_int (fun _ _ => rfl)) (pe_ix ix_seq (pv 7) pe_int (fun _ _ => rfl)) (nomark _))
      (pss_one (ps_ret pe_bl))
      pss_nil)
      (pss_cons (ps_set (i := 3) sc__law_is_bad_cycle.nd rfl (.inl rfl) (pe_op op_addA (pv 3) (pe_ix ix_seq (pv 6) pe_int (fun _ _ => rfl))))
      (pss_one (ps_set (i := 4) sc__law_is_bad_cycle.nd rfl (.inl rfl) (pe_op op_mulA (pv 4) (pe_ix ix_seq (pv 6) pe_int (fun _ _ => rfl))))))))))
      (pss_one (ps_ret (pe_or (pe_cmpR op_ltA (pv 3) pe_int (nomark _)) (pe_one (pe_and (pe_cmpR (op_eqD hr.units) (pv 3) pe_int (nomark _)) (pe_one (pe_cmpR (op_eqD hr.units) (pv 4) pe_int (nomark _)))))))))))))), ?_⟩)
  refine go_fn (L := ["chain", "rows", "at", "added", "weak", "k", "row", "after"]) h (fun b i hp hX => ?_)
  dsimp only [cxOf, L2H.cxH, L2.Cx.nox, L2.Cx.wish]
  
  obtain ⟨ls, ch⟩ := i
  obtain ⟨⟨m1, hlt, hln, hbad⟩, hw, hl, hm⟩ := hp
  show GO K b _ ⟨[some (.d (.list (inN ch))), some (.d (.list (lmsD ls))), none, none, none, none, none, none], []⟩ _
  have e1 : ∀ k, k < ch.length → atI (inN ch) (k : Int) = some (.int (ch.getD k 0 : Nat)) := fun k hk => inN_at hk
  have eg : ∀ k, k < ch.length → ls[ch.getD k 0]? = some (atC ls ch k) := fun k hk => by
    unfold atC
    rw [List.getElem?_eq_getElem (hlt k hk)]
    rfl
  have e2 : ∀ k, k < ch.length → atI (lmsD ls) (ch.getD k 0 : Nat) = some (lmD (atC ls ch k)) := fun k hk => lmsD_at (eg k hk)
  repeat walk_at "z3"
  
  refine ⟨fun z => (nomatch z), fun _ => ?_⟩
  repeat walk_at "z1"
  
  refine ⟨fun z => ?_, fun _ => ?_⟩
  · have := of_decide_eq_true z
    rw [inN_len] at this
    omega
  repeat walk_at "z3"
  
  first
  | refine go_for (ei_anyL (ei_list (ev_var rfl ⟨inN ch, fun _ => True, .inl rfl, trivial, ?_⟩)))
  | refine go_for (ei_list (ev_var rfl ⟨inN ch, fun _ => True, .inl rfl, trivial, ?_⟩))
  refine ⟨fun k s => ∃ (x2 : Option Dw.A), s = ⟨[some (.d (.list (inN ch))), some (.d (.list (lmsD ls))), x2, none, none, none, none, none], []⟩, ⟨none, rfl⟩, fun _ _ _ _ => trivial, ?_, ?_⟩
  · rintro k v s2 hx ⟨x2, rfl⟩
    obtain ⟨q, hq⟩ : ∃ q, ch[k]? = some q := ⟨ch[k]'(by have := (List.getElem?_eq_some_iff.mp hx).1; rw [inN_len] at this; exact this), List.getElem?_eq_getElem _⟩
    have hk := (List.getElem?_eq_some_iff.mp hq).1
    have eq : ch.getD k 0 = q := by rw [List.getD, hq]; rfl
    have hql := hlt k hk
    rw [eq] at hql
    have e : v = .int (q : Nat) := by
      rw [inN, List.getElem?_map, hq] at hx
      exact (Option.some.inj hx).symm
    subst e
    refine gt_name ?_
    repeat walk_at "z3"
  
    first
    | refine ev_isnum (E := fun _ => E0) (i := (q : Nat)) ?_
    | refine ev_S (ev_isnum (E := fun _ => E0) (i := (q : Nat)) ?_)
    repeat walk_at "z1"
  
    refine ⟨fun z => (nomatch z), fun _ => ?_⟩
    repeat walk_at "z1"
  
    refine ⟨fun z => ?_, fun _ => ?_⟩
    · have := of_decide_eq_true z
      omega
    repeat walk_at "z1"
  
    refine ⟨fun z => ?_, fun _ => ?_⟩
    · have := of_decide_eq_true z
      rw [lmsD_len] at this
      omega
    exact go_next ⟨_, rfl⟩
  rintro s2 ⟨x2, rfl⟩
  repeat walk_at "z1"
  
  refine go_seq (go_for (ei_r1 ?_))
  repeat walk_at "z1"
  
  rw [inN_len]
  refine ⟨by omega, by omega, ?_⟩
  refine ⟨fun k s => ∃ (x2 x5 x6 x7 : Option Dw.A), s = ⟨[some (.d (.list (inN ch))), some (.d (.list (lmsD ls))), x2, some (.d (.int (sumC (atC ls ch) k))), some (.d (.int (prdW (atC ls ch) k))), x5, x6, x7], []⟩, ⟨x2, none, none, none, rfl⟩, fun _ _ _ _ => trivial, ?_, ?_⟩
  · rintro k v s2 hx ⟨x2, x5, x6, x7, rfl⟩
    obtain ⟨hk, rfl⟩ := rngD_get hx
    rw [Int.toNat_natCast] at hk
    rw [Int.zero_add]
    have hk2 : (k + 1) % ch.length < ch.length := Nat.mod_lt _ (by omega)
    have f1 := e1 k hk
    have f2 : atI (inN ch) (((k : Int) + 1) % (ch.length : Int)) = some (.int (ch.getD ((k + 1) % ch.length) 0 : Nat)) := e1 _ hk2
    have g1 := e2 k hk
    have g2 := e2 _ hk2
    have w01 : (atC ls ch k).2.2.2 = 0 ∨ (atC ls ch k).2.2.2 = 1 := hw _ (List.mem_of_getElem? (eg k hk))
    have hl2 : ((atC ls ch k).2.1 : Int) = ((atC ls ch ((k + 1) % ch.length)).1 : Nat) := by rw [hln k hk]
    refine gt_name ?_
    repeat walk_at "z1"
  
    rw [inN_len]
    refine v2_ic (C := fun _ j => 0 < j) (show (0 : Int) < _ by omega) ?_
    repeat walk_at "z3"
  
    refine ⟨fun z => ?_, fun _ => ?_⟩
    · rw [hl2] at z
      simp at z
    refine go_next ?_
    repeat walk_at "z3"
  
    exact ⟨_, _, _, _, rfl⟩
  rintro s2 ⟨x2, x5, x6, x7, rfl⟩
  rw [rngD_len, Int.toNat_natCast]
  repeat walk_at "z3"
  
  refine ⟨fun _ => rfl, fun z => ?_⟩
  have z := of_decide_eq_false z
  obtain ⟨b1, b2⟩ : sumC (atC ls ch) ch.length = 0 ∧ prdW (atC ls ch) ch.length = 0 := by
    rcases hbad with h | h
    · exact absurd h z
    · exact h
  repeat walk_at "z1"
  
  refine ⟨fun _ => ?_, fun z => absurd b1 (of_decide_eq_false z)⟩
  repeat walk_at "z1"
  
  show _ = _
  rw [b2]
  rfl
end
def sp__law_solves : Spc where
  I := Nat × List Lm × Int × List Int
  args := fun (n, ls, u, f) => [.d (timesD u f), .d (.int n), .d (.list (lmsD ls))]
  cells := fun _ => []
  pre := fun (n, ls, u, f) => (1 ≤ n ∧ n ≤ 200) ∧ (1 ≤ u ∧ u ≤ n) ∧ f.length = n ∧ f.getD 0 0 = 0 ∧ Sol ls u (fun v => f.getD v 0) ∧ Rg n ls ∧ W01 ls
  post := fun _ r _ => r = .val (.bool true)
section
variable {P : Program} {w : World} {K : PySem.W.Frag} {mg : Str → Option Value} {base : Heap}
theorem ok__law_solves (T : Tx P K mg) : FnOk P w K mg base CX0 2 T.a__law_solves T.d__law_solves ["answer", "count", "rows"] (SpB K sp__law_solves) := by
  refine T.F__law_solves.ok sc__law_solves (fun vs H Q E h => spB_len h (fun _ => rfl)) (fun cdv A outer s H vs Q E hr h => ⟨_, PSs.nox ((pss_cons (ps_if (PW.pt (pw_or (pt_not (pt_truth (pe_callB call_isi (by rfl) T.z_isinstance (by decide +kernel) (pa_cons (pv 0) (pa_cons (pe_bltn (v := .ty "tuple") (by rfl) T.z_tuple (by decide +kernel) rfl) pa_nil))) (by intro _; rfl))) (pw_or (pt_cmpR (op_neD hr.units) (pe_callB call_len (by rfl) T.z_len (by decide +kernel) (pa_cons (pv 0) pa_nil)) pe_int (nomark _)) (pw_or1 (pt_not (pt_truth (pe_callB call_isi (by rfl) T.z_isinstance (by decide +kernel) (pa_cons (pe_ix ix_seq (pv 0) pe_int (fun _ _ => rfl)) (pa_cons (pe_bltn (v := .ty "str") (by rfl) T.z_str (by decide +kernel) rfl) pa_nil))) (by intro _; rfl)))))))
      (pss_one (ps_ret pe_bl))
      pss_nil)
      (pss_cons (ps_set (i := 3) sc__law_solves.nd rfl (.inl rfl) (pe_ix ix_seq (pv 0) pe_int (fun _ _ => rfl)))
      (pss_cons (ps_set (i := 4) sc__law_solves.nd rfl (.inl rfl) (pe_ix ix_seq (pv 0) pe_int (fun _ _ => rfl)))
      (pss_cons (ps_if (PW.pt (pw_or (pt_cmpR (op_neD hr.units) (pe_ix ix_seq (pv 0) pe_int (fun _ _ => rfl)) pe_str (nomark _)) (pw_or (pt_not (pt_truth (pe_call (ok__law_is_number T) (hr.mono (by decide)) (by rfl) T.g__law_is_number T.F__law_is_number.kp (b__law_is_number T.F__law_is_number) .nil pass0 (pa_cons (pv 3) pa_nil)) (by intro _; rfl))) (pw_or (pt_cmpR op_ltA (pv 3) pe_int (nomark _)) (pw_or1 (pt_cmpR op_gtA (pv 3) (pv 1) (nomark _)))))))
      (pss_one (ps_ret pe_bl))
      pss_nil)
      (pss_cons (ps_if (PW.pt (pw_or (pt_not (pt_truth (pe_callB call_isi (by rfl) T.z_isinstance (by decide +kernel) (pa_cons (pv 4) (pa_cons (pe_bltn (v := .ty "list") (by rfl) T.z_list (by decide +kernel) rfl) pa_nil))) (by intro _; rfl))) (pw_or1 (pt_cmpR (op_neD hr.units) (pe_callB call_len (by rfl) T.z_len (by decide +kernel) (pa_cons (pv 4) pa_nil)) (pv 1) (nomark _)))))
      (pss_one (ps_ret pe_bl))
      pss_nil)
      (pss_cons (ps_for PassesOwn.never rfl (pi_any (pv 4)) (pg_name (i := 5) sc__law_solves.nd rfl (.inl rfl) (.inr rfl))
      (pss_one (ps_if (pt_not (pt_truth (pe_call (ok__law_is_number T) (hr.mono (by decide)) (by rfl) T.g__law_is_number T.F__law_is_number.kp (b__law_is_number T.F__law_is_number) .nil pass0 (pa_cons (pv 5) pa_nil)) (by intro _; rfl)))
      (pss_one (ps_ret pe_bl))
      pss_nil)))
      (pss_cons (ps_if (pt_cmpR (op_neD hr.units) (pe_ix ix_seq (pv 4) pe_int (fun _ _ => rfl)) pe_int (nomark _))
      (pss_one (ps_ret pe_bl))
      pss_nil)
      (pss_cons (ps_for PassesOwn.never rfl (pi_any (pv 2)) (pg_name (i := 6) sc__law_solves.nd rfl (.inl rfl) (.inr rfl))
      (pss_cons (ps_set (i := 7) sc__law_solves.nd rfl (.inl rfl) (pe_op op_sub (pe_ix ix_seq (pv 4) (pe_ix ix_seq (pv 6) pe_int (fun _ _ => rfl)) (fun _ _ => rfl)) (pe_ix ix_seq (pv 4) (pe_ix ix_seq (pv 6) pe_int (fun _ _ => rfl)) (fun _ _ => rfl))))
      (pss_one (ps_if (PW.pt (pw_or (pt_cmpR op_gtA (pv 7) (pe_op op_mulA (pe_ix ix_seq (pv 6) pe_int (fun _ _ => rfl)) (pv 3)) (nomark _)) (pw_or1 (PW.pt (pw_and (pt_cmpR (op_eqD hr.units) (pv 7) (pe_op op_mulA (pe_ix ix_seq (pv 6) pe_int (fun _ _ => rfl)) (pv 3)) (nomark _)) (pw_and1 (pt_cmpR (op_eqD hr.units) (pe_ix ix_seq (pv 6) pe_int (fun _ _ => rfl)) pe_int (nomark _))))))))
      (pss_one (ps_ret pe_bl))
      pss_nil))))
      (pss_one (ps_ret pe_bl))))))))))), ?_⟩)
  refine go_fn (L := ["answer", "count", "rows", "unit", "ticks", "tick", "row", "gap"]) h (fun b i hp hX => ?_)
  dsimp only [cxOf, L2H.cxH, L2.Cx.nox, L2.Cx.wish]
  
  obtain ⟨n, ls, u, f⟩ := i
  obtain ⟨⟨n1, n2⟩, ⟨u1, u2⟩, hf, hz, hs, hr, hw⟩ := hp
  show GO K b _ ⟨[some (.d (.tuple [.str (PySem.Str.ofString "times"), .int u, .list (inL f)])), some (.d (.int n)), some (.d (.list (lmsD ls))), none, none, none, none, none], []⟩ _
  repeat walk_at "z4"
  
  refine ev_isnum (E := fun _ => E0) (i := u) ?_
  repeat walk_at "z4"
  
  refine ⟨fun z => ?_, fun _ => ?_⟩
  · have := of_decide_eq_true z
    omega
  repeat walk_at "z4"
  
  refine ⟨fun z => ?_, fun _ => ?_⟩
  · have := of_decide_eq_true z
    omega
  refine go_next ?_
  repeat walk_at "z4"
  
  refine ⟨fun z => ?_, fun _ => ?_⟩
  · rw [inL, List.length_map, hf] at z
    simp at z
  refine go_next ?_
  refine go_seq (go_for (ei_anyL (ei_list (ev_var rfl ⟨inL f, fun _ => True, .inl rfl, trivial, ?_⟩))))
  refine ⟨fun k s => ∃ (x5 : Option Dw.A), s = ⟨[some (.d (timesD u f)), some (.d (.int n)), some (.d (.list (lmsD ls))), some (.d (.int u)), some (.d (.list (inL f))), x5, none, none], []⟩, ⟨none, rfl⟩, fun _ _ _ _ => trivial, ?_, ?_⟩
  · rintro k v s2 hx ⟨x5, rfl⟩
    obtain ⟨q, hq⟩ : ∃ q, f[k]? = some q := ⟨f[k]'(by have := (List.getElem?_eq_some_iff.mp hx).1; rw [inL, List.length_map] at this; exact this), List.getElem?_eq_getElem _⟩
    have e : v = .int q := by
      rw [inL, List.getElem?_map, hq] at hx
      exact (Option.some.inj hx).symm
    subst e
    refine gt_name ?_
    repeat walk_at "z4"
  
    refine ev_isnum (E := fun _ => E0) (i := q) ?_
    repeat walk_at "z4"
  
    exact ⟨_, rfl⟩
  rintro s2 ⟨x5, rfl⟩
  have f0 : atI (inL f) 0 = some (.int 0) := by
    have := inL_at (o := f) (k := 0) (by omega)
    rw [hz] at this
    exact this
  repeat walk_at "z4"
  
  refine go_seq (go_for (ei_anyL (ei_list (ev_var rfl ⟨lmsD ls, fun _ => True, .inl rfl, trivial, ?_⟩))))
  refine ⟨fun k s => ∃ (x5 x6 x7 : Option Dw.A), s = ⟨[some (.d (timesD u f)), some (.d (.int n)), some (.d (.list (lmsD ls))), some (.d (.int u)), some (.d (.list (inL f))), x5, x6, x7], []⟩, ⟨x5, none, none, rfl⟩, fun _ _ _ _ => trivial, ?_, ?_⟩
  · rintro k v s2 hx ⟨x5, x6, x7, rfl⟩
    obtain ⟨l, hk, rfl⟩ := lmsD_inv hx
    have hl := List.mem_of_getElem? hk
    obtain ⟨hi, hj⟩ := hr l hl
    have ei := inL_at (o := f) (k := l.1) (by omega)
    have ej := inL_at (o := f) (k := l.2.1) (by omega)
    have hs : f.getD l.1 0 - f.getD l.2.1 0 ≤ l.2.2.1 * u - (1 - l.2.2.2) := hs l hl
    have hw := hw l hl
    refine gt_name ?_
    repeat walk_at "z4"
  
    refine ⟨fun z => ?_, fun _ => ?_⟩
    · have := of_decide_eq_true z
      omega
    repeat walk_at "z4"
  
    refine ⟨fun z1 => ?_, fun _ => ⟨(fun z => nomatch z), fun _ => ?_⟩⟩
    · repeat walk_at "z4"
  
      refine ⟨fun z => ?_, fun _ => ?_⟩
      · have a := of_decide_eq_true z1
        have c := of_decide_eq_true z
        omega
      · exact go_next ⟨_, _, _, rfl⟩
    · exact go_next ⟨_, _, _, rfl⟩
  rintro s2 ⟨x5, x6, x7, rfl⟩
  refine go_next ?_
  repeat walk_at "z4"
  
  rfl
end
def sp__law_cycle : Spc where
  I := Bg × Nat × Int
  args := fun (x, n, sc) => [.o 0, .d (.int n), .d (.int sc)]
  cells := fun (x, _) => [.lst x.l]
  pre := fun (x, n, _) => 0 ≤ x.i ∧ 1 ≤ n ∧ n ≤ 200
  post := fun (x, n, _) r os => ∃ (cs : List Lm) (y : Bg), r = .val (.list (lmsD cs)) ∧ os = [.lst y.l] ∧ 0 ≤ y.i ∧ Ring n cs ∧ BadR cs
section
variable {P : Program} {w : World} {K : PySem.W.Frag} {mg : Str → Option Value} {base : Heap}
theorem ok__law_cycle (T : Tx P K mg) : FnOk P w K mg base CX0 3 T.a__law_cycle T.d__law_cycle ["bag", "count", "scale"] (SpB K sp__law_cycle) := by
  refine T.F__law_cycle.ok sc__law_cycle (fun vs H Q E h => spB_len h (fun _ => rfl)) (fun cdv A outer s H vs Q E hr h => ⟨_, PSs.nox ((pss_cons (ps_set (i := 3) sc__law_cycle.nd rfl (.inl rfl) (pe_slice sl_any (pe_call (ok__law_order T) (hr.mono (by decide)) (by rfl) T.g__law_order T.F__law_order.kp (b__law_order T.F__law_order) .nil pass0 (pa_cons (pv 0) (pa_cons (pv 1) pa_nil))) po_none (po_some (pe_op op_addA pe_int (pe_call (ok__law_take T) (hr.mono (by decide)) (by rfl) T.g__law_take T.F__law_take.kp (b__law_take T.F__law_take) .nil pass0 (pa_cons (pv 0) (pa_cons (pv 1) pa_nil)))))))
      (pss_cons (ps_set (i := 4) sc__law_cycle.nd rfl (.inl rfl) (pe_lst pa_nil))
      (pss_cons (ps_set (i := 5) sc__law_cycle.nd rfl (.inl rfl) pe_int)
      (pss_cons (ps_for PassesOwn.never rfl (pi_range1 (by rfl) T.z_range (pa_cons (pe_op op_sub (pe_callB call_len (by rfl) T.z_len (by decide +kernel) (pa_cons (pv 3) pa_nil)) pe_int) pa_nil)) (pg_name (i := 6) sc__law_cycle.nd rfl (.inl rfl) (.inr rfl))
      (pss_cons (ps_set (i := 7) sc__law_cycle.nd rfl (.inl rfl) (pe_call (ok__law_number T) (hr.mono (by decide)) (by rfl) T.g__law_number T.F__law_number.kp (b__law_number T.F__law_number) .nil pass0 (pa_cons (pv 0) (pa_cons (pv 2) pa_nil))))
      (pss_cons (ps_expr (pe_bm PySem.F.plainAttrs_list PySem.F.slot_list_append PySem.F.type_list_append mt_append (pv 4) (pa_cons (pe_tup (pa_cons (pe_ix ix_seq (pv 3) (pv 6) (fun _ _ => rfl)) (pa_cons (pe_ix ix_seq (pv 3) (pe_op op_addA (pv 6) pe_int) (fun _ _ => rfl)) (pa_cons (pv 7) (pa_cons (pe_call (ok__law_take T) (hr.mono (by decide)) (by rfl) T.g__law_take T.F__law_take.kp (b__law_take T.F__law_take) .nil pass0 (pa_cons (pv 0) (pa_cons pe_int pa_nil))) pa_nil))))) pa_nil)))
      (pss_one (ps_set (i := 5) sc__law_cycle.nd rfl (.inl rfl) (pe_op op_addA (pv 5) (pv 7)))))))
      (pss_cons (ps_set (i := 8) sc__law_cycle.nd rfl (.inl rfl) (pe_call (ok__law_take T) (hr.mono (by decide)) (by rfl) T.g__law_take T.F__law_take.kp (b__law_take T.F__law_take) .nil pass0 (pa_cons (pv 0) (pa_cons pe_int pa_nil))))
      (pss_cons (ps_set (i := 9) sc__law_cycle.nd rfl (.inl rfl) pe_int)
      (pss_cons (ps_set (i := 10) sc__law_cycle.nd rfl (.inl rfl) pe_int)
      (pss_cons (ps_if (pt_cmpR op_gtA (pv 8) pe_int (nomark _))
      (pss_cons (ps_set (i := 9) sc__law_cycle.nd rfl (.inl rfl) (pe_op op_sub (pe_un un_neg pe_int) (pe_op op_mulA (pe_op op_sub (pv 8) pe_int) (pe_call (ok__law_take T) (hr.mono (by decide)) (by rfl) T.g__law_take T.F__law_take.kp (b__law_take T.F__law_take) .nil pass0 (pa_cons (pv 0) (pa_cons pe_int pa_nil))))))
      (pss_one (ps_set (i := 10) sc__law_cycle.nd rfl (.inl rfl) (pe_call (ok__law_take T) (hr.mono (by decide)) (by rfl) T.g__law_take T.F__law_take.kp (b__law_take T.F__law_take) .nil pass0 (pa_cons (pv 0) (pa_cons pe_int pa_nil))))))
      pss_nil)
      (pss_cons (ps_expr (pe_bm PySem.F.plainAttrs_list PySem.F.slot_list_append PySem.F.type_list_append mt_append (pv 4) (pa_cons (pe_tup (pa_cons (pe_ix ix_seq (pv 3) (pe_op op_sub (pe_callB call_len (by rfl) T.z_len (by decide +kernel) (pa_cons (pv 3) pa_nil)) pe_int) (fun _ _ => rfl)) (pa_cons (pe_ix ix_seq (pv 3) pe_int (fun _ _ => rfl)) (pa_cons (pe_op op_sub (pv 9) (pv 5)) (pa_cons (pv 10) pa_nil))))) pa_nil)))
      (pss_one (ps_ret (pv 4))))))))))))), ?_⟩)
  refine go_fn (L := ["bag", "count", "scale", "order", "rows", "added", "k", "c", "way", "aim", "weak"]) h (fun b i hp hX => ?_)
  dsimp only [cxOf, L2H.cxH, L2.Cx.nox, L2.Cx.wish]
  
  obtain ⟨x, n, sc⟩ := i
  obtain ⟨h0, n1, n2⟩ := hp
  show GO K b _ ⟨[some (.o 0), some (.d (.int n)), some (.d (.int sc)), none, none, none, none, none, none, none, none], [.lst x.l]⟩ _
  repeat walk_at "z4"
  
  refine ev_order ?_
  repeat walk_at "z4"
  
  refine ⟨x, n, _, _, rfl, rfl, h0, n2, fun o y1 q1 ho => ?_⟩
  repeat walk_at "z4"
  (refine ev_take ?_; repeat walk_at "z1")
  refine ⟨y1, _, _, _, rfl, rfl, q1, by first | decide | omega, fun t y2 q2 t0 t1 => ?_⟩
  repeat walk_at "z1"
  
  have hol : o.length = n := by have := ho.length_eq; rw [List.length_range] at this; exact this
  obtain ⟨m, hm⟩ : ∃ m : Nat, (1 : Int) + t = m := ⟨(1 + t).toNat, by omega⟩
  rw [hm]
  refine vs_list (ds := inN o) rfl ?_
  rw [cut_take (by omega)]
  obtain ⟨os, hos⟩ : ∃ os, o.take m = os := ⟨_, rfl⟩
  have osl : os.length = m := by rw [← hos, List.length_take]; omega
  have osr : ∀ v ∈ os, v < n := fun v hv => by
    rw [← hos] at hv
    exact List.mem_range.mp (ho.mem_iff.mp (List.mem_of_mem_take hv))
  have osn : os.Nodup := by
    rw [← hos]
    exact (ho.nodup_iff.mpr List.nodup_range).sublist (List.take_sublist _ _)
  rw [hos]
  repeat walk_at "z4"
  
  refine ev_lstO (ea_nil ⟨[], rfl, rfl, gt_name ?_⟩)
  repeat walk_at "z4"
  
  refine go_for (ei_r1 ?_)
  repeat walk_at "z4"
  
  rw [inN_len, osl, show (m : Int) - 1 = ((m - 1 : Nat) : Int) by omega]
  refine ⟨by omega, by omega, ?_⟩
  refine ⟨fun k s => ∃ (y : Bg) (cs : List Lm) (x6 x7 : Option Dw.A), 0 ≤ y.i ∧ cs.length = k ∧ Way os cs ∧ s = ⟨[some (.o 0), some (.d (.int n)), some (.d (.int sc)), some (.d (.list (inN os))), some (.o 1), some (.d (.int (sumC (lmG cs) cs.length))), x6, x7, none, none, none], [.lst y.l, .lst (lmsD cs)]⟩, ⟨y2, [], none, none, q2, rfl, way_nil, rfl⟩, fun _ _ _ _ => trivial, ?_, ?_⟩
  · rintro k v s2 hx ⟨y, cs, x6, x7, q, hk, hW, rfl⟩
    obtain ⟨hkm, rfl⟩ := rngD_get hx
    rw [Int.toNat_natCast] at hkm
    subst hk
    rw [Int.zero_add]
    have e1 := inN_at (o := os) (k := cs.length) (by omega)
    have e2 : atI (inN os) ((cs.length : Int) + 1) = some (.int (os.getD (cs.length + 1) 0 : Nat)) := inN_at (o := os) (k := cs.length + 1) (by omega)
    refine gt_name ?_
    repeat walk_at "z4"
  
    refine ev_number ?_
    repeat walk_at "z4"
  
    refine ⟨y, sc, _, _, rfl, rfl, q, fun c y3 q3 _ _ => ?_⟩
    repeat walk_at "z4"
  
    refine ev_bmL (ev_var (a := .o 1) rfl ⟨⟨1, lmsD cs, rfl, rfl⟩, ?_⟩)
    repeat walk_at "z4"
    (refine ev_take ?_; repeat walk_at "z1")
    refine ⟨y3, _, _, _, rfl, rfl, q3, by first | decide | omega, fun w y4 q4 w0 w1 => ?_⟩
    repeat walk_at "z1"
  
    refine vm_append (n := 1) (ds := lmsD cs) rfl (Nat.lt_of_le_of_lt (show _ ≤ 1000 by rw [lmsD_len]; omega) (by decide)) ?_
    rw [show ∀ z, lmsD cs ++ [PyData.tuple [.int (os.getD cs.length 0 : Nat), .int (os.getD (cs.length + 1) 0 : Nat), .int c, .int z]] = lmsD (cs ++ [(os.getD cs.length 0, os.getD (cs.length + 1) 0, c, z)]) from fun z => lmsD_snoc (l := (os.getD cs.length 0, os.getD (cs.length + 1) 0, c, z))]
    repeat walk_at "z4"
  
    refine ⟨y4, _, some (.d (.int (cs.length : Nat))), some (.d (.int c)), q4, by rw [List.length_append, List.length_singleton], way_step hW (c := c) (w := w) (by omega), ?_⟩
    rw [List.length_append, List.length_singleton, sumC_app]
    rfl
  rintro s2 ⟨y, cs, x6, x7, q, hk, hW, rfl⟩
  rw [rngD_len, Int.toNat_natCast] at hk
  repeat walk_at "z4"
  (refine ev_take ?_; repeat walk_at "z1")
  refine ⟨y, _, _, _, rfl, rfl, q, by first | decide | omega, fun way y3 q3 w0 w1 => ?_⟩
  repeat walk_at "z1"
  
  refine go_mid (fun s => ∃ (y : Bg) (aim wk : Int), 0 ≤ y.i ∧ (wk = 0 ∨ wk = 1) ∧ (aim < 0 ∨ aim = 0 ∧ wk = 0) ∧ s = ⟨[some (.o 0), some (.d (.int n)), some (.d (.int sc)), some (.d (.list (inN os))), some (.o 1), some (.d (.int (sumC (lmG cs) cs.length))), x6, x7, some (.d (.int way)), some (.d (.int aim)), some (.d (.int wk))], [.lst y.l, .lst (lmsD cs)]⟩) ?_ ?_
  · repeat walk_at "z1"
  
    refine ⟨fun z => ?_, fun z => ?_⟩
    · have z := of_decide_eq_true z
      repeat walk_at "z4"
      (refine ev_take ?_; repeat walk_at "z1")
      refine ⟨y3, _, _, _, rfl, rfl, q3, by first | decide | omega, fun a y4 q4 a0 a1 => ?_⟩
      repeat walk_at "z1"
  
      repeat walk_at "z4"
      (refine ev_take ?_; repeat walk_at "z1")
      refine ⟨y4, _, _, _, rfl, rfl, q4, by first | decide | omega, fun wk y5 q5 w20 w21 => ?_⟩
      repeat walk_at "z1"
  
      refine ⟨y5, _, wk, q5, by omega, .inl ?_, rfl⟩
      have : way = 1 ∨ way = 2 := by omega
      rcases this with rfl | rfl
      · omega
      · omega
    · exact go_next ⟨y3, 0, 0, q3, .inl rfl, .inr ⟨rfl, rfl⟩, rfl⟩
  rintro s2 ⟨y4, aim, wk, q4, hwk, haim, rfl⟩
  have osm : os.length = cs.length + 1 := by omega
  have e1 := inN_at (o := os) (k := cs.length) (by omega)
  have e2 : atI (inN os) 0 = some (.int (os.getD 0 0 : Nat)) := inN_at (o := os) (k := 0) (by omega)
  repeat walk_at "z4"
  
  refine ev_bmL (ev_var (a := .o 1) rfl ⟨⟨1, lmsD cs, rfl, rfl⟩, ?_⟩)
  repeat walk_at "z4"
  
  rw [inN_len, osm, show ((cs.length + 1 : Nat) : Int) - 1 = (cs.length : Nat) by omega]
  refine v2_ixL e1 ?_
  repeat walk_at "z4"
  
  refine vm_append (n := 1) (ds := lmsD cs) rfl (Nat.lt_of_le_of_lt (show _ ≤ 1000 by rw [lmsD_len]; omega) (by decide)) ?_
  rw [show lmsD cs ++ [PyData.tuple [.int (os.getD cs.length 0 : Nat), .int (os.getD 0 0 : Nat), .int (aim - sumC (lmG cs) cs.length), .int wk]] = lmsD (cs ++ [(os.getD cs.length 0, os.getD 0 0, aim - sumC (lmG cs) cs.length, wk)]) from lmsD_snoc (l := (os.getD cs.length 0, os.getD 0 0, aim - sumC (lmG cs) cs.length, wk))]
  refine go_ret (ev_frz (xs := lmsD (cs ++ [(os.getD cs.length 0, os.getD 0 0, aim - sumC (lmG cs) cs.length, wk)])) rfl rfl (rt_val ?_))
  exact ⟨_, y4, rfl, rfl, q4, way_ring hW osm (by omega) osr osn hwk, bad_aim (aim := aim) (by show sumC (lmG cs) cs.length + (aim - sumC (lmG cs) cs.length) = aim; omega) haim⟩
end
def sp__law_system : Spc where
  I := Bg × Nat × Int
  args := fun (x, n, sc) => [.o 0, .d (.int n), .d (.int sc)]
  cells := fun (x, _) => [.lst x.l]
  pre := fun (x, n, _) => 0 ≤ x.i ∧ 1 ≤ n ∧ n ≤ 100
  post := fun (x, n, _) r os => ∃ (ls : List Lm) (y : Bg), r = .val (.list (lmsD ls)) ∧ os = [.lst y.l] ∧ 0 ≤ y.i ∧ Rg n ls ∧ W01 ls ∧ ls.length ≤ 700 ∧ ∃ P, Feas n ls P
section
variable {P : Program} {w : World} {K : PySem.W.Frag} {mg : Str → Option Value} {base : Heap}
theorem ok__law_system (T : Tx P K mg) : FnOk P w K mg base CX0 4 T.a__law_system T.d__law_system ["bag", "count", "scale"] (SpB K sp__law_system) := by
  refine T.F__law_system.ok sc__law_system (fun vs H Q E h => spB_len h (fun _ => rfl)) (fun cdv A outer s H vs Q E hr h => ⟨_, PSs.nox ((pss_cons (ps_if (pt_cmpR (op_eqD hr.units) (pe_call (ok__law_take T) (hr.mono (by decide)) (by rfl) T.g__law_take T.F__law_take.kp (b__law_take T.F__law_take) .nil pass0 (pa_cons (pv 0) (pa_cons pe_int pa_nil))) pe_int (nomark _))
      (pss_one (ps_ret (pe_call (ok__law_stairs T) (hr.mono (by decide)) (by rfl) T.g__law_stairs T.F__law_stairs.kp (b__law_stairs T.F__law_stairs) .nil pass0 (pa_cons (pv 0) (pa_cons (pv 1) (pa_cons (pv 2) pa_nil))))))
      pss_nil)
      (pss_cons (ps_set (i := 3) sc__law_system.nd rfl (.inl rfl) (pe_op op_addA pe_int (pe_call (ok__law_take T) (hr.mono (by decide)) (by rfl) T.g__law_take T.F__law_take.kp (b__law_take T.F__law_take) .nil pass0 (pa_cons (pv 0) (pa_cons (pv 1) pa_nil)))))
      (pss_cons (ps_set (i := 4) sc__law_system.nd rfl (.inl rfl) (pe_lst (pa_cons pe_int pa_nil)))
      (pss_cons (ps_for PassesOwn.never rfl (pi_range2 (by rfl) T.z_range (pa_cons pe_int (pa_cons (pv 1) pa_nil))) (pg_name (i := 5) sc__law_system.nd rfl (.inl rfl) (.inr rfl))
      (pss_one (ps_expr (pe_bm PySem.F.plainAttrs_list PySem.F.slot_list_append PySem.F.type_list_append mt_append (pv 4) (pa_cons (pe_op op_addA (pe_op op_mulA (pe_call (ok__law_number T) (hr.mono (by decide)) (by rfl) T.g__law_number T.F__law_number.kp (b__law_number T.F__law_number) .nil pass0 (pa_cons (pv 0) (pa_cons (pv 2) pa_nil))) (pv 3)) (pe_call (ok__law_take T) (hr.mono (by decide)) (by rfl) T.g__law_take T.F__law_take.kp (b__law_take T.F__law_take) .nil pass0 (pa_cons (pv 0) (pa_cons (pv 3) pa_nil)))) pa_nil)))))
      (pss_cons (ps_set (i := 6) sc__law_system.nd rfl (.inl rfl) (pe_ix ix_seq (pe_lst (pa_cons pe_int (pa_cons pe_int (pa_cons pe_int (pa_cons (pv 1) (pa_cons (pe_op op_addA (pv 1) pe_int) (pa_cons (pe_op op_addA (pe_op op_mulA pe_int (pv 1)) pe_int) (pa_cons (pe_op op_mulA pe_int (pv 1)) pa_nil)))))))) (pe_call (ok__law_take T) (hr.mono (by decide)) (by rfl) T.g__law_take T.F__law_take.kp (b__law_take T.F__law_take) .nil pass0 (pa_cons (pv 0) (pa_cons pe_int pa_nil))) (fun _ _ => rfl)))
      (pss_cons (ps_set (i := 7) sc__law_system.nd rfl (.inl rfl) (pe_lst pa_nil))
      (pss_cons (ps_for PassesOwn.never rfl (pi_range1 (by rfl) T.z_range (pa_cons (pv 6) pa_nil)) (pg_name (i := 5) sc__law_system.nd rfl (.inl rfl) (.inr rfl))
      (pss_cons (ps_set (i := 8) sc__law_system.nd rfl (.inl rfl) (pe_call (ok__law_pair T) (hr.mono (by decide)) (by rfl) T.g__law_pair T.F__law_pair.kp (b__law_pair T.F__law_pair) .nil pass0 (pa_cons (pv 0) (pa_cons (pv 1) pa_nil))))
      (pss_one (ps_expr (pe_bm PySem.F.plainAttrs_list PySem.F.slot_list_append PySem.F.type_list_append mt_append (pv 7) (pa_cons (pe_call (ok__law_around T) (hr.mono (by decide)) (by rfl) T.g__law_around T.F__law_around.kp (b__law_around T.F__law_around) .nil pass0 (pa_cons (pv 0) (pa_cons (pv 3) (pa_cons (pv 4) (pa_cons (pe_ix ix_seq (pv 8) pe_int (fun _ _ => rfl)) (pa_cons (pe_ix ix_seq (pv 8) pe_int (fun _ _ => rfl)) pa_nil)))))) pa_nil))))))
      (pss_one (ps_ret (pv 7))))))))))), ?_⟩)
  refine go_fn (L := ["bag", "count", "scale", "unit", "secret", "k", "size", "rows", "pair"]) h (fun b i hp hX => ?_)
  dsimp only [cxOf, L2H.cxH, L2.Cx.nox, L2.Cx.wish]
  
  obtain ⟨x, n, sc⟩ := i
  obtain ⟨h0, n1, n2⟩ := hp
  show GO K b _ ⟨[some (.o 0), some (.d (.int n)), some (.d (.int sc)), none, none, none, none, none, none], [.lst x.l]⟩ _
  repeat walk_at "z4"
  (refine ev_take ?_; repeat walk_at "z1")
  refine ⟨x, _, _, _, rfl, rfl, h0, by first | decide | omega, fun t y1 q1 t0 t1 => ?_⟩
  repeat walk_at "z1"
  
  repeat walk_at "z4"
  
  refine ⟨fun _ => ?_, fun _ => ?_⟩
  · refine go_ret (ev_call1 (E := fun _ => E0) 0 ?_)
    repeat walk_at "z4"
  
    refine ⟨(y1, n, sc), .lst y1.l, [.d (.int n), .d (.int sc)], rfl, rfl, rfl, rfl, (fun z => nomatch z), rfl, ⟨q1, n1, by omega⟩, fun r c' hr => ?_, fun x c' hx => (show False from hx).elim⟩
    obtain ⟨o, f, y, rfl, e, q, ho, hf⟩ := hr
    cases e
    rw [stairs_D]
    obtain ⟨g1, g2, g3, g4⟩ := stairs_good (f := f) n1 ho
    exact ⟨stairs n o f, y, rfl, rfl, q, g1, g2, by omega, g4⟩
  repeat walk_at "z4"
  (refine ev_take ?_; repeat walk_at "z1")
  refine ⟨y1, _, _, _, rfl, rfl, q1, by first | decide | omega, fun u y2 q2 u0 u1 => ?_⟩
  repeat walk_at "z1"
  
  refine ev_lstO (ea_cons (ev_int (ea_nil ⟨[.int 0], rfl, rfl, gt_name ?_⟩)))
  refine go_seq (go_for (ei_r2 ?_))
  repeat walk_at "z4"
  
  refine ⟨_, _, rfl, ⟨by omega, by omega, by omega, by omega⟩, ?_⟩
  rw [show ((n : Int) - 1).toNat = n - 1 by omega]
  refine ⟨fun k s => ∃ (y : Bg) (fs : List Int) (x5 : Option Dw.A), 0 ≤ y.i ∧ fs.length = k + 1 ∧ s = ⟨[some (.o 0), some (.d (.int n)), some (.d (.int sc)), some (.d (.int (1 + u))), some (.o 1), x5, none, none, none], [.lst y.l, .lst (inL fs)]⟩, ⟨y2, [0], none, q2, rfl, rfl⟩, fun _ _ _ _ => trivial, ?_, ?_⟩
  · rintro k v s2 hx ⟨y, fs, x5, q, hf, rfl⟩
    obtain ⟨hk, rfl⟩ := rngD_get hx
    refine gt_name ?_
    refine go_drop (ev_bmL (ev_var (a := .o 1) rfl ⟨⟨1, inL fs, rfl, rfl⟩, ?_⟩))
    repeat walk_at "z4"
  
    refine ev_number ?_
    repeat walk_at "z4"
  
    refine ⟨y, sc, _, _, rfl, rfl, q, fun c y3 q3 _ _ => ?_⟩
    repeat walk_at "z4"
  
    repeat walk_at "z4"
    (refine ev_take ?_; repeat walk_at "z1")
    refine ⟨y3, _, _, _, rfl, rfl, q3, by first | decide | omega, fun w y4 q4 w0 w1 => ?_⟩
    repeat walk_at "z1"
  
    refine vm_append (n := 1) (ds := inL fs) rfl (Nat.lt_of_le_of_lt (show _ ≤ 1000 by rw [inL, List.length_map]; omega) (by decide)) ?_
    rw [inL_snoc]
    exact ⟨y4, _, _, q4, by rw [List.length_append, List.length_singleton]; omega, rfl⟩
  rintro s2 ⟨y, fs, x5, q, hf, rfl⟩
  rw [rngD_len] at hf
  refine go_sAsg ?_
  repeat walk_at "z4"
  
  refine ev_lst ?_
  repeat walk_at "z4"
  (refine ev_take ?_; repeat walk_at "z1")
  refine ⟨y, _, _, _, rfl, rfl, q, by first | decide | omega, fun m y3 q3 m0 m1 => ?_⟩
  repeat walk_at "z1"
  
  obtain ⟨e, he, e0⟩ : ∃ e : Int, atI (inL [0, 1, 2, (n : Int), (n : Int) + 3, 2 * (n : Int) + 2, 3 * (n : Int)]) m = some (.int e) ∧ (0 ≤ e ∧ e ≤ 600) := by
    have : m = 0 ∨ m = 1 ∨ m = 2 ∨ m = 3 ∨ m = 4 ∨ m = 5 ∨ m = 6 := by omega
    rcases this with rfl | rfl | rfl | rfl | rfl | rfl | rfl
    · exact ⟨_, rfl, by omega⟩
    · exact ⟨_, rfl, by omega⟩
    · exact ⟨_, rfl, by omega⟩
    · exact ⟨_, rfl, by omega⟩
    · exact ⟨_, rfl, by omega⟩
    · exact ⟨_, rfl, by omega⟩
    · exact ⟨_, rfl, by omega⟩
  refine v2_ixL (ds := inL [0, 1, 2, (n : Int), (n : Int) + 3, 2 * (n : Int) + 2, 3 * (n : Int)]) he ?_
  refine gt_name ?_
  refine go_frz 1 (xs := inL fs) rfl ?_
  refine go_sAsg (ev_lstO (ea_nil ⟨[], rfl, rfl, gt_name ?_⟩))
  refine go_seq (go_for (ei_r1 ?_))
  repeat walk_at "z4"
  
  refine ⟨by omega, by omega, ?_⟩
  refine ⟨fun k s => ∃ (y : Bg) (ls : List Lm) (x5 x8 : Option Dw.A), 0 ≤ y.i ∧ ls.length = k ∧ Rg n ls ∧ W01 ls ∧ Sol ls (1 + u) (fun v => fs.getD v 0) ∧ s = ⟨[some (.o 0), some (.d (.int n)), some (.d (.int sc)), some (.d (.int (1 + u))), some (.d (.list (inL fs))), x5, some (.d (.int e)), some (.o 2), x8], [.lst y.l, .dead, .lst (lmsD ls)]⟩, ⟨y3, [], _, none, q3, rfl, (fun _ h => nomatch h), (fun _ h => nomatch h), (fun _ h => nomatch h), rfl⟩, fun _ _ _ _ => trivial, ?_, ?_⟩
  · rintro k v s2 hx ⟨y, ls, x5, x8, q, hk, hr, hw, hs, rfl⟩
    obtain ⟨hke, rfl⟩ := rngD_get hx
    subst hk
    refine gt_name ?_
    refine go_sAsg (ev_pair ?_)
    repeat walk_at "z4"
  
    refine ⟨y, n, _, _, rfl, rfl, q, by omega, fun i j y4 q4 i0 i1 j0 j1 => ?_⟩
    obtain ⟨i', rfl⟩ : ∃ i' : Nat, i = i' := ⟨i.toNat, by omega⟩
    obtain ⟨j', rfl⟩ : ∃ j' : Nat, j = j' := ⟨j.toNat, by omega⟩
    repeat walk_at "z4"
  
    refine ev_bmL (ev_var (a := .o 2) rfl ⟨⟨2, lmsD ls, rfl, rfl⟩, ?_⟩)
    refine ea_cons (ev_call1 (E := fun _ => E0) 0 ?_)
    repeat walk_at "z4"
  
    refine ⟨(y4, 1 + u, fs, i', j'), .lst y4.l, [.d (.int (1 + u)), .d (.list (inL fs)), .d (.int i'), .d (.int j')], rfl, rfl, rfl, rfl, (fun z => nomatch z), rfl, ⟨q4, by omega, by omega, by omega⟩, fun r c' hr => ?_, fun x c' hx => (show False from hx).elim⟩
    obtain ⟨c, w, y5, rfl, e, q5, hw5, hs5⟩ := hr
    cases e
    refine ea_nil ?_
    refine vm_append (n := 2) (ds := lmsD ls) rfl (Nat.lt_of_le_of_lt (show _ ≤ 1000 by rw [lmsD_len]; omega) (by decide)) ?_
    rw [show lmsD ls ++ [PyData.tuple [.int (i' : Nat), .int (j' : Nat), .int c, .int w]] = lmsD (ls ++ [(i', j', c, w)]) from lmsD_snoc (l := (i', j', c, w))]
    refine ⟨y5, ls ++ [(i', j', c, w)], _, _, q5, by rw [List.length_append, List.length_singleton], Rg_app hr (show i' < n by omega) (show j' < n by omega), W01_app hw hw5, fun l hl => ?_, rfl⟩
    rcases List.mem_append.mp hl with hl | hl
    · exact hs l hl
    · rw [List.mem_singleton.mp hl]
      exact hs5
  rintro s2 ⟨y, ls, x5, x8, q, hk, hr, hw, hs, rfl⟩
  rw [rngD_len] at hk
  refine go_ret (ev_frz (xs := lmsD ls) rfl rfl (rt_val ?_))
  exact ⟨ls, y, rfl, rfl, q, hr, hw, by omega, _, pot_feas (by omega) hr hw hs⟩
end
def sp__law_answers : Spc where
  I := Nat × List Lm × Bool
  args := fun (n, ls, gd) => [.d (.int n), .d (.list (lmsD ls)), .d (.bool gd)]
  cells := fun _ => []
  pre := fun (n, ls, gd) => (1 ≤ n ∧ n ≤ 200) ∧ Rg n ls ∧ W01 ls ∧ ls.length ≤ 1000 ∧ ((gd = true ∧ ∃ P, Feas n ls P) ∨ (gd = false ∧ ¬ ∃ P, Feas n ls P))
  post := fun _ r _ => r = .val (.bool true)
section
variable {P : Program} {w : World} {K : PySem.W.Frag} {mg : Str → Option Value} {base : Heap}
theorem ok__law_answers (T : Tx P K mg) : FnOk P w K mg base CX0 5 T.a__law_answers T.d__law_answers ["count", "rows", "good"] (SpB K sp__law_answers) := by
  refine T.F__law_answers.ok sc__law_answers (fun vs H Q E h => spB_len h (fun _ => rfl)) (fun cdv A outer s H vs Q E hr h => ⟨_, PSs.nox ((pss_cons (ps_set (i := 3) sc__law_answers.nd rfl (.inl rfl) (pe_callTy call_list_of (by rfl) T.z_list (by decide +kernel) (pa_cons (pv 1) pa_nil)))
      (pss_cons (ps_set (i := 4) sc__law_answers.nd rfl (.inl rfl) (pe_call (ok_solve T) (hr.mono (by decide)) (by rfl) T.g_solve T.F_solve.kp (b_solve T.F_solve) .nil passN (pa_cons (pv 0) (pa_cons (pv 3) pa_nil))))
      (pss_cons (ps_if (pt_cmpR (op_neD hr.units) (pv 3) (pv 1) (nomark _))
      (pss_one (ps_ret pe_bl))
      pss_nil)
      (pss_cons (ps_if (pt_truth (pv 2) (by intro _; rfl))
      (pss_one (ps_ret (pe_call (ok__law_solves T) (hr.mono (by decide)) (by rfl) T.g__law_solves T.F__law_solves.kp (b__law_solves T.F__law_solves) .nil pass0 (pa_cons (pv 4) (pa_cons (pv 0) (pa_cons (pv 1) pa_nil))))))
      pss_nil)
      (pss_cons (ps_if (PW.pt (pw_or (pt_not (pt_truth (pe_callB call_isi (by rfl) T.z_isinstance (by decide +kernel) (pa_cons (pv 4) (pa_cons (pe_bltn (v := .ty "tuple") (by rfl) T.z_tuple (by decide +kernel) rfl) pa_nil))) (by intro _; rfl))) (pw_or (pt_cmpR (op_neD hr.units) (pe_callB call_len (by rfl) T.z_len (by decide +kernel) (pa_cons (pv 4) pa_nil)) pe_int (nomark _)) (pw_or1 (pt_not (pt_truth (pe_callB call_isi (by rfl) T.z_isinstance (by decide +kernel) (pa_cons (pe_ix ix_seq (pv 4) pe_int (fun _ _ => rfl)) (pa_cons (pe_bltn (v := .ty "str") (by rfl) T.z_str (by decide +kernel) rfl) pa_nil))) (by intro _; rfl)))))))
      (pss_one (ps_ret pe_bl))
      pss_nil)
      (pss_one (ps_ret (pe_and (pe_cmpR (op_eqD hr.units) (pe_ix ix_seq (pv 4) pe_int (fun _ _ => rfl)) pe_str (nomark _)) (pe_one (pe_call (ok__law_is_bad_cycle T) (hr.mono (by decide)) (by rfl) T.g__law_is_bad_cycle T.F__law_is_bad_cycle.kp (b__law_is_bad_cycle T.F__law_is_bad_cycle) .nil pass0 (pa_cons (pe_ix ix_seq (pv 4) pe_int (fun _ _ => rfl)) (pa_cons (pv 1) pa_nil))))))))))))), ?_⟩)
  refine go_fn (L := ["count", "rows", "good", "passed", "answer"]) h (fun b i hp hX => ?_)
  dsimp only [cxOf, L2H.cxH, L2.Cx.nox, L2.Cx.wish]
  
  obtain ⟨n, ls, gd⟩ := i
  obtain ⟨⟨n1, n2⟩, hr, hw, hl, hg⟩ := hp
  show GO K b _ ⟨[some (.d (.int n)), some (.d (.list (lmsD ls))), some (.d (.bool gd)), none, none], []⟩ _
  repeat walk_at "z4"
  
  refine vc_list (ds := lmsD ls) (.inl rfl) ?_
  repeat walk_at "z4"
  
  refine ev_call0 (E := fun _ => E0) ?_
  repeat walk_at "z4"
  
  refine ⟨(n, ls.map lmR), by rw [lmsD_rws]; rfl, rfl, rfl, ⟨⟨n1, n2⟩, by rw [List.length_map]; exact hl⟩, fun r os' hr' => ?_, fun x os' hx => ?_⟩
  rotate_left
  · obtain ⟨p, y, hy, hno, _⟩ := hx
    exact absurd (okR_lm hr hw y (List.mem_of_getElem? hy)) hno
  obtain ⟨ls', z, e, hr', hw', rfl, hA⟩ := hr'
  have e : ls' = ls := by
    have inj : ∀ a b : Lm, lmR a = lmR b → a = b := fun a b h => by
      obtain ⟨a1, a2, a3, a4⟩ := a
      obtain ⟨b1, b2, b3, b4⟩ := b
      simp only [lmR, Prod.mk.injEq] at h
      obtain ⟨h1, h2, h3, h4⟩ := h
      have h1 : a1 = b1 := by omega
      have h2 : a2 = b2 := by omega
      rw [h1, h2, h3, h4]
    exact ((List.map_inj_right inj).mp e).symm
  subst e
  have sh : Shp 2 (.list (lmsD ls')) := shp_list fun x hx => by
    obtain ⟨l, _, rfl⟩ := List.mem_map.mp hx
    exact shp_tup fun y hy => by
      simp only [List.mem_cons, List.not_mem_nil, or_false] at hy
      rcases hy with rfl | rfl | rfl | rfl <;> exact shp_int
  refine gt_name ?_
  refine go_seq (go_if (et_test (ev_op (ev_var rfl (ev_var rfl (v2_neS1 (d := .list (lmsD ls')) rfl rfl sh (by decide) ?_))))))
  repeat walk_at "z4"
  
  rcases hA with ⟨u, f, rfl, u1, u2, hf, hz, hs⟩ | ⟨ch, rfl, hb, hcn, hno⟩
  · rcases hg with ⟨rfl, hP⟩ | ⟨rfl, hP⟩
    · repeat walk_at "z4"
  
      refine ev_callV (E := fun _ => E0) ?_
      repeat walk_at "z4"
  
      exact ⟨(n, ls', u, f), _, rfl, rfl, rfl, ⟨⟨n1, n2⟩, ⟨u1, u2⟩, hf, hz, hs, hr, hw⟩, fun _ _ h => h, fun _ _ h => h, rfl⟩
    · exact absurd ⟨_, pot_feas u1 hr hw hs⟩ hP
  · rcases hg with ⟨rfl, hP⟩ | ⟨rfl, hP⟩
    · exact absurd hP hno
    · repeat walk_at "z4"
  
      refine ev_callV (E := fun _ => E0) ?_
      repeat walk_at "z4"
  
      exact ⟨(ls', ch), _, rfl, rfl, rfl, ⟨hb, hw, hl, by omega⟩, fun _ _ h => h, fun _ _ h => h, rfl⟩
end
def sp_plus : Spc where
  I := Option Bd × Option Bd
  args := fun (p, q) => [.d (bdD p), .d (bdD q)]
  cells := fun _ => []
  pre := fun (p, q) => okO p ∧ okO q
  post := fun (p, q) r _ => r = .val (bdD (plusO p q))
section
variable {P : Program} {w : World} {K : PySem.W.Frag} {mg : Str → Option Value} {base : Heap}
theorem ok_plus (T : Tx P K mg) : FnOk P w K mg base CX0 1 T.a_plus T.d_plus ["first", "second"] (SpB K sp_plus) := by
  refine T.F_plus.ok sc_plus (fun vs H Q E h => spB_len h (fun _ => rfl)) (fun cdv A outer s H vs Q E hr h => ⟨_, PSs.nox ((pss_cons (ps_if (PW.pt (pw_or (pt_cmpR op_isA (pv 0) pe_non (nomark _)) (pw_or1 (pt_cmpR op_isA (pv 1) pe_non (nomark _)))))
      (pss_one (ps_ret pe_non))
      pss_nil)
      (pss_one (ps_ret (pe_tup (pa_cons (pe_op op_addA (pe_ix ix_seq (pv 0) pe_int (fun _ _ => rfl)) (pe_ix ix_seq (pv 1) pe_int (fun _ _ => rfl))) (pa_cons (pe_op op_mulA (pe_ix ix_seq (pv 0) pe_int (fun _ _ => rfl)) (pe_ix ix_seq (pv 1) pe_int (fun _ _ => rfl))) pa_nil))))))), ?_⟩)
  refine go_fn (L := ["first", "second"]) h (fun b i hp hX => ?_)
  dsimp only [cxOf, L2H.cxH, L2.Cx.nox, L2.Cx.wish]
  
  obtain ⟨p, q⟩ := i
  obtain ⟨h1, h2⟩ := hp
  match p, q, h1, h2 with
  | none, q, _, _ =>
    show GO K b _ ⟨[some (.d .none), some (.d (bdD q))], []⟩ _
    repeat walk_at "z4"
  
    cases q <;> rfl
  | some (p1, p2), none, _, _ =>
    show GO K b _ ⟨[some (.d (.tuple [.int p1, .int p2])), some (.d .none)], []⟩ _
    repeat walk_at "z4"
  
    rfl
  | some (p1, p2), some (q1, q2), h1, h2 =>
    show GO K b _ ⟨[some (.d (.tuple [.int p1, .int p2])), some (.d (.tuple [.int q1, .int q2]))], []⟩ _
    have w1 : p2 = 0 ∨ p2 = 1 := h1 _ rfl
    have w2 : q2 = 0 ∨ q2 = 1 := h2 _ rfl
    repeat walk_at "z4"
  
    rfl
end
def sp_less : Spc where
  I := Option Bd × Option Bd
  args := fun (p, q) => [.d (bdD p), .d (bdD q)]
  cells := fun _ => []
  pre := fun _ => True
  post := fun (p, q) r _ => r = .val (.bool (lessO p q))
section
variable {P : Program} {w : World} {K : PySem.W.Frag} {mg : Str → Option Value} {base : Heap}
theorem ok_less (T : Tx P K mg) : FnOk P w K mg base CX0 1 T.a_less T.d_less ["first", "second"] (SpB K sp_less) := by
  refine T.F_less.ok sc_less (fun vs H Q E h => spB_len h (fun _ => rfl)) (fun cdv A outer s H vs Q E hr h => ⟨_, PSs.nox ((pss_cons (ps_if (pt_cmpR op_isA (pv 0) pe_non (nomark _))
      (pss_one (ps_ret pe_bl))
      pss_nil)
      (pss_one (ps_ret (pe_or (pe_cmpR op_isA (pv 1) pe_non (nomark _)) (pe_one (pe_cmpR (op_ltT (Nat.lt_of_le_of_lt (Nat.le_add_right _ 64) hr.units)) (pv 0) (pv 1) (nomark _)))))))), ?_⟩)
  refine go_fn (L := ["first", "second"]) h (fun b i hp hX => ?_)
  dsimp only [cxOf, L2H.cxH, L2.Cx.nox, L2.Cx.wish]
  
  obtain ⟨p, q⟩ := i
  match p, q with
  | none, q =>
    show GO K b _ ⟨[some (.d .none), some (.d (bdD q))], []⟩ _
    repeat walk_at "z4"
  
    rfl
  | some (p1, p2), none =>
    show GO K b _ ⟨[some (.d (.tuple [.int p1, .int p2])), some (.d .none)], []⟩ _
    repeat walk_at "z4"
  
    rfl
  | some (p1, p2), some (q1, q2) =>
    show GO K b _ ⟨[some (.d (.tuple [.int p1, .int p2])), some (.d (.tuple [.int q1, .int q2]))], []⟩ _
    repeat walk_at "z4"
  
    refine v2_ltBd ?_
    repeat walk_at "z4"
  
    rfl
end
def sp_tighter : Spc where
  I := Option Bd × Option Bd
  args := fun (p, q) => [.d (bdD p), .d (bdD q)]
  cells := fun _ => []
  pre := fun _ => True
  post := fun (p, q) r _ => r = .val (bdD (if lessO p q then p else q))
section
variable {P : Program} {w : World} {K : PySem.W.Frag} {mg : Str → Option Value} {base : Heap}
theorem ok_tighter (T : Tx P K mg) : FnOk P w K mg base CX0 2 T.a_tighter T.d_tighter ["first", "second"] (SpB K sp_tighter) := by
  refine T.F_tighter.ok sc_tighter (fun vs H Q E h => spB_len h (fun _ => rfl)) (fun cdv A outer s H vs Q E hr h => ⟨_, PSs.nox ((pss_cons (ps_if (pt_truth (pe_call (ok_less T) (hr.mono (by decide)) (by rfl) T.g_less T.F_less.kp (b_less T.F_less) .nil pass0 (pa_cons (pv 0) (pa_cons (pv 1) pa_nil))) (by intro _; rfl))
      (pss_one (ps_ret (pv 0)))
      pss_nil)
      (pss_one (ps_ret (pv 1))))), ?_⟩)
  refine go_fn (L := ["first", "second"]) h (fun b i hp hX => ?_)
  dsimp only [cxOf, L2H.cxH, L2.Cx.nox, L2.Cx.wish]
  
  obtain ⟨p, q⟩ := i
  show GO K b _ ⟨[some (.d (bdD p)), some (.d (bdD q))], []⟩ _
  repeat walk_at "z4"
  
  refine ev_callV (E := fun _ => E0) ?_
  repeat walk_at "z4"
  
  refine ⟨(p, q), _, rfl, rfl, rfl, trivial, fun _ _ h => h, fun _ _ h => h, ?_⟩
  repeat walk_at "z4"
  
  refine ⟨fun z => ?_, fun z => ?_⟩
  · repeat walk_at "z4"
  
    show _ = Rv.val (bdD (if lessO p q = true then p else q))
    rw [if_pos z]
  · repeat walk_at "z4"
  
    show _ = Rv.val (bdD (if lessO p q = true then p else q))
    rw [if_neg (by rw [z]; exact Bool.false_ne_true)]
end
def sp_admits : Spc where
  I := Option Bd × Int × Int
  args := fun (p, u, t) => [.d (bdD p), .d (.int u), .d (.int t)]
  cells := fun _ => []
  pre := fun (_, u, _) => 1 ≤ u ∧ u ≤ 1000
  post := fun (p, u, t) r _ => r = .val (.bool (admO p u t))
section
variable {P : Program} {w : World} {K : PySem.W.Frag} {mg : Str → Option Value} {base : Heap}
theorem ok_admits (T : Tx P K mg) : FnOk P w K mg base CX0 1 T.a_admits T.d_admits ["bound", "unit", "ticks"] (SpB K sp_admits) := by
  refine T.F_admits.ok sc_admits (fun vs H Q E h => spB_len h (fun _ => rfl)) (fun cdv A outer s H vs Q E hr h => ⟨_, PSs.nox ((pss_cons (ps_if (pt_cmpR op_isA (pv 0) pe_non (nomark _))
      (pss_one (ps_ret pe_bl))
      pss_nil)
      (pss_cons (ps_set (i := 3) sc_admits.nd rfl (.inl rfl) (pe_op op_mulA (pe_ix ix_seq (pv 0) pe_int (fun _ _ => rfl)) (pv 1)))
      (pss_cons (ps_if (pt_cmpR (op_eqD hr.units) (pe_ix ix_seq (pv 0) pe_int (fun _ _ => rfl)) pe_int (nomark _))
      (pss_one (ps_ret (pe_cmpR op_leA (pv 2) (pv 3) (nomark _))))
      pss_nil)
      (pss_one (ps_ret (pe_cmpR op_ltA (pv 2) (pv 3) (nomark _)))))))), ?_⟩)
  refine go_fn (L := ["bound", "unit", "ticks", "most"]) h (fun b i hp hX => ?_)
  dsimp only [cxOf, L2H.cxH, L2.Cx.nox, L2.Cx.wish]
  
  obtain ⟨p, u, t⟩ := i
  obtain ⟨u1, u2⟩ := hp
  match p with
  | none =>
    show GO K b _ ⟨[some (.d .none), some (.d (.int u)), some (.d (.int t)), none], []⟩ _
    repeat walk_at "z4"
  
    rfl
  | some (p1, p2) =>
    show GO K b _ ⟨[some (.d (.tuple [.int p1, .int p2])), some (.d (.int u)), some (.d (.int t)), none], []⟩ _
    repeat walk_at "z4"
  
    refine ⟨fun z => ?_, fun z => ?_⟩
    · repeat walk_at "z4"
  
      have z : p2 = 1 := of_decide_eq_true z
      show _ = Rv.val (.bool (if p2 = 1 then _ else _))
      rw [if_pos z]
    · repeat walk_at "z4"
  
      have z : ¬ p2 = 1 := of_decide_eq_false z
      show _ = Rv.val (.bool (if p2 = 1 then _ else _))
      rw [if_neg z]
end
def shr (n d : Int) : Int := if d < 0 then -((Nat.gcd n.natAbs d.natAbs : Nat) : Int) else ((Nat.gcd n.natAbs d.natAbs : Nat) : Int)
def sp_lowest (cB : Addr) : Spc where
  I := Int × Int
  args := fun (n, d) => [.d (.int n), .d (.int d)]
  cells := fun _ => []
  pre := fun (n, d) => d.natAbs < 2 ^ 300
  post := fun (n, d) r _ => d ≠ 0 ∧ r = .val (.tuple [.int (n.fdiv (shr n d)), .int (d.fdiv (shr n d))])
  xpost := fun (n, d) x _ => d = 0 ∧ x = ⟨.ref cB, none⟩
section
variable {P : Program} {w : World} {K : PySem.W.Frag} {mg : Str → Option Value} {base : Heap}
theorem ok_lowest (T : Tx P K mg) : FnOk P w K mg base (L2N.CX P w) 1 T.a_lowest T.d_lowest ["n", "d"] (SpB K (sp_lowest T.c_BadValue)) := by
  refine T.F_lowest.ok sc_lowest (fun vs H Q E h => spB_len h (fun _ => rfl)) (fun cdv A outer s H vs Q E hr h => ⟨_, ((pss_cons (ps_if (pt_cmpR (op_eqD hr.units) (pv 1) pe_int (nomark _))
      (pss_one (L2N.ps_raise rfl (L2N.takes_of rfl rfl rfl rfl) (L2N.pmk_own PySem.F.excBase_ValueError T.p_BadValue.x T.gc_BadValue T.p_BadValue.k (raises_own T.p_BadValue.s T.p_BadValue.t) rfl)))
      pss_nil)
      (pss_cons (ps_set (i := 2) sc_lowest.nd rfl (.inl rfl) (pe_callBfun cr_gcd (by rfl) T.g_gcd (pa_cons (pv 0) (pa_cons (pv 1) pa_nil))))
      (pss_cons (ps_if (pt_cmpR op_ltA (pv 1) pe_int (nomark _))
      (pss_one (ps_set (i := 2) sc_lowest.nd rfl (.inl rfl) (pe_un un_neg (pv 2))))
      pss_nil)
      (pss_one (ps_ret (pe_tup (pa_cons (pe_op op_fdivWN (pv 0) (pv 2)) (pa_cons (pe_op op_fdivWN (pv 1) (pv 2)) pa_nil))))))))), ?_⟩)
  refine go_fn (L := ["n", "d", "share"]) h (fun b i hp hX => ?_)
  dsimp only [cxOf, L2H.cxH, L2.Cx.nox, L2.Cx.wish]
  
  obtain ⟨n, d⟩ := i
  show GO K b _ ⟨[some (.d (.int n)), some (.d (.int d)), none], []⟩ _
  repeat walk_at "z4"
  
  refine ⟨fun z => ?_, fun z => ?_⟩
  · exact go_raise0 (W := fun c d σ H => E c d H) fun σ H' tv ta Hd' ps' R => hX ⟨.ref T.c_BadValue, none⟩ none σ H' _ tv ta Hd' ps' ⟨of_decide_eq_true z, rfl⟩ R rfl
  have z : d ≠ 0 := of_decide_eq_false z
  have g0 : Nat.gcd n.natAbs d.natAbs ≠ 0 := fun e => z (by have := (Nat.gcd_eq_zero_iff.mp e).2; omega)
  have g1 : Nat.gcd n.natAbs d.natAbs ≤ d.natAbs := Nat.le_of_dvd (by omega) (Nat.gcd_dvd_right _ _)
  have hp : d.natAbs < 2 ^ 300 := hp
  have g2 : (2 : Nat) ^ 300 ≤ 2 ^ 400 := Nat.pow_le_pow_right (by decide) (by decide)
  repeat walk_at "z4"
  
  refine vc_gcd ?_
  repeat walk_at "z4"
  
  refine ⟨fun y => ?_, fun y => ?_⟩
  · have y : d < 0 := of_decide_eq_true y
    have es : shr n d = -((Nat.gcd n.natAbs d.natAbs : Nat) : Int) := if_pos y
    repeat walk_at "z4"
  
    refine v2_ic (C := CDivWN) (cdwn (by omega) (by rw [Int.natAbs_neg, Int.natAbs_natCast]; omega)) ?_
    repeat walk_at "z4"
  
    refine v2_ic (C := CDivWN) (cdwn (by omega) (by rw [Int.natAbs_neg, Int.natAbs_natCast]; omega)) ?_
    repeat walk_at "z4"
  
    exact ⟨z, by rw [es]⟩
  · have y : ¬ d < 0 := of_decide_eq_false y
    have es : shr n d = ((Nat.gcd n.natAbs d.natAbs : Nat) : Int) := if_neg y
    repeat walk_at "z4"
  
    refine v2_ic (C := CDivWN) (cdwn (by omega) (by rw [Int.natAbs_natCast]; omega)) ?_
    repeat walk_at "z4"
  
    refine v2_ic (C := CDivWN) (cdwn (by omega) (by rw [Int.natAbs_natCast]; omega)) ?_
    repeat walk_at "z4"
  
    exact ⟨z, by rw [es]⟩
end
def sp_least_sums : Spc where
  I := Nat × List Lm × Nat
  args := fun (n, ls, a) => [.d (.int n), .d (.list (lmsD ls)), .d (.int a)]
  cells := fun _ => []
  pre := fun (n, ls, a) => (1 ≤ n ∧ n ≤ 200) ∧ Rg n ls ∧ W01 ls ∧ a < n ∧ ∃ P, Feas n ls P
  post := fun (n, ls, a) r _ => ∃ g : Gs, (∀ v, Dst (ls.map rv) a v (g v)) ∧ r = .new (.lst (gD n g))
section
variable {P : Program} {w : World} {K : PySem.W.Frag} {mg : Str → Option Value} {base : Heap}
theorem ok_least_sums (T : Tx P K mg) : FnOk P w K mg base CX0 2 T.a_least_sums T.d_least_sums ["count", "limits", "root"] (SpB K sp_least_sums) := by
  refine T.F_least_sums.ok sc_least_sums (fun vs H Q E h => spB_len h (fun _ => rfl)) (fun cdv A outer s H vs Q E hr h => ⟨_, PSs.nox ((pss_cons (ps_set (i := 3) sc_least_sums.nd rfl (.inl rfl) (pe_op op_mulA (pe_lst (pa_cons pe_non pa_nil)) (pv 0)))
      (pss_cons (ps_asg (pe_tup (pa_cons pe_int (pa_cons pe_int pa_nil))) (pg_sub (pv 3) (pv 2) set_list))
      (pss_cons (ps_for PassesOwn.never rfl (pi_range1 (by rfl) T.z_range (pa_cons (pv 0) pa_nil)) (pg_name (i := 4) sc_least_sums.nd rfl (.inl rfl) (.inr rfl))
      (pss_cons (ps_set (i := 5) sc_least_sums.nd rfl (.inl rfl) pe_bl)
      (pss_cons (ps_for PassesOwn.never rfl (pi_any (pv 1)) (pg_tup rfl (pgs_cons (pg_name (i := 6) sc_least_sums.nd rfl (.inl rfl) (.inr rfl)) (pgs_cons (pg_name (i := 7) sc_least_sums.nd rfl (.inl rfl) (.inr rfl)) (pgs_cons (pg_name (i := 8) sc_least_sums.nd rfl (.inl rfl) (.inr rfl)) (pgs_cons (pg_name (i := 9) sc_least_sums.nd rfl (.inl rfl) (.inr rfl)) pgs_nil)))))
      (pss_cons (ps_set (i := 10) sc_least_sums.nd rfl (.inl rfl) (pe_call (ok_plus T) (hr.mono (by decide)) (by rfl) T.g_plus T.F_plus.kp (b_plus T.F_plus) .nil pass0 (pa_cons (pe_ix ix_seq (pv 3) (pv 7) (fun _ _ => rfl)) (pa_cons (pe_tup (pa_cons (pv 8) (pa_cons (pv 9) pa_nil))) pa_nil))))
      (pss_one (ps_if (pt_truth (pe_call (ok_less T) (hr.mono (by decide)) (by rfl) T.g_less T.F_less.kp (b_less T.F_less) .nil pass0 (pa_cons (pv 10) (pa_cons (pe_ix ix_seq (pv 3) (pv 6) (fun _ _ => rfl)) pa_nil))) (by intro _; rfl))
      (pss_cons (ps_asg (pv 10) (pg_sub (pv 3) (pv 6) set_list))
      (pss_one (ps_set (i := 5) sc_least_sums.nd rfl (.inl rfl) pe_bl)))
      pss_nil))))
      (pss_one (ps_if (pt_not (pt_truth (pv 5) (by intro _; rfl)))
      (pss_one ps_break)
      pss_nil)))))
      (pss_one (ps_ret (pv 3))))))), ?_⟩)
  refine go_fn (L := ["count", "limits", "root", "sums", "_", "changed", "i", "j", "c", "w", "bound"]) h (fun b i hp hX => ?_)
  dsimp only [cxOf, L2H.cxH, L2.Cx.nox, L2.Cx.wish]
  
  obtain ⟨n, ls, a⟩ := i
  obtain ⟨⟨n1, n2⟩, hr, hw, ha, hP⟩ := hp
  have hr' := rv_rg hr
  have hw' := rv_w01 hw
  show GO K b _ ⟨[some (.d (.int n)), some (.d (.list (lmsD ls))), some (.d (.int a)), none, none, none, none, none, none, none, none], []⟩ _
  refine go_sAsg ?_
  repeat walk_at "z4"
  
  refine ev_lst ?_
  repeat walk_at "z4"
  
  refine v2_mulL (xs := [.none]) rfl (by omega) (by omega) (Nat.le_trans (show _ ≤ 1000 by rw [Int.toNat_natCast]; simp; omega) (by decide)) ?_
  rw [Int.toNat_natCast, fnL_const]
  repeat walk_at "z4"
  
  refine ⟨0, fnL n (fun _ => .none), _, a, _, rfl, rfl, rfl, rfl, by rw [fnL_len]; exact ixN_n ha, ?_⟩
  rw [fnL_set, gD_start]
  refine go_mid (fun s => ∃ (g : Gs) (x4 x5 x6 x7 x8 x9 x10 : Option Dw.A), (∀ v, Dst (ls.map rv) a v (g v)) ∧ s = ⟨[some (.d (.int n)), some (.d (.list (lmsD ls))), some (.d (.int a)), some (.o 0), x4, x5, x6, x7, x8, x9, x10], [.lst (gD n g)]⟩) ?_ ?_
  · refine go_for (ei_r1 ?_)
    repeat walk_at "z4"
  
    refine ⟨by omega, by omega, ?_⟩
    refine ⟨fun k s => ∃ (g : Gs) (x4 x5 x6 x7 x8 x9 x10 : Option Dw.A), Real (ls.map rv) a g ∧ Upto (ls.map rv) a k g ∧ s = ⟨[some (.d (.int n)), some (.d (.list (lmsD ls))), some (.d (.int a)), some (.o 0), x4, x5, x6, x7, x8, x9, x10], [.lst (gD n g)]⟩, ⟨g00 a, none, none, none, none, none, none, none, g00_real, g00_upto, rfl⟩, fun _ _ _ _ => trivial, ?_, ?_⟩
    · rintro k v s2 hx ⟨g, x4, x5, x6, x7, x8, x9, x10, hR, hU, rfl⟩
      obtain ⟨hk, rfl⟩ := rngD_get hx
      refine gt_name ?_
      repeat walk_at "z4"
  
      refine go_seq (go_for (ei_anyL (ei_list (ev_var rfl ⟨lmsD ls, fun _ => True, .inl rfl, trivial, ?_⟩))))
      refine ⟨fun p s => ∃ (g' : Gs) (ch : Bool) (x4 x6 x7 x8 x9 x10 : Option Dw.A), Rnd (ls.map rv) g p g' ch ∧ s = ⟨[some (.d (.int n)), some (.d (.list (lmsD ls))), some (.d (.int a)), some (.o 0), x4, some (.d (.bool ch)), x6, x7, x8, x9, x10], [.lst (gD n g')]⟩, ⟨g, false, _, x6, x7, x8, x9, x10, Rnd.start, rfl⟩, fun _ _ _ _ => trivial, ?_, ?_⟩
      · rintro p v s3 hx ⟨g', ch, x4, x6, x7, x8, x9, x10, R, rfl⟩
        obtain ⟨l, hl, rfl⟩ := lmsD_inv hx
        have hm := List.mem_of_getElem? hl
        have hq : (ls.map rv)[p]? = some (rv l) := by rw [List.getElem?_map, hl]; rfl
        obtain ⟨hi, hj⟩ := hr l hm
        have hlw := hw l hm
        have gok := real_ok hw' (R.real hR) l.2.1
        refine gt_tup (ds := [.int l.1, .int l.2.1, .int l.2.2.1, .int l.2.2.2]) rfl ?_
        repeat walk_at "z4"
  
        refine ev_callV (E := fun _ => E0) ?_
        repeat walk_at "z4"
  
        refine v2_ixO (n := 0) (ds := gD n g') rfl (gD_at hj) ?_
        repeat walk_at "z4"
  
        refine ⟨(g' l.2.1, some (l.2.2.1, l.2.2.2)), _, rfl, rfl, rfl, ⟨gok, fun q e => by cases e; exact hlw⟩, fun _ _ h => h, fun _ _ h => h, ?_⟩
        repeat walk_at "z4"
  
        refine ev_callV (E := fun _ => E0) ?_
        repeat walk_at "z4"
  
        refine v2_ixO (n := 0) (ds := gD n g') rfl (gD_at hi) ?_
        repeat walk_at "z4"
  
        refine ⟨(plusO (g' l.2.1) (some (l.2.2.1, l.2.2.2)), g' l.1), _, rfl, rfl, rfl, trivial, fun _ _ h => h, fun _ _ h => h, ?_⟩
        repeat walk_at "z4"
  
        refine ⟨fun z => ?_, fun z => ?_⟩
        · repeat walk_at "z4"
  
          refine ⟨0, gD n g', _, l.1, _, rfl, rfl, rfl, rfl, by rw [gD_len]; exact ixN_n hi, ?_⟩
          have eb : (fun v => if v = l.1 then plusO (g' l.2.1) (some (l.2.2.1, l.2.2.2)) else g' v) = bstp g' (rv l) := (bstp_yes (e := rv l) z).symm
          rw [gD_set, eb]
          repeat walk_at "z4"
  
          exact ⟨_, _, _, _, _, _, _, _, R.yes hq, rfl⟩
        · refine go_next ⟨_, _, _, _, _, _, _, _, R.no hq z, rfl⟩
      · rintro s3 ⟨g', ch, x4, x6, x7, x8, x9, x10, R, rfl⟩
        rw [lmsD_len, show ls.length = (ls.map rv).length by rw [List.length_map]] at R
        refine go_next ?_
        repeat walk_at "z4"
  
        refine ⟨fun z => ?_, fun z => ?_⟩
        · have z : ch = false := by simpa using z
          subst z
          obtain ⟨rfl, hF⟩ := R.fix
          refine go_brk ?_
          exact ⟨_, _, _, _, _, _, _, _, dst_fix hw' hR (upto0 hU) hF, rfl⟩
        · have z : ch = true := by simpa using z
          subst z
          have e := R.done
          subst e
          refine go_next ⟨_, _, _, _, _, _, _, _, R.real hR, upto_round hw' hU, rfl⟩
    · rintro s2 ⟨g, x4, x5, x6, x7, x8, x9, x10, hR, hU, rfl⟩
      rw [rngD_len, Int.toNat_natCast] at hU
      obtain ⟨P, hP⟩ := hP
      exact ⟨g, _, _, _, _, _, _, _, fun v => upto_dst hR (upto_all n1 (rv_feas hP) hr' hw' ha (by omega) hU) v, rfl⟩
  rintro s2 ⟨g, x4, x5, x6, x7, x8, x9, x10, hD, rfl⟩
  refine go_ret (ev_var (a := .o 0) rfl ?_)
  exact ⟨.lst (gD n g), Nat.zero_le _, rfl, (fun z => nomatch z), ⟨g, hD, rfl⟩⟩
end
def negO : Option Bd → Option Bd
  | none => none
  | some p => some (-p.1, p.2)
def sp_span (cL cV cU : Addr) : Spc where
  I := Nat × List Rw × Int × Int
  args := fun (n, xs, la, ea) => [.d (.int n), .d (.list (rwsD xs)), .d (.int la), .d (.int ea)]
  cells := fun _ => []
  pre := fun (n, xs, _, _) => (1 ≤ n ∧ n ≤ 200) ∧ xs.length ≤ 1000
  post := fun (n, xs, la, ea) r _ => ∃ (ls : List Lm) (a e : Nat) (hi lo : Option Bd), xs = ls.map lmR ∧ Rg n ls ∧ W01 ls ∧ (∃ P, Feas n ls P) ∧ la = a ∧ ea = e ∧ a < n ∧ e < n ∧ Dst ls a e hi ∧ Dst ls e a lo ∧ r = .val (.tuple [bdD (negO lo), bdD hi])
  xpost := fun (n, xs, la, ea) x _ => (∃ (p : Nat) (y : Rw), xs[p]? = some y ∧ ¬ okR n y ∧ (∀ q z, q < p → xs[q]? = some z → okR n z) ∧ x = ⟨.ref cL, some [("place", .int p)]⟩) ∨
    ((∀ y ∈ xs, okR n y) ∧ ¬ ((0 ≤ la ∧ la < n) ∧ 0 ≤ ea ∧ ea < n) ∧ x = ⟨.ref cV, none⟩) ∨
    (∃ (ls : List Lm) (ch : List Nat), xs = ls.map lmR ∧ (∀ y ∈ xs, okR n y) ∧ ((0 ≤ la ∧ la < n) ∧ 0 ≤ ea ∧ ea < n) ∧ BadCh ls ch ∧ ch.length ≤ n ∧ (¬ ∃ P, Feas n ls P) ∧ x = ⟨.ref cU, some [("chain", .list (inN ch))]⟩)
section
variable {P : Program} {w : World} {K : PySem.W.Frag} {mg : Str → Option Value} {base : Heap}
theorem ok_span (T : Tx P K mg) : FnOk P w K mg base (L2N.CX P w) 5 T.a_span T.d_span ["count", "limits", "late", "early"] (SpB K (sp_span T.c_BadLimit T.c_BadVariable T.c_Unsolvable)) := by
  refine T.F_span.ok sc_span (fun vs H Q E h => spB_len h (fun _ => rfl)) (fun cdv A outer s H vs Q E hr h => ⟨_, ((pss_cons (ps_expr (pe_call (ok_check_limits T) (hr.mono (by decide)) (by rfl) T.g_check_limits T.F_check_limits.kp (b_check_limits T.F_check_limits) .nil (L2N.passes_call (L2N.takes_of rfl rfl rfl rfl) (fun _ _ _ _ h => h)) (pa_cons (pv 0) (pa_cons (pv 1) pa_nil))))
      (pss_cons (ps_if (pt_not (PW.pt (pw_and (pt_chain op_leA op_ltA pe_int (pv 2) (pv 0)) (pw_and1 (pt_chain op_leA op_ltA pe_int (pv 3) (pv 0))))))
      (pss_one (L2N.ps_raise rfl (L2N.takes_of rfl rfl rfl rfl) (L2N.pmk_own PySem.F.excBase_ValueError T.p_BadVariable.x T.gc_BadVariable T.p_BadVariable.k (raises_own T.p_BadVariable.s T.p_BadVariable.t) rfl)))
      pss_nil)
      (pss_cons (ps_set (i := 4) sc_span.nd rfl (.inl rfl) (pe_call (ok_solve T) (hr.mono (by decide)) (by rfl) T.g_solve T.F_solve.kp (b_solve T.F_solve) .nil (L2N.passes_call (L2N.takes_of rfl rfl rfl rfl) (fun _ _ _ _ h => h)) (pa_cons (pv 0) (pa_cons (pv 1) pa_nil))))
      (pss_cons (ps_if (pt_cmpR (op_eqD hr.units) (pe_ix ix_seq (pv 4) pe_int (fun _ _ => rfl)) pe_str (nomark _))
      (pss_one (L2N.ps_raise rfl (L2N.takes_of rfl rfl rfl rfl) (pmk_oexN T.e_Unsolvable.o T.e_Unsolvable.i T.e_Unsolvable.t (ok_Unsolvable___init__ T) (hr.mono (by decide)) (b_Unsolvable___init__ T.e_Unsolvable.F) .nil pass0 rfl T.gc_Unsolvable (pa_cons (pe_ix ix_seq (pv 4) pe_int (fun _ _ => rfl)) pa_nil))))
      pss_nil)
      (pss_cons (ps_set (i := 5) sc_span.nd rfl (.inl rfl) (pe_ix ix_seq (pe_call (ok_least_sums T) (hr.mono (by decide)) (by rfl) T.g_least_sums T.F_least_sums.kp (b_least_sums T.F_least_sums) .nil pass0 (pa_cons (pv 0) (pa_cons (pv 1) (pa_cons (pv 3) pa_nil)))) (pv 2) (fun _ _ => rfl)))
      (pss_cons (ps_set (i := 6) sc_span.nd rfl (.inl rfl) (pe_ix ix_seq (pe_call (ok_least_sums T) (hr.mono (by decide)) (by rfl) T.g_least_sums T.F_least_sums.kp (b_least_sums T.F_least_sums) .nil pass0 (pa_cons (pv 0) (pa_cons (pv 1) (pa_cons (pv 2) pa_nil)))) (pv 3) (fun _ _ => rfl)))
      (pss_cons (ps_set (i := 7) sc_span.nd rfl (.inl rfl) pe_non)
      (pss_cons (ps_if (pt_cmpR op_notA (pv 6) pe_non (nomark _))
      (pss_one (ps_set (i := 7) sc_span.nd rfl (.inl rfl) (pe_tup (pa_cons (pe_un un_neg (pe_ix ix_seq (pv 6) pe_int (fun _ _ => rfl))) (pa_cons (pe_ix ix_seq (pv 6) pe_int (fun _ _ => rfl)) pa_nil)))))
      pss_nil)
      (pss_one (ps_ret (pe_tup (pa_cons (pv 7) (pa_cons (pv 5) pa_nil)))))))))))))), ?_⟩)
  refine go_fn (L := ["count", "limits", "late", "early", "outcome", "high", "turned", "low"]) h (fun b i hp hX => ?_)
  dsimp only [cxOf, L2H.cxH, L2.Cx.nox, L2.Cx.wish]
  
  obtain ⟨n, xs, la, ea⟩ := i
  obtain ⟨⟨n1, n2⟩, hl⟩ := hp
  have hl : xs.length ≤ 1000 := hl
  show GO K b _ ⟨[some (.d (.int n)), some (.d (.list (rwsD xs))), some (.d (.int la)), some (.d (.int ea)), none, none, none, none], []⟩ _
  refine go_sDrop (ev_call0 (E := fun _ => E) ?_)
  repeat walk_at "z1"
  
  refine ⟨(n, xs), rfl, rfl, rfl, hl, fun r os' hr => ?_, fun x os' hx d σ H' tv ta Hd' ps' R hd => hX x d σ H' _ tv ta Hd' ps' (.inl hx) R hd⟩
  obtain ⟨hok, rfl⟩ := hr
  show GO K b _ ⟨[some (.d (.int n)), some (.d (.list (rwsD xs))), some (.d (.int la)), some (.d (.int ea)), none, none, none, none], []⟩ _
  have bad : ¬ ((0 ≤ la ∧ la < n) ∧ 0 ≤ ea ∧ ea < n) → ∀ (s : S) (N : EE), GO K b (fun x σ H => E (Value.ref T.c_BadVariable) none H) s N := fun hz s N =>
    go_raise0 (W := fun c d σ H => E c d H) fun σ H' tv ta Hd' ps' R => hX ⟨.ref T.c_BadVariable, none⟩ none σ H' _ tv ta Hd' ps' (.inr (.inl ⟨hok, hz, rfl⟩)) R rfl
  repeat walk_at "z4"
  
  refine ⟨fun z1 => ?_, fun z1 => ?_⟩
  rotate_left
  · repeat walk_at "z4"
  
    exact bad (fun h => absurd h.1.1 (of_decide_eq_false z1)) _ _
  repeat walk_at "z4"
  
  refine ⟨fun z2 => ?_, fun z2 => ?_⟩
  rotate_left
  · repeat walk_at "z4"
  
    exact bad (fun h => absurd h.1.2 (of_decide_eq_false z2)) _ _
  repeat walk_at "z4"
  
  refine ⟨fun z3 => ?_, fun z3 => ?_⟩
  rotate_left
  · repeat walk_at "z4"
  
    exact bad (fun h => absurd h.2.1 (of_decide_eq_false z3)) _ _
  repeat walk_at "z4"
  
  refine ⟨fun z4 => ?_, fun z4 => ?_⟩
  · repeat walk_at "z4"
  
    exact bad (fun h => by rw [decide_eq_true h.2.2] at z4; cases z4) _ _
  have z1 := of_decide_eq_true z1
  have z2 := of_decide_eq_true z2
  have z3 := of_decide_eq_true z3
  have z4 : ea < n := by simpa using z4
  obtain ⟨a, rfl⟩ : ∃ a : Nat, la = a := ⟨la.toNat, by omega⟩
  obtain ⟨e, rfl⟩ : ∃ e : Nat, ea = e := ⟨ea.toNat, by omega⟩
  repeat walk_at "z4"
  
  refine ev_call0 (E := fun _ => E) ?_
  repeat walk_at "z4"
  
  refine ⟨(n, xs), rfl, rfl, rfl, ⟨⟨n1, n2⟩, hl⟩, fun r os' hr => ?_, fun x os' hx d σ H' tv ta Hd' ps' R hd => hX x d σ H' _ tv ta Hd' ps' (.inl hx) R hd⟩
  obtain ⟨ls, z, rfl, hr, hw, rfl, hA⟩ := hr
  rcases hA with ⟨u, f, rfl, u1, u2, hf, hz, hs⟩ | ⟨ch, rfl, hb, hcn, hno⟩
  · have hP : ∃ P, Feas n ls P := ⟨_, pot_feas u1 hr hw hs⟩
    rw [← lmsD_rws]
    refine gt_name ?_
    show GO K b _ ⟨[some (.d (.int n)), some (.d (.list (lmsD ls))), some (.d (.int (a : Nat))), some (.d (.int (e : Nat))), some (.d (timesD u f)), none, none, none], []⟩ _
    repeat walk_at "z4"
  
    refine ev_call0 (E := fun _ => E0) ?_
    repeat walk_at "z4"
  
    refine ⟨(n, ls, e), rfl, rfl, rfl, ⟨⟨n1, n2⟩, hr, hw, by omega, hP⟩, fun r os' hr' => ?_, fun x os' hx => (show False from hx).elim⟩
    obtain ⟨g1, hg1, rfl⟩ := hr'
    dsimp only [aft]
    repeat walk_at "z4"
  
    refine v2_ixO (n := 0) (ds := gD n g1) rfl (gD_at (by omega)) ?_
    repeat walk_at "z4"
  
    refine ev_call0 (E := fun _ => E0) ?_
    repeat walk_at "z4"
  
    refine ⟨(n, ls, a), rfl, rfl, rfl, ⟨⟨n1, n2⟩, hr, hw, by omega, hP⟩, fun r os' hr' => ?_, fun x os' hx => (show False from hx).elim⟩
    obtain ⟨g2, hg2, rfl⟩ := hr'
    dsimp only [aft]
    repeat walk_at "z4"
  
    refine v2_ixO (n := 1) (ds := gD n g2) rfl (gD_at (by omega)) ?_
    have dh := (hg1 a).rev
    have dl := (hg2 e).rev
    cases hl2 : g2 e with
    | none =>
      rw [show bdD (none : Option Bd) = .none from rfl]
      repeat walk_at "z4"
  
      exact ⟨ls, a, e, g1 a, none, rfl, hr, hw, hP, rfl, rfl, by omega, by omega, dh, by rw [← hl2]; exact dl, rfl⟩
    | some q =>
      obtain ⟨q1, q2⟩ := q
      rw [show bdD (some (q1, q2)) = .tuple [.int q1, .int q2] from rfl]
      repeat walk_at "z4"
  
      exact ⟨ls, a, e, g1 a, some (q1, q2), rfl, hr, hw, hP, rfl, rfl, by omega, by omega, dh, by rw [← hl2]; exact dl, rfl⟩
  · refine gt_name ?_
    repeat walk_at "z4"
  
    refine go_raiseL (W := fun c d σ H => E c d H) (ea_cons ?_)
    repeat walk_at "z4"
  
    exact (fun d σ H' tv ta Hd' ps' R hd => hX ⟨.ref T.c_Unsolvable, some [("chain", .list (inN ch))]⟩ d σ H' _ tv ta Hd' ps' (.inr (.inr ⟨ls, ch, rfl, hok, ⟨⟨by omega, by omega⟩, by omega, by omega⟩, hb, hcn, hno, rfl⟩)) R hd)
end
def sp__law_same_bound : Spc where
  I := Option Bd
  args := fun p => [.d (bdD p), .d (bdD p)]
  cells := fun _ => []
  pre := fun _ => True
  post := fun _ r _ => r = .val (.bool true)
section
variable {P : Program} {w : World} {K : PySem.W.Frag} {mg : Str → Option Value} {base : Heap}
theorem ok__law_same_bound (T : Tx P K mg) : FnOk P w K mg base CX0 2 T.a__law_same_bound T.d__law_same_bound ["told", "due"] (SpB K sp__law_same_bound) := by
  refine T.F__law_same_bound.ok sc__law_same_bound (fun vs H Q E h => spB_len h (fun _ => rfl)) (fun cdv A outer s H vs Q E hr h => ⟨_, PSs.nox ((pss_cons (ps_if (pt_cmpR op_isA (pv 1) pe_non (nomark _))
      (pss_one (ps_ret (pe_cmpR op_isA (pv 0) pe_non (nomark _))))
      pss_nil)
      (pss_cons (ps_if (PW.pt (pw_or (pt_not (pt_truth (pe_callB call_isi (by rfl) T.z_isinstance (by decide +kernel) (pa_cons (pv 0) (pa_cons (pe_bltn (v := .ty "tuple") (by rfl) T.z_tuple (by decide +kernel) rfl) pa_nil))) (by intro _; rfl))) (pw_or1 (pt_cmpR (op_neD hr.units) (pe_callB call_len (by rfl) T.z_len (by decide +kernel) (pa_cons (pv 0) pa_nil)) pe_int (nomark _)))))
      (pss_one (ps_ret pe_bl))
      pss_nil)
      (pss_one (ps_ret (pe_and (pe_call (ok__law_is_number T) (hr.mono (by decide)) (by rfl) T.g__law_is_number T.F__law_is_number.kp (b__law_is_number T.F__law_is_number) .nil pass0 (pa_cons (pe_ix ix_seq (pv 0) pe_int (fun _ _ => rfl)) pa_nil)) (pe_and (pe_call (ok__law_is_number T) (hr.mono (by decide)) (by rfl) T.g__law_is_number T.F__law_is_number.kp (b__law_is_number T.F__law_is_number) .nil pass0 (pa_cons (pe_ix ix_seq (pv 0) pe_int (fun _ _ => rfl)) pa_nil)) (pe_one (pe_cmpR (op_eqD hr.units) (pv 0) (pv 1) (nomark _)))))))))), ?_⟩)
  refine go_fn (L := ["told", "due"]) h (fun b i hp hX => ?_)
  dsimp only [cxOf, L2H.cxH, L2.Cx.nox, L2.Cx.wish]
  
  match i with
  | none =>
    show GO K b _ ⟨[some (.d .none), some (.d .none)], []⟩ _
    repeat walk_at "z4"
  
    rfl
  | some (p1, p2) =>
    show GO K b _ ⟨[some (.d (.tuple [.int p1, .int p2])), some (.d (.tuple [.int p1, .int p2]))], []⟩ _
    repeat walk_at "z4"
  
    refine ev_isnum (E := fun _ => E0) (i := p1) ?_
    repeat walk_at "z4"
  
    refine ev_isnum (E := fun _ => E0) (i := p2) ?_
    repeat walk_at "z4"
  
    refine v2_eqS1 (d := .tuple [.int p1, .int p2]) (k := 1) rfl rfl (shp_tup fun y hy => ?_) (by decide) ?_
    · simp only [List.mem_cons, List.not_mem_nil, or_false] at hy
      rcases hy with rfl | rfl <;> exact shp_int
    repeat walk_at "z4"
  
    rfl
end
def sp__law_least : Spc where
  I := Nat × List Lm × Nat
  args := fun (n, ls, a) => [.d (.int n), .d (.list (lmsD ls)), .d (.int a)]
  cells := fun _ => []
  pre := fun (n, ls, a) => (1 ≤ n ∧ n ≤ 200) ∧ Rg n ls ∧ W01 ls ∧ a < n ∧ ∃ P, Feas n ls P
  post := fun (n, ls, a) r _ => ∃ g : Gs, (∀ v, Dst ls a v (g v)) ∧ r = .new (.lst (gD n g))
section
variable {P : Program} {w : World} {K : PySem.W.Frag} {mg : Str → Option Value} {base : Heap}
theorem ok__law_least (T : Tx P K mg) : FnOk P w K mg base CX0 1 T.a__law_least T.d__law_least ["count", "rows", "root"] (SpB K sp__law_least) := by
  refine T.F__law_least.ok sc__law_least (fun vs H Q E h => spB_len h (fun _ => rfl)) (fun cdv A outer s H vs Q E hr h => ⟨_, PSs.nox ((pss_cons (ps_set (i := 3) sc__law_least.nd rfl (.inl rfl) (pe_op op_mulA (pe_lst (pa_cons pe_non pa_nil)) (pv 0)))
      (pss_cons (ps_asg (pe_tup (pa_cons pe_int (pa_cons pe_int pa_nil))) (pg_sub (pv 3) (pv 2) set_list))
      (pss_cons (ps_for PassesOwn.never rfl (pi_range1 (by rfl) T.z_range (pa_cons (pe_op op_addA (pv 0) pe_int) pa_nil)) (pg_name (i := 4) sc__law_least.nd rfl (.inl rfl) (.inr rfl))
      (pss_cons (ps_set (i := 5) sc__law_least.nd rfl (.inl rfl) pe_bl)
      (pss_cons (ps_for PassesOwn.never rfl (pi_any (pv 1)) (pg_name (i := 6) sc__law_least.nd rfl (.inl rfl) (.inr rfl))
      (pss_cons (ps_set (i := 7) sc__law_least.nd rfl (.inl rfl) (pe_ix ix_seq (pv 3) (pe_ix ix_seq (pv 6) pe_int (fun _ _ => rfl)) (fun _ _ => rfl)))
      (pss_one (ps_if (pt_cmpR op_notA (pv 7) pe_non (nomark _))
      (pss_cons (ps_set (i := 8) sc__law_least.nd rfl (.inl rfl) (pe_tup (pa_cons (pe_op op_addA (pe_ix ix_seq (pv 7) pe_int (fun _ _ => rfl)) (pe_ix ix_seq (pv 6) pe_int (fun _ _ => rfl))) (pa_cons (pe_op op_mulA (pe_ix ix_seq (pv 7) pe_int (fun _ _ => rfl)) (pe_ix ix_seq (pv 6) pe_int (fun _ _ => rfl))) pa_nil))))
      (pss_one (ps_if (PW.pt (pw_or (pt_cmpR op_isA (pe_ix ix_seq (pv 3) (pe_ix ix_seq (pv 6) pe_int (fun _ _ => rfl)) (fun _ _ => rfl)) pe_non (nomark _)) (pw_or1 (pt_cmpR (op_ltT (Nat.lt_of_le_of_lt (Nat.le_add_right _ 64) hr.units)) (pv 8) (pe_ix ix_seq (pv 3) (pe_ix ix_seq (pv 6) pe_int (fun _ _ => rfl)) (fun _ _ => rfl)) (nomark _)))))
      (pss_cons (ps_asg (pv 8) (pg_sub (pv 3) (pe_ix ix_seq (pv 6) pe_int (fun _ _ => rfl)) set_list))
      (pss_one (ps_set (i := 5) sc__law_least.nd rfl (.inl rfl) pe_bl)))
      pss_nil)))
      pss_nil))))
      (pss_one (ps_if (pt_not (pt_truth (pv 5) (by intro _; rfl)))
      (pss_one ps_break)
      pss_nil)))))
      (pss_one (ps_ret (pv 3))))))), ?_⟩)
  refine go_fn (L := ["count", "rows", "root", "sums", "lap", "changed", "row", "before", "after"]) h (fun b i hp hX => ?_)
  dsimp only [cxOf, L2H.cxH, L2.Cx.nox, L2.Cx.wish]
  
  obtain ⟨n, ls, a⟩ := i
  obtain ⟨⟨n1, n2⟩, hr, hw, ha, hP⟩ := hp
  show GO K b _ ⟨[some (.d (.int n)), some (.d (.list (lmsD ls))), some (.d (.int a)), none, none, none, none, none, none], []⟩ _
  refine go_sAsg ?_
  repeat walk_at "z4"
  
  refine ev_lst ?_
  repeat walk_at "z4"
  
  refine v2_mulL (xs := [.none]) rfl (by omega) (by omega) (Nat.le_trans (show _ ≤ 1000 by rw [Int.toNat_natCast]; simp; omega) (by decide)) ?_
  rw [Int.toNat_natCast, fnL_const]
  repeat walk_at "z4"
  
  refine ⟨0, fnL n (fun _ => .none), _, a, _, rfl, rfl, rfl, rfl, by rw [fnL_len]; exact ixN_n ha, ?_⟩
  rw [fnL_set, gD_start]
  refine go_mid (fun s => ∃ (g : Gs) (x4 x5 x6 x7 x8 : Option Dw.A), (∀ v, Dst ls a v (g v)) ∧ s = ⟨[some (.d (.int n)), some (.d (.list (lmsD ls))), some (.d (.int a)), some (.o 0), x4, x5, x6, x7, x8], [.lst (gD n g)]⟩) ?_ ?_
  · refine go_for (ei_r1 ?_)
    repeat walk_at "z4"
  
    refine ⟨by omega, by omega, ?_⟩
    refine ⟨fun k s => ∃ (g : Gs) (x4 x5 x6 x7 x8 : Option Dw.A), Real ls a g ∧ Upto ls a k g ∧ s = ⟨[some (.d (.int n)), some (.d (.list (lmsD ls))), some (.d (.int a)), some (.o 0), x4, x5, x6, x7, x8], [.lst (gD n g)]⟩, ⟨g00 a, none, none, none, none, none, g00_real, g00_upto, rfl⟩, fun _ _ _ _ => trivial, ?_, ?_⟩
    · rintro k v s2 hx ⟨g, x4, x5, x6, x7, x8, hR, hU, rfl⟩
      obtain ⟨hk, rfl⟩ := rngD_get hx
      refine gt_name ?_
      repeat walk_at "z4"
  
      refine go_seq (go_for (ei_anyL (ei_list (ev_var rfl ⟨lmsD ls, fun _ => True, .inl rfl, trivial, ?_⟩))))
      refine ⟨fun p s => ∃ (g' : Gs) (ch : Bool) (x4 x6 x7 x8 : Option Dw.A), Rnd ls g p g' ch ∧ s = ⟨[some (.d (.int n)), some (.d (.list (lmsD ls))), some (.d (.int a)), some (.o 0), x4, some (.d (.bool ch)), x6, x7, x8], [.lst (gD n g')]⟩, ⟨g, false, _, x6, x7, x8, Rnd.start, rfl⟩, fun _ _ _ _ => trivial, ?_, ?_⟩
      · rintro p v s3 hx ⟨g', ch, x4, x6, x7, x8, R, rfl⟩
        obtain ⟨l, hl, rfl⟩ := lmsD_inv hx
        have hm := List.mem_of_getElem? hl
        obtain ⟨hi, hj⟩ := hr l hm
        have hlw := hw l hm
        have gok := real_ok hw (R.real hR) l.1
        refine gt_name ?_
        repeat walk_at "z4"
  
        refine v2_ixO (n := 0) (ds := gD n g') rfl (gD_at hi) ?_
        cases hs : g' l.1 with
        | none =>
          rw [show bdD (none : Option Bd) = .none from rfl]
          repeat walk_at "z4"
  
          exact ⟨_, _, _, _, _, _, R.no hl (by rw [hs]; rfl), rfl⟩
        | some q =>
          obtain ⟨q1, q2⟩ := q
          have hq2 : q2 = 0 ∨ q2 = 1 := gok _ hs
          rw [show bdD (some (q1, q2)) = .tuple [.int q1, .int q2] from rfl]
          repeat walk_at "z4"
  
          refine v2_ixO (n := 0) (ds := gD n g') rfl (gD_at hj) ?_
          cases ht : g' l.2.1 with
          | none =>
            rw [show bdD (none : Option Bd) = .none from rfl]
            repeat walk_at "z4"
  
            refine ⟨0, gD n g', _, l.2.1, _, rfl, rfl, rfl, rfl, by rw [gD_len]; exact ixN_n hj, ?_⟩
            have z : lessO (plusO (g' l.1) (some (l.2.2.1, l.2.2.2))) (g' l.2.1) = true := by rw [hs, ht]; rfl
            have eb : (fun v => if v = l.2.1 then some (q1 + l.2.2.1, q2 * l.2.2.2) else g' v) = bstp g' l := by
              rw [bstp_yes z, hs]
              rfl
            rw [show PyData.tuple [.int (q1 + l.2.2.1), .int (q2 * l.2.2.2)] = bdD (some (q1 + l.2.2.1, q2 * l.2.2.2)) from rfl, gD_set, eb]
            repeat walk_at "z4"
  
            exact ⟨_, _, _, _, _, _, R.yes hl, rfl⟩
          | some r =>
            obtain ⟨r1, r2⟩ := r
            rw [show bdD (some (r1, r2)) = .tuple [.int r1, .int r2] from rfl]
            repeat walk_at "z4"
  
            refine v2_ixO (n := 0) (ds := gD n g') rfl (gD_at hj) ?_
            rw [ht, show bdD (some (r1, r2)) = .tuple [.int r1, .int r2] from rfl]
            refine v2_ltBd ?_
            repeat walk_at "z4"
  
            refine ⟨fun z => ?_, fun z => ?_⟩
            · repeat walk_at "z4"
  
              refine ⟨0, gD n g', _, l.2.1, _, rfl, rfl, rfl, rfl, by rw [gD_len]; exact ixN_n hj, ?_⟩
              have z : lessO (plusO (g' l.1) (some (l.2.2.1, l.2.2.2))) (g' l.2.1) = true := by rw [hs, ht]; exact z
              have eb : (fun v => if v = l.2.1 then some (q1 + l.2.2.1, q2 * l.2.2.2) else g' v) = bstp g' l := by
                rw [bstp_yes z, hs]
                rfl
              rw [show PyData.tuple [.int (q1 + l.2.2.1), .int (q2 * l.2.2.2)] = bdD (some (q1 + l.2.2.1, q2 * l.2.2.2)) from rfl, gD_set, eb]
              repeat walk_at "z4"
  
              exact ⟨_, _, _, _, _, _, R.yes hl, rfl⟩
            · repeat walk_at "z4"
  
              exact ⟨_, _, _, _, _, _, R.no hl (by rw [hs, ht]; exact z), rfl⟩
      · rintro s3 ⟨g', ch, x4, x6, x7, x8, R, rfl⟩
        rw [lmsD_len] at R
        refine go_next ?_
        repeat walk_at "z4"
  
        refine ⟨fun z => ?_, fun z => ?_⟩
        · have z : ch = false := by simpa using z
          subst z
          obtain ⟨rfl, hF⟩ := R.fix
          refine go_brk ?_
          exact ⟨_, _, _, _, _, _, dst_fix hw hR (upto0 hU) hF, rfl⟩
        · have z : ch = true := by simpa using z
          subst z
          have e := R.done
          subst e
          refine go_next ⟨_, _, _, _, _, _, R.real hR, upto_round hw hU, rfl⟩
    · rintro s2 ⟨g, x4, x5, x6, x7, x8, hR, hU, rfl⟩
      rw [rngD_len] at hU
      obtain ⟨P, hP⟩ := hP
      exact ⟨g, _, _, _, _, _, fun v => upto_dst hR (upto_all n1 hP hr hw ha (by omega) hU) v, rfl⟩
  rintro s2 ⟨g, x4, x5, x6, x7, x8, hD, rfl⟩
  refine go_ret (ev_var (a := .o 0) rfl ?_)
  exact ⟨.lst (gD n g), Nat.zero_le _, rfl, (fun z => nomatch z), ⟨g, hD, rfl⟩⟩
end
def sp__law_span_is : Spc where
  I := Nat × List Lm × Nat × Nat × Option Bd × Option Bd
  args := fun (n, ls, a, e, un, ov) => [.d (.int n), .d (.list (lmsD ls)), .d (.int a), .d (.int e), .d (bdD un), .d (bdD ov)]
  cells := fun _ => []
  pre := fun (n, ls, a, e, un, ov) => (1 ≤ n ∧ n ≤ 200) ∧ Rg n ls ∧ W01 ls ∧ ls.length ≤ 1000 ∧ (a < n ∧ e < n) ∧ (∃ P, Feas n ls P) ∧ Dst ls e a un ∧ Dst ls a e ov
  post := fun _ r _ => r = .val (.bool true)
section
variable {P : Program} {w : World} {K : PySem.W.Frag} {mg : Str → Option Value} {base : Heap}
theorem ok__law_span_is (T : Tx P K mg) : FnOk P w K mg base CX0 6 T.a__law_span_is T.d__law_span_is ["count", "rows", "late", "early", "under", "over"] (SpB K sp__law_span_is) := by
  refine T.F__law_span_is.ok sc__law_span_is (fun vs H Q E h => spB_len h (fun _ => rfl)) (fun cdv A outer s H vs Q E hr h => ⟨_, PSs.nox ((pss_cons (ps_set (i := 6) sc__law_span_is.nd rfl (.inl rfl) (pe_callTy call_list_of (by rfl) T.z_list (by decide +kernel) (pa_cons (pv 1) pa_nil)))
      (pss_cons (ps_set (i := 7) sc__law_span_is.nd rfl (.inl rfl) (pe_call (ok_span T) (hr.mono (by decide)) (by rfl) T.g_span T.F_span.kp (b_span T.F_span) .nil passN (pa_cons (pv 0) (pa_cons (pv 6) (pa_cons (pv 2) (pa_cons (pv 3) pa_nil))))))
      (pss_cons (ps_if (PW.pt (pw_or (pt_cmpR (op_neD hr.units) (pv 6) (pv 1) (nomark _)) (pw_or (pt_not (pt_truth (pe_callB call_isi (by rfl) T.z_isinstance (by decide +kernel) (pa_cons (pv 7) (pa_cons (pe_bltn (v := .ty "tuple") (by rfl) T.z_tuple (by decide +kernel) rfl) pa_nil))) (by intro _; rfl))) (pw_or1 (pt_cmpR (op_neD hr.units) (pe_callB call_len (by rfl) T.z_len (by decide +kernel) (pa_cons (pv 7) pa_nil)) pe_int (nomark _))))))
      (pss_one (ps_ret pe_bl))
      pss_nil)
      (pss_cons (ps_set (i := 8) sc__law_span_is.nd rfl (.inl rfl) pe_non)
      (pss_cons (ps_if (pt_cmpR op_notA (pv 4) pe_non (nomark _))
      (pss_one (ps_set (i := 8) sc__law_span_is.nd rfl (.inl rfl) (pe_tup (pa_cons (pe_un un_neg (pe_ix ix_seq (pv 4) pe_int (fun _ _ => rfl))) (pa_cons (pe_ix ix_seq (pv 4) pe_int (fun _ _ => rfl)) pa_nil)))))
      pss_nil)
      (pss_one (ps_ret (pe_and (pe_call (ok__law_same_bound T) (hr.mono (by decide)) (by rfl) T.g__law_same_bound T.F__law_same_bound.kp (b__law_same_bound T.F__law_same_bound) .nil pass0 (pa_cons (pe_ix ix_seq (pv 7) pe_int (fun _ _ => rfl)) (pa_cons (pv 8) pa_nil))) (pe_one (pe_call (ok__law_same_bound T) (hr.mono (by decide)) (by rfl) T.g__law_same_bound T.F__law_same_bound.kp (b__law_same_bound T.F__law_same_bound) .nil pass0 (pa_cons (pe_ix ix_seq (pv 7) pe_int (fun _ _ => rfl)) (pa_cons (pv 5) pa_nil))))))))))))), ?_⟩)
  refine go_fn (L := ["count", "rows", "late", "early", "under", "over", "passed", "told", "low"]) h (fun b i hp hX => ?_)
  dsimp only [cxOf, L2H.cxH, L2.Cx.nox, L2.Cx.wish]
  
  obtain ⟨n, ls, a, e, un, ov⟩ := i
  obtain ⟨⟨n1, n2⟩, hr, hw, hl, ⟨ha, he⟩, hP, du, dv⟩ := hp
  show GO K b _ ⟨[some (.d (.int n)), some (.d (.list (lmsD ls))), some (.d (.int a)), some (.d (.int e)), some (.d (bdD un)), some (.d (bdD ov)), none, none, none], []⟩ _
  repeat walk_at "z4"
  
  refine vc_list (ds := lmsD ls) (.inl rfl) ?_
  repeat walk_at "z4"
  
  refine ev_call0 (E := fun _ => E0) ?_
  repeat walk_at "z4"
  
  refine ⟨(n, ls.map lmR, (a : Int), (e : Int)), by rw [lmsD_rws]; rfl, rfl, rfl, ⟨⟨n1, n2⟩, by rw [List.length_map]; exact hl⟩, fun r os' hr' => ?_, fun x os' hx => ?_⟩
  rotate_left
  · rcases hx with ⟨p, y, hy, hno, _⟩ | ⟨_, h, _⟩ | ⟨ls2, ch, e2, _, _, _, _, hno, _⟩
    · exact absurd (okR_lm hr hw y (List.mem_of_getElem? hy)) hno
    · exact absurd ⟨⟨by omega, by omega⟩, by omega, by omega⟩ h
    · rw [← lmR_inj e2] at hno
      exact absurd hP hno
  obtain ⟨ls', a', e', hi, lo, q, hr', hw', hP', ea, ee, ha', he', d1, d2, rfl⟩ := hr'
  have q := lmR_inj q
  subst q
  obtain rfl : a = a' := by omega
  obtain rfl : e = e' := by omega
  rw [d1.uniq dv, d2.uniq du]
  have sh : Shp 2 (.list (lmsD ls)) := shp_list fun x hx => by
    obtain ⟨l, _, rfl⟩ := List.mem_map.mp hx
    exact shp_tup fun y hy => by
      simp only [List.mem_cons, List.not_mem_nil, or_false] at hy
      rcases hy with rfl | rfl | rfl | rfl <;> exact shp_int
  refine gt_name ?_
  repeat walk_at "z4"
  
  refine v2_neS1 (d := .list (lmsD ls)) rfl rfl sh (by decide) ?_
  repeat walk_at "z4"
  
  have same : ∀ (b : B) (s : S) (t : TA) (o : Option Bd) (Φ : Dw.A → S → Prop), (EA K b t s fun as s1 => as = [.d (bdD o), .d (bdD o)] ∧ Φ (.d (.bool true)) s1) → EV K b (tCall (SpB K sp__law_same_bound) [] E0 t) s Φ := fun b s t o Φ h => by
    refine ev_callV (E := fun _ => E0) ?_
    refine fun σ H tv ta Hd ps R Q k => h σ H tv ta Hd ps R Q fun vs H1 as s1 Hd1 ps1 h1 R1 a1 => k vs H1 as s1 Hd1 ps1 ?_ R1 a1
    obtain ⟨rfl, q⟩ := h1
    exact ⟨o, _, rfl, rfl, rfl, trivial, fun _ _ h => h, fun _ _ h => h, q⟩
  match un with
  | none =>
    rw [show bdD (none : Option Bd) = .none from rfl, show bdD (negO none) = .none from rfl]
    repeat walk_at "z4"
  
    refine same _ _ _ none _ ?_
    repeat walk_at "z4"
  
    refine same _ _ _ ov _ ?_
    repeat walk_at "z4"
  
    exact rfl
  | some (u1, u2) =>
    rw [show bdD (some (u1, u2)) = .tuple [.int u1, .int u2] from rfl, show bdD (negO (some (u1, u2))) = .tuple [.int (-u1), .int u2] from rfl]
    repeat walk_at "z4"
  
    refine same _ _ _ (some (-u1, u2)) _ ?_
    repeat walk_at "z4"
  
    refine same _ _ _ ov _ ?_
    repeat walk_at "z4"
  
    exact rfl
end
def sp__law_end_exact : Spc where
  I := Bg × Nat × List Lm × Nat × Nat × Option Bd
  args := fun (x, n, ls, a, e, o) => [.o 0, .d (.int n), .d (.list (lmsD ls)), .d (.int a), .d (.int e), .d (bdD o)]
  cells := fun (x, _) => [.lst x.l]
  pre := fun (x, n, ls, a, e, o) => 0 ≤ x.i ∧ (1 ≤ n ∧ n ≤ 200) ∧ Rg n ls ∧ W01 ls ∧ ls.length ≤ 900 ∧ (a < n ∧ e < n) ∧ (∃ P, Feas n ls P) ∧ Dst ls a e o ∧ okO o
  post := fun (x, _) r os => ∃ y : Bg, r = .val (.bool true) ∧ os = [.lst y.l] ∧ 0 ≤ y.i
section
variable {P : Program} {w : World} {K : PySem.W.Frag} {mg : Str → Option Value} {base : Heap}
theorem ok__law_end_exact (T : Tx P K mg) : FnOk P w K mg base CX0 6 T.a__law_end_exact T.d__law_end_exact ["bag", "count", "rows", "a", "b", "end"] (SpB K sp__law_end_exact) := by
  refine T.F__law_end_exact.ok sc__law_end_exact (fun vs H Q E h => spB_len h (fun _ => rfl)) (fun cdv A outer s H vs Q E hr h => ⟨_, PSs.nox ((pss_cons (ps_if (pt_cmpR op_isA (pv 5) pe_non (nomark _))
      (pss_cons (ps_set (i := 6) sc__law_end_exact.nd rfl (.inl rfl) (pe_ix ix_seq (pe_lst (pa_cons pe_int (pa_cons pe_int (pa_cons (pe_op op_pow pe_int pe_int) (pa_cons (pe_op op_pow pe_int pe_int) pa_nil))))) (pe_call (ok__law_take T) (hr.mono (by decide)) (by rfl) T.g__law_take T.F__law_take.kp (b__law_take T.F__law_take) .nil pass0 (pa_cons (pv 0) (pa_cons pe_int pa_nil))) (fun _ _ => rfl)))
      (pss_one (ps_ret (pe_call (ok__law_answers T) (hr.mono (by decide)) (by rfl) T.g__law_answers T.F__law_answers.kp (b__law_answers T.F__law_answers) .nil pass0 (pa_cons (pv 1) (pa_cons (pe_op op_addA (pv 2) (pe_lst (pa_cons (pe_tup (pa_cons (pv 4) (pa_cons (pv 3) (pa_cons (pe_un un_neg (pv 6)) (pa_cons pe_int pa_nil))))) pa_nil))) (pa_cons pe_bl pa_nil)))))))
      pss_nil)
      (pss_cons (ps_if (pt_cmpR (op_eqD hr.units) (pe_ix ix_seq (pv 5) pe_int (fun _ _ => rfl)) pe_int (nomark _))
      (pss_cons (ps_if (pt_not (pt_truth (pe_call (ok__law_answers T) (hr.mono (by decide)) (by rfl) T.g__law_answers T.F__law_answers.kp (b__law_answers T.F__law_answers) .nil pass0 (pa_cons (pv 1) (pa_cons (pe_op op_addA (pv 2) (pe_lst (pa_cons (pe_tup (pa_cons (pv 4) (pa_cons (pv 3) (pa_cons (pe_un un_neg (pe_ix ix_seq (pv 5) pe_int (fun _ _ => rfl))) (pa_cons pe_int pa_nil))))) pa_nil))) (pa_cons pe_bl pa_nil)))) (by intro _; rfl)))
      (pss_one (ps_ret pe_bl))
      pss_nil)
      (pss_one (ps_ret (pe_call (ok__law_answers T) (hr.mono (by decide)) (by rfl) T.g__law_answers T.F__law_answers.kp (b__law_answers T.F__law_answers) .nil pass0 (pa_cons (pv 1) (pa_cons (pe_op op_addA (pv 2) (pe_lst (pa_cons (pe_tup (pa_cons (pv 4) (pa_cons (pv 3) (pa_cons (pe_un un_neg (pe_ix ix_seq (pv 5) pe_int (fun _ _ => rfl))) (pa_cons pe_int pa_nil))))) pa_nil))) (pa_cons pe_bl pa_nil)))))))
      pss_nil)
      (pss_cons (ps_if (pt_not (pt_truth (pe_call (ok__law_answers T) (hr.mono (by decide)) (by rfl) T.g__law_answers T.F__law_answers.kp (b__law_answers T.F__law_answers) .nil pass0 (pa_cons (pv 1) (pa_cons (pe_op op_addA (pv 2) (pe_lst (pa_cons (pe_tup (pa_cons (pv 4) (pa_cons (pv 3) (pa_cons (pe_un un_neg (pe_ix ix_seq (pv 5) pe_int (fun _ _ => rfl))) (pa_cons pe_int pa_nil))))) pa_nil))) (pa_cons pe_bl pa_nil)))) (by intro _; rfl)))
      (pss_one (ps_ret pe_bl))
      pss_nil)
      (pss_cons (ps_set (i := 7) sc__law_end_exact.nd rfl (.inr rfl) (pe_op op_addA pe_int (pe_call (ok__law_take T) (hr.mono (by decide)) (by rfl) T.g__law_take T.F__law_take.kp (b__law_take T.F__law_take) .nil pass0 (pa_cons (pv 0) (pa_cons pe_int pa_nil)))))
      (pss_cons (ps_setLc (i := 8) (own := [("row", 9)]) rfl sc__law_end_exact.nd rfl rfl (sw_true rfl rfl rfl (by decide +kernel)) (pi_any (pv 2)) (blkOk_by (own := [("row", 9)]) (N := ["bag", "count", "rows", "a", "b", "end", "far", "k", "finer", "row"]) (sc := defScope s__law_end_exact) (by decide +kernel)) (fun _ _ _ _ _ => (pg_name (i := 9) sc__law_end_exact.nd rfl (.inl rfl) (.inr rfl))) (fun _ _ _ _ _ => pts_nil) (fun _ _ _ _ _ => (pe_tup (pa_cons (pe_ix (ix_seqK (K := K) rfl) (pv 9) pe_int (fun _ _ => rfl)) (pa_cons (pe_ix (ix_seqK (K := K) rfl) (pv 9) pe_int (fun _ _ => rfl)) (pa_cons (pe_op op_mulA (pe_ix (ix_seqK (K := K) rfl) (pv 9) pe_int (fun _ _ => rfl)) (pv 7)) (pa_cons (pe_ix (ix_seqK (K := K) rfl) (pv 9) pe_int (fun _ _ => rfl)) pa_nil)))))))
      (pss_one (ps_ret (pe_call (ok__law_answers T) (hr.mono (by decide)) (by rfl) T.g__law_answers T.F__law_answers.kp (b__law_answers T.F__law_answers) .nil pass0 (pa_cons (pv 1) (pa_cons (pe_op op_addA (pv 8) (pe_lst (pa_cons (pe_tup (pa_cons (pv 4) (pa_cons (pv 3) (pa_cons (pe_op op_sub pe_int (pe_op op_mulA (pe_ix ix_seq (pv 5) pe_int (fun _ _ => rfl)) (pv 7))) (pa_cons pe_int pa_nil))))) pa_nil))) (pa_cons pe_bl pa_nil)))))))))))), ?_⟩)
  refine go_fn (L := ["bag", "count", "rows", "a", "b", "end", "far", "k", "finer", "row"]) h (fun b i hp hX => ?_)
  dsimp only [cxOf, L2H.cxH, L2.Cx.nox, L2.Cx.wish]
  
  obtain ⟨x, n, ls, a, e, o⟩ := i
  obtain ⟨h0, ⟨n1, n2⟩, hr, hw, hl, ⟨ha, he⟩, ⟨P, hP⟩, hd, ho⟩ := hp
  have ansP : ∀ (b : B) (s : S) (t : TA) (z : Bool) (ms : List Lm) (Φ : Dw.A → S → Prop), (EA K b t s fun as s1 => as = [.d (.int n), .d (.list (lmsD ms)), .d (.bool z)] ∧ (Rg n ms ∧ W01 ms ∧ ms.length ≤ 1000 ∧ ((z = true ∧ ∃ P, Feas n ms P) ∨ (z = false ∧ ¬ ∃ P, Feas n ms P))) ∧ Φ (.d (.bool true)) s1) → EV K b (tCall (SpB K sp__law_answers) [] E0 t) s Φ := fun b s t z ms Φ h => by
    refine ev_callV (E := fun _ => E0) ?_
    refine fun σ H tv ta Hd ps R Q k => h σ H tv ta Hd ps R Q fun vs H1 as s1 Hd1 ps1 h1 R1 a1 => k vs H1 as s1 Hd1 ps1 ?_ R1 a1
    obtain ⟨rfl, ⟨g1, g2, g3, g4⟩, q⟩ := h1
    exact ⟨(n, ms, z), _, rfl, rfl, rfl, ⟨⟨by omega, by omega⟩, g1, g2, g3, g4⟩, fun _ _ h => h, fun _ _ h => h, q⟩
  have ok1 : ∀ (ms : List Lm) (c w : Int), Rg n ms → W01 ms → ms.length ≤ 900 → (w = 0 ∨ w = 1) → Rg n (ms ++ [(e, a, c, w)]) ∧ W01 (ms ++ [(e, a, c, w)]) ∧ (ms ++ [(e, a, c, w)]).length ≤ 1000 := fun ms c w g1 g2 g3 g4 =>
    ⟨Rg_app g1 (show e < n from he) (show a < n from ha), W01_app g2 g4, by rw [List.length_append, List.length_singleton]; omega⟩
  match o, hd, ho with
  | none, hd, _ =>
    show GO K b _ ⟨[some (.o 0), some (.d (.int n)), some (.d (.list (lmsD ls))), some (.d (.int a)), some (.d (.int e)), some (.d .none), none, none, none, none], [.lst x.l]⟩ _
    repeat walk_at "z4"
  
    refine ev_lst ?_
    repeat walk_at "z4"
    (refine ev_take ?_; repeat walk_at "z1")
    refine ⟨x, _, _, _, rfl, rfl, h0, by first | decide | omega, fun t y1 q1 t0 t1 => ?_⟩
    repeat walk_at "z1"
  
    obtain ⟨far, hfar⟩ : ∃ f : Int, atI (inL [1, 1000, 10 ^ 12, 10 ^ 37]) t = some (.int f) := by
      have : t = 0 ∨ t = 1 ∨ t = 2 ∨ t = 3 := by omega
      rcases this with rfl | rfl | rfl | rfl <;> exact ⟨_, rfl⟩
    refine v2_ixL (ds := inL [1, 1000, 10 ^ 12, 10 ^ 37]) hfar ?_
    repeat walk_at "z4"
  
    refine ansP _ _ _ true (ls ++ [(e, a, -far, 1)]) _ ?_
    repeat walk_at "z4"
  
    refine ev_lst ?_
    repeat walk_at "z4"
  
    refine v2_addL (xs := lmsD ls) rfl rfl (Nat.le_trans (show _ ≤ 1000 by rw [lmsD_len]; simp; omega) (by decide)) ?_
    rw [show lmsD ls ++ [PyData.tuple [.int (e : Nat), .int (a : Nat), .int (-far), .int 1]] = lmsD (ls ++ [(e, a, -far, 1)]) from lmsD_snoc (l := (e, a, -far, 1))]
    repeat walk_at "z4"
  
    obtain ⟨g1, g2, g3⟩ := ok1 ls (-far) 1 hr hw hl (.inr rfl)
    exact ⟨⟨g1, g2, g3, .inl ⟨rfl, end0 n1 hP hr hw ha he hd⟩⟩, y1, rfl, rfl, q1⟩
  | some (c, w), hd, ho =>
    have w01 : w = 0 ∨ w = 1 := ho _ rfl
    show GO K b _ ⟨[some (.o 0), some (.d (.int n)), some (.d (.list (lmsD ls))), some (.d (.int a)), some (.d (.int e)), some (.d (.tuple [.int c, .int w])), none, none, none, none], [.lst x.l]⟩ _
    repeat walk_at "z4"
  
    refine ⟨fun z => ?_, fun z => ?_⟩
    · have z : w = 1 := of_decide_eq_true z
      subst z
      repeat walk_at "z4"
  
      refine ansP _ _ _ true (ls ++ [(e, a, -c, 1)]) _ ?_
      repeat walk_at "z4"
  
      refine ev_lst ?_
      repeat walk_at "z4"
  
      refine v2_addL (xs := lmsD ls) rfl rfl (Nat.le_trans (show _ ≤ 1000 by rw [lmsD_len]; simp; omega) (by decide)) ?_
      rw [show lmsD ls ++ [PyData.tuple [.int (e : Nat), .int (a : Nat), .int (-c), .int 1]] = lmsD (ls ++ [(e, a, -c, 1)]) from lmsD_snoc (l := (e, a, -c, 1))]
      repeat walk_at "z4"
  
      obtain ⟨g1, g2, g3⟩ := ok1 ls (-c) 1 hr hw hl (.inr rfl)
      refine ⟨⟨g1, g2, g3, .inl ⟨rfl, end1 n1 hP hr hw ha he hd⟩⟩, ?_⟩
      repeat walk_at "z4"
  
      refine ansP _ _ _ false (ls ++ [(e, a, -c, 0)]) _ ?_
      repeat walk_at "z4"
  
      refine ev_lst ?_
      repeat walk_at "z4"
  
      refine v2_addL (xs := lmsD ls) rfl rfl (Nat.le_trans (show _ ≤ 1000 by rw [lmsD_len]; simp; omega) (by decide)) ?_
      rw [show lmsD ls ++ [PyData.tuple [.int (e : Nat), .int (a : Nat), .int (-c), .int 0]] = lmsD (ls ++ [(e, a, -c, 0)]) from lmsD_snoc (l := (e, a, -c, 0))]
      repeat walk_at "z4"
  
      obtain ⟨g1, g2, g3⟩ := ok1 ls (-c) 0 hr hw hl (.inl rfl)
      exact ⟨⟨g1, g2, g3, .inr ⟨rfl, end1_bad n1 hw hd⟩⟩, x, rfl, rfl, h0⟩
    · have z : ¬ w = 1 := of_decide_eq_false z
      have w0 : w = 0 := by omega
      subst w0
      repeat walk_at "z4"
  
      refine ansP _ _ _ false (ls ++ [(e, a, -c, 1)]) _ ?_
      repeat walk_at "z4"
  
      refine ev_lst ?_
      repeat walk_at "z4"
  
      refine v2_addL (xs := lmsD ls) rfl rfl (Nat.le_trans (show _ ≤ 1000 by rw [lmsD_len]; simp; omega) (by decide)) ?_
      rw [show lmsD ls ++ [PyData.tuple [.int (e : Nat), .int (a : Nat), .int (-c), .int 1]] = lmsD (ls ++ [(e, a, -c, 1)]) from lmsD_snoc (l := (e, a, -c, 1))]
      repeat walk_at "z4"
  
      obtain ⟨g1, g2, g3⟩ := ok1 ls (-c) 1 hr hw hl (.inr rfl)
      refine ⟨⟨g1, g2, g3, .inr ⟨rfl, end2_bad n1 hw hd⟩⟩, ?_⟩
      repeat walk_at "z4"
      (refine ev_take ?_; repeat walk_at "z1")
      refine ⟨x, _, _, _, rfl, rfl, h0, by first | decide | omega, fun t y1 q1 t0 t1 => ?_⟩
      repeat walk_at "z1"
  
      repeat walk_at "z4"
  
      refine ev_lc (tg_name (.head _)) mg_name (ei_anyL (ei_list (ev_var rfl ⟨lmsD ls, fun _ => True, .inl rfl, trivial, ?_⟩)))
      refine ⟨fun m js s => js = lmsD ((ls.take m).map (fin (1 + t))) ∧ s = ⟨[some (.o 0), some (.d (.int n)), some (.d (.list (lmsD ls))), some (.d (.int a)), some (.d (.int e)), some (.d (.tuple [.int c, .int 0])), none, some (.d (.int (1 + t))), none, none], [.lst y1.l, .lst js]⟩, ⟨rfl, rfl⟩, ?_, ?_, ?_⟩
      · rintro m js s3 _ ⟨_, rfl⟩
        exact ⟨trivial, rfl⟩
      · rintro m v js s3 hx ⟨rfl, rfl⟩
        obtain ⟨l, hk, rfl⟩ := lmsD_inv hx
        have hk1 := (List.getElem?_eq_some_iff.mp hk).1
        refine gt_name ?_
        refine fun σ H tv ta Hd ps R Q kk => kk true H _ Hd ps ⟨fun _ => ?_, fun h => (nomatch h)⟩ R
        repeat walk_at "z1"
  
        refine ⟨rfl, Nat.lt_of_le_of_lt (show _ ≤ 1000 by rw [lmsD_len, List.length_map, List.length_take]; omega) (by decide), ?_, rfl⟩
        rw [List.take_add_one, hk, Option.toList_some, List.map_append, List.map_singleton, ← lmsD_snoc]
        rfl
      rintro js s3 ⟨rfl, rfl⟩
      rw [lmsD_len, List.take_length]
      refine gt_name ?_
      repeat walk_at "z4"
  
      refine ansP _ _ _ true (ls.map (fin (1 + t)) ++ [(e, a, 1 - c * (1 + t), 1)]) _ ?_
      repeat walk_at "z4"
  
      refine ev_lst ?_
      repeat walk_at "z4"
  
      refine v2_addL (xs := lmsD (ls.map (fin (1 + t)))) ⟨_, rfl, rfl⟩ rfl (Nat.le_trans (show _ ≤ 1000 by rw [lmsD_len, List.length_map]; simp; omega) (by decide)) ?_
      rw [show lmsD (ls.map (fin (1 + t))) ++ [PyData.tuple [.int (e : Nat), .int (a : Nat), .int (1 - c * (1 + t)), .int 1]] = lmsD (ls.map (fin (1 + t)) ++ [(e, a, 1 - c * (1 + t), 1)]) from lmsD_snoc (l := (e, a, 1 - c * (1 + t), 1))]
      repeat walk_at "z4"
  
      obtain ⟨g1, g2, g3⟩ := ok1 (ls.map (fin (1 + t))) (1 - c * (1 + t)) 1 (fin_rg hr) (fin_w01 hw) (by rw [List.length_map]; exact hl) (.inr rfl)
      exact ⟨⟨g1, g2, g3, .inl ⟨rfl, end2 (by omega) n1 hP hr hw ha he hd⟩⟩, y1, rfl, rfl, q1⟩
end
def sp__law_unsolvable : Spc where
  I := Nat × List Lm × Nat × Nat
  args := fun (n, ls, a, e) => [.d (.int n), .d (.list (lmsD ls)), .d (.int a), .d (.int e)]
  cells := fun _ => []
  pre := fun (n, ls, a, e) => (1 ≤ n ∧ n ≤ 200) ∧ Rg n ls ∧ W01 ls ∧ ls.length ≤ 1000 ∧ (a < n ∧ e < n) ∧ ¬ ∃ P, Feas n ls P
  post := fun _ r _ => r = .val (.bool true)
section
variable {P : Program} {w : World} {K : PySem.W.Frag} {mg : Str → Option Value} {base : Heap}
theorem ok__law_unsolvable (T : Tx P K mg) : FnOk P w K mg base CX0 6 T.a__law_unsolvable T.d__law_unsolvable ["count", "rows", "late", "early"] (SpB K sp__law_unsolvable) := by
  refine T.F__law_unsolvable.ok sc__law_unsolvable (fun vs H Q E h => spB_len h (fun _ => rfl)) (fun cdv A outer s H vs Q E hr h => ⟨_, PSs.nox ((pss_cons (ps_set (i := 4) sc__law_unsolvable.nd rfl (.inl rfl) (pe_callTy call_list_of (by rfl) T.z_list (by decide +kernel) (pa_cons (pv 1) pa_nil)))
      (pss_cons (L2N.ps_try_as (i := 5) (Wout := fun _ _ _ _ => False) rfl rfl sc__law_unsolvable.nd rfl rfl ⟨rfl, by decide, .inl T.gc_DwellError⟩ takesN
      (fun W pn xe tk po => (pss_one (ps_expr (pe_callS (ok_span T) (hr.mono (by decide)) (by rfl) T.g_span T.F_span.kp (b_span T.F_span) (fun σ => L2N.passAt tk σ) (by exact (pa_cons (pv 0) (pa_cons (pv 4) (pa_cons (pv 2) (pa_cons (pv 3) pa_nil)))))))))
      (fun a oe cls d pn hz hf => pss_guard (p := cls = .ref (clsA cls) ∧ ExcC K (clsA cls)) (fun hP => (pss_cons (ps_if (PW.pt (pw_or (pt_not (pt_truthK (K := K) rfl (pe_callB (call_isY (K := K) rfl hP.2 hP.1 hz hf) (by rfl) T.z_isinstance (by decide +kernel) (by exact (pa_cons (pv 5) (pa_cons (pe_glob (v := .ref T.c_Unsolvable) rfl T.gc_Unsolvable rfl) pa_nil)))) (by intro _; rfl))) (pw_or1 (pt_not (pt_truthK (K := K) rfl (pe_callB (call_isY (K := K) rfl hP.2 hP.1 hz hf) (by rfl) T.z_isinstance (by decide +kernel) (by exact (pa_cons (pv 5) (pa_cons (pe_bltn (v := .ty "ValueError") (by rfl) T.z_ValueError (by decide +kernel) rfl) pa_nil)))) (by intro _; rfl))))))
      (pss_one (ps_ret pe_bl))
      pss_nil)
      (pss_cons (ps_if (PW.pt (pw_or (pt_truthK (K := K) rfl (pe_callB (call_isYT (K := K) rfl hP.2 hP.1 hz hf) (by rfl) T.z_isinstance (by decide +kernel) (by exact (pa_cons (pv 5) (pa_cons (pe_tup (pa_cons (pe_glob (v := .ref T.c_BadLimit) rfl T.gc_BadLimit rfl) (pa_cons (pe_glob (v := .ref T.c_BadVariable) rfl T.gc_BadVariable rfl) pa_nil))) pa_nil)))) (by intro _; rfl)) (pw_or1 (pt_cmpR (op_neDK (K := K) rfl hr.units) (pv 4) (pv 1) (nomark _)))))
      (pss_one (ps_ret pe_bl))
      pss_nil)
      (pss_one (ps_ret (L2H.pe_callH (okH__law_is_bad_cycle T) (suite_room hr (by decide)) (suite_hot hz hf) (by rfl) T.g__law_is_bad_cycle T.F__law_is_bad_cycle.kp (b__law_is_bad_cycle T.F__law_is_bad_cycle) (E := fun _ => E0) (fun _ => pass0A) (pa_cons (pe_xf (C := T.c_Unsolvable) (Dw.ExcC.xf T.ec_Unsolvable) T.na_Unsolvable_chain hz.zc hf (pv 5)) (pa_cons (pv 1) pa_nil))))))))))
      (pss_one (ps_ret pe_bl))))), ?_⟩)
  refine go_fn (L := ["count", "rows", "late", "early", "passed", "e"]) h (fun b i hp hX => ?_)
  dsimp only [cxOf, L2H.cxH, L2.Cx.nox, L2.Cx.wish]
  
  obtain ⟨n, ls, a, e⟩ := i
  obtain ⟨⟨n1, n2⟩, hr, hw, hl, ⟨ha, he⟩, hP⟩ := hp
  show GO K b _ ⟨[some (.d (.int n)), some (.d (.list (lmsD ls))), some (.d (.int a)), some (.d (.int e)), none, none], []⟩ _
  repeat walk_at "z4"
  
  refine vc_list (ds := lmsD ls) (.inl rfl) ?_
  refine gt_name ?_
  show GO K b _ ⟨[some (.d (.int n)), some (.d (.list (lmsD ls))), some (.d (.int a)), some (.d (.int e)), some (.d (.list (lmsD ls))), none], []⟩ _
  refine go_seq ?_
  refine go_tryC (fun x s => (∃ ch, BadCh ls ch ∧ ch.length ≤ n ∧ x = ⟨.ref T.c_Unsolvable, some [("chain", .list (inN ch))]⟩) ∧ s = ⟨[some (.d (.int n)), some (.d (.list (lmsD ls))), some (.d (.int a)), some (.d (.int e)), some (.d (.list (lmsD ls))), none], []⟩) (fun b' W hW => ?_) ?_
  · refine go_drop (ev_S (ev_call0 ?_))
    repeat walk_at "z4"
  
    refine ⟨(n, ls.map lmR, (a : Int), (e : Int)), by rw [lmsD_rws]; rfl, rfl, rfl, ⟨⟨n1, n2⟩, by rw [List.length_map]; exact hl⟩, fun r os' hr' => ?_, fun x os' hx d σ H' tv ta Hd' ps' R hd => ?_⟩
    · obtain ⟨ls', a', e', hi, lo, q, _, _, hP', _⟩ := hr'
      have q := lmR_inj q
      subst q
      exact absurd hP' hP
    · rcases hx with ⟨p, y, hy, hno, _⟩ | ⟨_, h, _⟩ | ⟨ls2, ch, e2, _, _, hb, hcn, hno, rfl⟩
      · exact absurd (okR_lm hr hw y (List.mem_of_getElem? hy)) hno
      · exact absurd ⟨⟨by omega, by omega⟩, by omega, by omega⟩ h
      · have e2 := lmR_inj e2
        subst e2
        exact hW _ d σ H' _ tv ta Hd' ps' ⟨⟨ch, hb, hcn, rfl⟩, rfl⟩ R hd
  rintro x s1 ⟨⟨ch, hb, hcn, rfl⟩, rfl⟩
  refine ⟨T.em_Unsolvable_DwellError, fun aa d => go_guard ⟨rfl, T.ec_Unsolvable⟩ ?_⟩
  dsimp only [clsA]
  show GO K b _ ⟨[some (.d (.int n)), some (.d (.list (lmsD ls))), some (.d (.int a)), some (.d (.int e)), some (.d (.list (lmsD ls))), some (exX K aa d (some [("chain", .list (inN ch))]))], []⟩ _
  have k1 := T.k_Unsolvable_Unsolvable
  have k2 := T.kt_Unsolvable_ValueError
  have k3 := T.k_Unsolvable_BadLimit
  have k4 := T.k_Unsolvable_BadVariable
  have sh : Shp 2 (.list (lmsD ls)) := shp_list fun x hx => by
    obtain ⟨l, _, rfl⟩ := List.mem_map.mp hx
    exact shp_tup fun y hy => by
      simp only [List.mem_cons, List.not_mem_nil, or_false] at hy
      rcases hy with rfl | rfl | rfl | rfl <;> exact shp_int
  repeat walk_at "z4"
  
  refine v2_neS1 (d := .list (lmsD ls)) rfl rfl sh (by decide) ?_
  repeat walk_at "z4"
  
  refine ev_S (ev_call0 (E := fun _ => E0) (ea_cons (ev_xf (z := .list (inN ch)) rfl rfl rfl (ea_cons (ev_var rfl (ea_nil ?_))))))
  refine ⟨(ls, ch), rfl, rfl, rfl, ⟨hb, hw, hl, by omega⟩, fun r os' hr => ?_, fun x os' hx => (show False from hx).elim⟩
  obtain rfl : r = .val (.bool true) := hr
  exact rfl
end
def sp__law_refuses : Spc where
  I := Bg × Nat × List Lm × Nat × Nat
  args := fun (x, n, ls, a, e) => [.o 0, .d (.int n), .d (.list (lmsD ls)), .d (.int a), .d (.int e)]
  cells := fun (x, _) => [.lst x.l]
  pre := fun (x, n, ls, a, e) => 0 ≤ x.i ∧ (1 ≤ n ∧ n ≤ 200) ∧ Rg n ls ∧ W01 ls ∧ ls.length ≤ 900 ∧ a < n ∧ e < n
  post := fun (x, _) r os => ∃ y : Bg, r = .val (.bool true) ∧ os = [.lst y.l] ∧ 0 ≤ y.i
section
variable {P : Program} {w : World} {K : PySem.W.Frag} {mg : Str → Option Value} {base : Heap}
theorem ok__law_refuses (T : Tx P K mg) : FnOk P w K mg base CX0 6 T.a__law_refuses T.d__law_refuses ["bag", "count", "rows", "late", "early"] (SpB K sp__law_refuses) := by
  refine T.F__law_refuses.ok sc__law_refuses (fun vs H Q E h => spB_len h (fun _ => rfl)) (fun cdv A outer s H vs Q E hr h => ⟨_, PSs.nox ((pss_cons (ps_set (i := 5) sc__law_refuses.nd rfl (.inl rfl) (pe_call (ok__law_take T) (hr.mono (by decide)) (by rfl) T.g__law_take T.F__law_take.kp (b__law_take T.F__law_take) .nil pass0 (pa_cons (pv 0) (pa_cons pe_int pa_nil))))
      (pss_cons (ps_set (i := 6) sc__law_refuses.nd rfl (.inl rfl) (pe_ix ix_seq (pe_lst (pa_cons (pv 1) (pa_cons (pe_un un_neg pe_int) (pa_cons (pe_op op_addA (pe_op op_addA (pv 1) pe_int) (pv 5)) (pa_cons (pe_op op_sub (pe_un un_neg pe_int) (pv 5)) pa_nil))))) (pe_call (ok__law_take T) (hr.mono (by decide)) (by rfl) T.g__law_take T.F__law_take.kp (b__law_take T.F__law_take) .nil pass0 (pa_cons (pv 0) (pa_cons pe_int pa_nil))) (fun _ _ => rfl)))
      (pss_cons (ps_set (i := 7) sc__law_refuses.nd rfl (.inl rfl) (pe_ix ix_seq (pe_lst (pa_cons (pe_tup (pa_cons (pv 6) (pa_cons (pv 4) pa_nil))) (pa_cons (pe_tup (pa_cons (pv 3) (pa_cons (pv 6) pa_nil))) (pa_cons (pe_tup (pa_cons (pv 6) (pa_cons (pv 6) pa_nil))) pa_nil)))) (pe_call (ok__law_take T) (hr.mono (by decide)) (by rfl) T.g__law_take T.F__law_take.kp (b__law_take T.F__law_take) .nil pass0 (pa_cons (pv 0) (pa_cons pe_int pa_nil))) (fun _ _ => rfl)))
      (pss_cons (ps_set (i := 8) sc__law_refuses.nd rfl (.inl rfl) pe_bl)
      (pss_cons (L2N.ps_try_as (i := 9) (Wout := fun _ _ _ _ => False) rfl rfl sc__law_refuses.nd rfl rfl ⟨rfl, by decide, .inl T.gc_DwellError⟩ takesN
      (fun W pn xe tk po => (pss_one (ps_expr (pe_callS (ok_span T) (hr.mono (by decide)) (by rfl) T.g_span T.F_span.kp (b_span T.F_span) (fun σ => L2N.passAt tk σ) (by exact (pa_cons (pv 1) (pa_cons (pe_callTy (call_list_ofK (K := K) rfl) (by rfl) T.z_list (by decide +kernel) (pa_cons (pv 2) pa_nil)) (pa_cons (pe_ix (ix_seqK (K := K) rfl) (pv 7) pe_int (fun _ _ => rfl)) (pa_cons (pe_ix (ix_seqK (K := K) rfl) (pv 7) pe_int (fun _ _ => rfl)) pa_nil)))))))))
      (fun a oe cls d pn hz hf => pss_guard (p := cls = .ref (clsA cls) ∧ ExcC K (clsA cls)) (fun hP => (pss_cons (ps_set (i := 8) sc__law_refuses.nd rfl (.inl rfl) (pe_and (pe_callB (call_isY (K := K) rfl hP.2 hP.1 hz hf) (by rfl) T.z_isinstance (by decide +kernel) (by exact (pa_cons (pv 9) (pa_cons (pe_glob (v := .ref T.c_BadVariable) rfl T.gc_BadVariable rfl) pa_nil)))) (pe_one (pe_callB (call_isY (K := K) rfl hP.2 hP.1 hz hf) (by rfl) T.z_isinstance (by decide +kernel) (by exact (pa_cons (pv 9) (pa_cons (pe_bltn (v := .ty "ValueError") (by rfl) T.z_ValueError (by decide +kernel) rfl) pa_nil)))))))
      (pss_one (ps_set (i := 8) sc__law_refuses.nd rfl (.inl rfl) (pe_and (pv 8) (pe_one (pe_notTK (K := K) rfl (pe_callB (call_isYT (K := K) rfl hP.2 hP.1 hz hf) (by rfl) T.z_isinstance (by decide +kernel) (by exact (pa_cons (pv 9) (pa_cons (pe_tup (pa_cons (pe_glob (v := .ref T.c_BadLimit) rfl T.gc_BadLimit rfl) (pa_cons (pe_glob (v := .ref T.c_Unsolvable) rfl T.gc_Unsolvable rfl) (pa_cons (pe_glob (v := .ref T.c_BadValue) rfl T.gc_BadValue rfl) pa_nil)))) pa_nil)))))))))))))
      (pss_cons (ps_if (pt_not (pt_truth (pv 8) (by intro _; rfl)))
      (pss_one (ps_ret pe_bl))
      pss_nil)
      (pss_cons (ps_set (i := 10) sc__law_refuses.nd rfl (.inl rfl) (pe_call (ok__law_take T) (hr.mono (by decide)) (by rfl) T.g__law_take T.F__law_take.kp (b__law_take T.F__law_take) .nil pass0 (pa_cons (pv 0) (pa_cons (pe_op op_addA (pe_callB call_len (by rfl) T.z_len (by decide +kernel) (pa_cons (pv 2) pa_nil)) pe_int) pa_nil))))
      (pss_cons (ps_set (i := 11) sc__law_refuses.nd rfl (.inl rfl) (pe_op op_addA (pe_op op_addA (pe_slice sl_any (pv 2) po_none (po_some (pv 10))) (pe_lst (pa_cons (pe_call (ok__law_wrong_limit T) (hr.mono (by decide)) (by rfl) T.g__law_wrong_limit T.F__law_wrong_limit.kp (b__law_wrong_limit T.F__law_wrong_limit) .nil pass0 (pa_cons (pv 0) (pa_cons (pv 1) pa_nil))) pa_nil))) (pe_slice sl_any (pv 2) (po_some (pv 10)) po_none)))
      (pss_cons (ps_if (pt_cmpR (op_eqD hr.units) (pe_call (ok__law_take T) (hr.mono (by decide)) (by rfl) T.g__law_take T.F__law_take.kp (b__law_take T.F__law_take) .nil pass0 (pa_cons (pv 0) (pa_cons pe_int pa_nil))) pe_int (nomark _))
      (pss_one (ps_set (i := 7) sc__law_refuses.nd rfl (.inl rfl) (pe_tup (pa_cons (pv 3) (pa_cons (pv 4) pa_nil)))))
      pss_nil)
      (pss_cons (L2N.ps_try_as (i := 9) (Wout := fun _ _ _ _ => False) rfl rfl sc__law_refuses.nd rfl rfl ⟨rfl, by decide, .inl T.gc_DwellError⟩ takesN
      (fun W pn xe tk po => (pss_one (ps_expr (pe_callS (ok_span T) (hr.mono (by decide)) (by rfl) T.g_span T.F_span.kp (b_span T.F_span) (fun σ => L2N.passAt tk σ) (by exact (pa_cons (pv 1) (pa_cons (pe_callTy (call_list_ofK (K := K) rfl) (by rfl) T.z_list (by decide +kernel) (pa_cons (pv 11) pa_nil)) (pa_cons (pe_ix (ix_seqK (K := K) rfl) (pv 7) pe_int (fun _ _ => rfl)) (pa_cons (pe_ix (ix_seqK (K := K) rfl) (pv 7) pe_int (fun _ _ => rfl)) pa_nil)))))))))
      (fun a oe cls d pn hz hf => pss_guard (p := cls = .ref (clsA cls) ∧ ExcC K (clsA cls)) (fun hP => (pss_cons (ps_if (PW.pt (pw_or (pt_not (pt_truthK (K := K) rfl (pe_callB (call_isY (K := K) rfl hP.2 hP.1 hz hf) (by rfl) T.z_isinstance (by decide +kernel) (by exact (pa_cons (pv 9) (pa_cons (pe_glob (v := .ref T.c_BadLimit) rfl T.gc_BadLimit rfl) pa_nil)))) (by intro _; rfl))) (pw_or1 (pt_truthK (K := K) rfl (pe_callB (call_isYT (K := K) rfl hP.2 hP.1 hz hf) (by rfl) T.z_isinstance (by decide +kernel) (by exact (pa_cons (pv 9) (pa_cons (pe_tup (pa_cons (pe_glob (v := .ref T.c_BadVariable) rfl T.gc_BadVariable rfl) (pa_cons (pe_glob (v := .ref T.c_Unsolvable) rfl T.gc_Unsolvable rfl) pa_nil))) pa_nil)))) (by intro _; rfl)))))
      (pss_one (ps_ret pe_bl))
      pss_nil)
      (pss_one (ps_ret (pe_and (L2H.pe_callH (okH__law_is_number T) (suite_room hr (by decide)) (suite_hot hz hf) (by rfl) T.g__law_is_number T.F__law_is_number.kp (b__law_is_number T.F__law_is_number) (E := fun _ => E0) (fun _ => pass0A) (pa_cons (pe_xf (C := T.c_BadLimit) (Dw.ExcC.xf T.ec_BadLimit) T.na_BadLimit_place hz.zc hf (pv 9)) pa_nil)) (pe_one (pe_cmpR (op_eqDK (K := K) rfl hr.units) (pe_xf (C := T.c_BadLimit) (Dw.ExcC.xf T.ec_BadLimit) T.na_BadLimit_place hz.zc hf (pv 9)) (pv 10) (nomark _))))))))))
      (pss_one (ps_ret pe_bl))))))))))))), ?_⟩)
  refine go_fn (L := ["bag", "count", "rows", "late", "early", "far", "beyond", "pair", "good", "e", "at", "wrong"]) h (fun b i hp hX => ?_)
  dsimp only [cxOf, L2H.cxH, L2.Cx.nox, L2.Cx.wish]
  
  obtain ⟨x, n, ls, a, e⟩ := i
  obtain ⟨h0, ⟨n1, n2⟩, hr, hw, hl, ha, he⟩ := hp
  obtain ⟨xs, hxs⟩ : ∃ xs, ls.map lmR = xs := ⟨_, rfl⟩
  have xok : ∀ x ∈ xs, okR n x := by rw [← hxs]; exact okR_lm hr hw
  have xl : xs.length = ls.length := by rw [← hxs, List.length_map]
  show GO K b _ ⟨[some (.o 0), some (.d (.int n)), some (.d (.list (lmsD ls))), some (.d (.int a)), some (.d (.int e)), none, none, none, none, none, none, none], [.lst x.l]⟩ _
  rw [lmsD_rws, hxs]
  repeat walk_at "z4"
  (refine ev_take ?_; repeat walk_at "z1")
  refine ⟨x, _, _, _, rfl, rfl, h0, by first | decide | omega, fun far y1 q1 f0 f1 => ?_⟩
  repeat walk_at "z1"
  
  repeat walk_at "z4"
  
  refine ev_lst ?_
  repeat walk_at "z4"
  (refine ev_take ?_; repeat walk_at "z1")
  refine ⟨y1, _, _, _, rfl, rfl, q1, by first | decide | omega, fun t y2 q2 t0 t1 => ?_⟩
  repeat walk_at "z1"
  
  obtain ⟨be, hbe, hb0⟩ : ∃ be : Int, atI (inL [(n : Int), -1, (n : Int) + 1 + far, -2 - far]) t = some (.int be) ∧ ¬ (0 ≤ be ∧ be < n) := by
    have : t = 0 ∨ t = 1 ∨ t = 2 ∨ t = 3 := by omega
    rcases this with rfl | rfl | rfl | rfl
    · exact ⟨_, rfl, by omega⟩
    · exact ⟨_, rfl, by omega⟩
    · exact ⟨_, rfl, by omega⟩
    · exact ⟨_, rfl, by omega⟩
  refine v2_ixL (ds := inL [(n : Int), -1, (n : Int) + 1 + far, -2 - far]) hbe ?_
  repeat walk_at "z4"
  
  refine ev_lst ?_
  repeat walk_at "z4"
  (refine ev_take ?_; repeat walk_at "z1")
  refine ⟨y2, _, _, _, rfl, rfl, q2, by first | decide | omega, fun u y3 q3 u0 u1 => ?_⟩
  repeat walk_at "z1"
  
  obtain ⟨p1, p2, hpp, hp0⟩ : ∃ p1 p2 : Int, atI [PyData.tuple [.int be, .int e], .tuple [.int a, .int be], .tuple [.int be, .int be]] u = some (.tuple [.int p1, .int p2]) ∧ ¬ ((0 ≤ p1 ∧ p1 < n) ∧ 0 ≤ p2 ∧ p2 < n) := by
    have : u = 0 ∨ u = 1 ∨ u = 2 := by omega
    rcases this with rfl | rfl | rfl
    · exact ⟨_, _, rfl, by omega⟩
    · exact ⟨_, _, rfl, by omega⟩
    · exact ⟨_, _, rfl, by omega⟩
  refine v2_ixL (ds := [PyData.tuple [.int be, .int e], .tuple [.int a, .int be], .tuple [.int be, .int be]]) hpp ?_
  refine gt_name ?_
  refine go_sAsg (ev_bl (gt_name ?_))
  show GO K b _ ⟨[some (.o 0), some (.d (.int n)), some (.d (.list (rwsD xs))), some (.d (.int a)), some (.d (.int e)), some (.d (.int far)), some (.d (.int be)), some (.d (.tuple [.int p1, .int p2])), some (.d (.bool false)), none, none, none], [.lst y3.l]⟩ _
  refine go_seq ?_
  refine go_tryC (fun x s => x = ⟨.ref T.c_BadVariable, none⟩ ∧ s = ⟨[some (.o 0), some (.d (.int n)), some (.d (.list (rwsD xs))), some (.d (.int a)), some (.d (.int e)), some (.d (.int far)), some (.d (.int be)), some (.d (.tuple [.int p1, .int p2])), some (.d (.bool false)), none, none, none], [.lst y3.l]⟩) (fun b' W hW => ?_) ?_
  · refine go_drop (ev_S (ev_call0 ?_))
    repeat walk_at "z4"
  
    refine vc_list (ds := rwsD xs) (.inl rfl) ?_
    repeat walk_at "z4"
  
    refine ⟨(n, xs, p1, p2), rfl, rfl, rfl, ⟨⟨n1, n2⟩, by omega⟩, fun r os' hr' => ?_, fun x os' hx d σ H' tv ta Hd' ps' R hd => ?_⟩
    · obtain ⟨ls', a', e', hi, lo, q, _, _, _, ea, ee, ha', he', _⟩ := hr'
      exact absurd ⟨⟨by omega, by omega⟩, by omega, by omega⟩ hp0
    · rcases hx with ⟨p, y, hy, hno, _⟩ | ⟨_, _, rfl⟩ | ⟨_, _, _, _, h, _⟩
      · exact absurd (xok y (List.mem_of_getElem? hy)) hno
      · exact hW _ d σ H' _ tv ta Hd' ps' ⟨rfl, rfl⟩ R hd
      · exact absurd h hp0
  rintro x s1 ⟨rfl, rfl⟩
  refine ⟨T.em_BadVariable_DwellError, fun aa d => go_guard ⟨rfl, T.ec_BadVariable⟩ ?_⟩
  dsimp only [clsA]
  show GO K b _ ⟨[some (.o 0), some (.d (.int n)), some (.d (.list (rwsD xs))), some (.d (.int a)), some (.d (.int e)), some (.d (.int far)), some (.d (.int be)), some (.d (.tuple [.int p1, .int p2])), some (.d (.bool false)), some (exX K aa d none), none, none], [.lst y3.l]⟩ _
  have k1 := T.k_BadVariable_BadVariable
  have k2 := T.kt_BadVariable_ValueError
  have k3 := T.k_BadVariable_BadLimit
  have k4 := T.k_BadVariable_Unsolvable
  have k5 := T.k_BadVariable_BadValue
  repeat walk_at "z4"
  
  refine ev_take ?_
  repeat walk_at "z4"
  
  refine ⟨y3, (xs.length : Int) + 1, _, _, by rw [rwsD_len], rfl, q3, ⟨by omega, by omega⟩, fun at_ y4 q4 a0 a1 => ?_⟩
  obtain ⟨at_, rfl⟩ : ∃ a : Nat, at_ = a := ⟨at_.toNat, by omega⟩
  repeat walk_at "z4"
  
  refine vs_list (ds := rwsD xs) rfl ?_
  rw [cut_pre (by rw [rwsD_len]; omega)]
  repeat walk_at "z4"
  
  have wrong : ∀ (b : B) (y : Bg) (ss : List (Option Dw.A)) (cs : List C) (E : L2.St → XK) (Φ : Dw.A → S → Prop), 0 ≤ y.i → ss[0]? = some (some (.o 0)) → ss[1]? = some (some (.d (.int n))) → (∀ (z : Rw) (y' : Bg), 0 ≤ y'.i → ¬ okR n z → Φ (.d (rwD z)) ⟨ss, .lst y'.l :: cs⟩) →
      EV K b (tCallG (SpB K sp__law_wrong_limit) E (tCons (tVar 0) (tCons (tVar 1) tNil))) ⟨ss, .lst y.l :: cs⟩ Φ := fun b y ss cs E Φ hy s0 s1 q => by
    refine ev_call1 0 (ea_cons (ev_var s0 (ea_cons (ev_var s1 (ea_nil ?_)))))
    refine ⟨(y, n), .lst y.l, [.d (.int n)], rfl, rfl, rfl, rfl, (fun z => nomatch z), rfl, ⟨hy, n1, n2⟩, fun r c' hr => ?_, fun x c' hx => (show False from hx).elim⟩
    obtain ⟨z, y', rfl, e, h1, h2⟩ := hr
    cases e
    exact q z y' h1 h2
  refine ev_lst (ea_cons (wrong _ y4 _ _ (fun _ => E0) _ q4 rfl rfl fun z1 y5 q5 bad1 => ea_nil ⟨[rwD z1], rfl, rfl, ?_⟩))
  refine v2_addL (ys := [rwD z1]) rfl rfl (Nat.le_trans (show _ ≤ 1000 by rw [List.length_take, rwsD_len]; simp; omega) (by decide)) ?_
  repeat walk_at "z4"
  
  refine vs_list (ds := rwsD xs) rfl ?_
  rw [cut_post (by rw [rwsD_len]; omega)]
  repeat walk_at "z4"
  
  refine v2_addL (ys := (rwsD xs).drop at_) rfl rfl (Nat.le_trans (show _ ≤ 2000 by rw [List.length_append, List.length_take, List.length_drop, rwsD_len]; simp; omega) (by decide)) ?_
  rw [rwsD_ins2]
  obtain ⟨ws, hws⟩ : ∃ ws, ins xs at_ z1 = ws := ⟨_, rfl⟩
  have l2 : ws.length = xs.length + 1 := by rw [← hws, ins_len (by omega)]
  have wa : ws[at_]? = some z1 := by rw [← hws, ins_at (by omega)]
  have wlt : ∀ q, q < at_ → ws[q]? = xs[q]? := fun q hq => by rw [← hws, ins_lt (by omega) hq]
  rw [hws]
  refine gt_name ?_
  refine go_mid (fun s => ∃ (s1 s2 : Int) (y : Bg), 0 ≤ y.i ∧ s = ⟨[some (.o 0), some (.d (.int n)), some (.d (.list (rwsD xs))), some (.d (.int a)), some (.d (.int e)), some (.d (.int far)), some (.d (.int be)), some (.d (.tuple [.int s1, .int s2])), some (.d (.bool true)), none, some (.d (.int (at_ : Nat))), some (.d (.list (rwsD ws)))], [.lst y.l]⟩) ?_ ?_
  · repeat walk_at "z4"
    (refine ev_take ?_; repeat walk_at "z1")
    refine ⟨y5, _, _, _, rfl, rfl, q5, by first | decide | omega, fun v y6 q6 v0 v1 => ?_⟩
    repeat walk_at "z1"
  
    repeat walk_at "z4"
  
    refine ⟨fun _ => ?_, fun _ => ?_⟩
    · repeat walk_at "z4"
  
      exact ⟨_, _, y6, q6, rfl⟩
    · repeat walk_at "z4"
  
      exact ⟨_, _, y6, q6, rfl⟩
  rintro s3 ⟨s1, s2, y6, q6, rfl⟩
  refine go_seq ?_
  refine go_tryC (fun x s => x = ⟨.ref T.c_BadLimit, some [("place", .int (at_ : Nat))]⟩ ∧ s = ⟨[some (.o 0), some (.d (.int n)), some (.d (.list (rwsD xs))), some (.d (.int a)), some (.d (.int e)), some (.d (.int far)), some (.d (.int be)), some (.d (.tuple [.int s1, .int s2])), some (.d (.bool true)), none, some (.d (.int (at_ : Nat))), some (.d (.list (rwsD ws)))], [.lst y6.l]⟩) (fun b' W hW => ?_) ?_
  · refine go_drop (ev_S (ev_call0 ?_))
    repeat walk_at "z4"
  
    refine vc_list (ds := rwsD ws) (.inl rfl) ?_
    repeat walk_at "z4"
  
    refine ⟨(n, ws, s1, s2), rfl, rfl, rfl, ⟨⟨n1, n2⟩, by omega⟩, fun r os' hr' => ?_, fun x os' hx d σ H' tv ta Hd' ps' R hd => ?_⟩
    · obtain ⟨ls', a', e', hi, lo, rfl, hr', hw', _⟩ := hr'
      exact absurd (okR_lm hr' hw' z1 (List.mem_of_getElem? wa)) bad1
    · rcases hx with ⟨p, y, hy, hno, hall, rfl⟩ | ⟨hall, _⟩ | ⟨ls', ch, _, hall, _⟩
      · have e : p = at_ := by
          rcases Nat.lt_trichotomy p at_ with l | l | l
          · rw [wlt p l] at hy
            exact absurd (xok y (List.mem_of_getElem? hy)) hno
          · exact l
          · exact absurd (hall at_ z1 l wa) bad1
        subst e
        exact hW _ d σ H' _ tv ta Hd' ps' ⟨rfl, rfl⟩ R hd
      · exact absurd (hall z1 (List.mem_of_getElem? wa)) bad1
      · exact absurd (hall z1 (List.mem_of_getElem? wa)) bad1
  rintro x s1 ⟨rfl, rfl⟩
  refine ⟨T.em_BadLimit_DwellError, fun aa d => go_guard ⟨rfl, T.ec_BadLimit⟩ ?_⟩
  dsimp only [clsA]
  have k1 := T.k_BadLimit_BadLimit
  have k3 := T.k_BadLimit_BadVariable
  have k4 := T.k_BadLimit_Unsolvable
  repeat walk_at "z4"
  
  refine ev_S (ev_isnum (i := (at_ : Nat)) (ea_cons ?_))
  refine ev_xf (z := .int (at_ : Nat)) rfl rfl rfl ?_
  refine ea_nil ⟨rfl, ?_⟩
  repeat walk_at "z4"
  
  refine ev_xf (z := .int (at_ : Nat)) rfl rfl rfl ?_
  repeat walk_at "z4"
  
  exact ⟨y6, by simp, rfl, q6⟩
end
def sp__law_bound : Spc where
  I := Bg × Int
  args := fun (x, sc) => [.o 0, .d (.int sc)]
  cells := fun (x, _) => [.lst x.l]
  pre := fun (x, _) => 0 ≤ x.i
  post := fun (x, _) r os => ∃ (o : Option Bd) (y : Bg), r = .val (bdD o) ∧ os = [.lst y.l] ∧ 0 ≤ y.i ∧ okO o ∧ ∀ p, o = some p → -(10 ^ 36) ≤ p.1 ∧ p.1 ≤ 10 ^ 36
section
variable {P : Program} {w : World} {K : PySem.W.Frag} {mg : Str → Option Value} {base : Heap}
theorem ok__law_bound (T : Tx P K mg) : FnOk P w K mg base CX0 3 T.a__law_bound T.d__law_bound ["bag", "scale"] (SpB K sp__law_bound) := by
  refine T.F__law_bound.ok sc__law_bound (fun vs H Q E h => spB_len h (fun _ => rfl)) (fun cdv A outer s H vs Q E hr h => ⟨_, PSs.nox ((pss_cons (ps_if (pt_cmpR (op_eqD hr.units) (pe_call (ok__law_take T) (hr.mono (by decide)) (by rfl) T.g__law_take T.F__law_take.kp (b__law_take T.F__law_take) .nil pass0 (pa_cons (pv 0) (pa_cons pe_int pa_nil))) pe_int (nomark _))
      (pss_one (ps_ret pe_non))
      pss_nil)
      (pss_one (ps_ret (pe_tup (pa_cons (pe_call (ok__law_number T) (hr.mono (by decide)) (by rfl) T.g__law_number T.F__law_number.kp (b__law_number T.F__law_number) .nil pass0 (pa_cons (pv 0) (pa_cons (pv 1) pa_nil))) (pa_cons (pe_call (ok__law_take T) (hr.mono (by decide)) (by rfl) T.g__law_take T.F__law_take.kp (b__law_take T.F__law_take) .nil pass0 (pa_cons (pv 0) (pa_cons pe_int pa_nil))) pa_nil))))))), ?_⟩)
  refine go_fn (L := ["bag", "scale"]) h (fun b i hp hX => ?_)
  dsimp only [cxOf, L2H.cxH, L2.Cx.nox, L2.Cx.wish]
  
  obtain ⟨x, sc⟩ := i
  have h0 : 0 ≤ x.i := hp
  show GO K b _ ⟨[some (.o 0), some (.d (.int sc))], [.lst x.l]⟩ _
  repeat walk_at "z4"
  (refine ev_take ?_; repeat walk_at "z1")
  refine ⟨x, _, _, _, rfl, rfl, h0, by first | decide | omega, fun t y1 q1 t0 t1 => ?_⟩
  repeat walk_at "z1"
  
  repeat walk_at "z4"
  
  refine ⟨fun _ => ?_, fun _ => ?_⟩
  · repeat walk_at "z4"
  
    exact ⟨none, y1, rfl, rfl, q1, (fun p h => nomatch h), (fun p h => nomatch h)⟩
  repeat walk_at "z4"
  
  refine ev_number ?_
  repeat walk_at "z4"
  
  refine ⟨y1, sc, _, _, rfl, rfl, q1, fun c y2 q2 c0 c1 => ?_⟩
  repeat walk_at "z4"
  (refine ev_take ?_; repeat walk_at "z1")
  refine ⟨y2, _, _, _, rfl, rfl, q2, by first | decide | omega, fun w y3 q3 w0 w1 => ?_⟩
  repeat walk_at "z1"
  
  repeat walk_at "z4"
  
  exact ⟨some (c, w), y3, rfl, rfl, q3, fun p h => by cases h; show w = 0 ∨ w = 1; omega, fun p h => by cases h; exact ⟨c0, c1⟩⟩
end
theorem _root_.Dw.v2_isBB {K : PySem.W.Frag} {b : B} {s : S} {Φ : Dw.A → S → Prop} (q : Φ (.d (.bool true)) s) : V2 K b rIsA (.d (.bool true)) (.d (.bool true)) s Φ := fun σ H tv ta Hd ps v w R a1 a2 Q k => by
  cases a1
  cases a2
  exact .inr ⟨true, true, rfl, rfl, k _ H _ s Hd ps q R (.bl _)⟩
theorem min_less {a1 a2 b1 b2 : Int} : bdT (if wlt (b1, b2) (a1, a2) then (b1, b2) else (a1, a2)) = bdD (if lessO (some (a1, a2)) (some (b1, b2)) then some (a1, a2) else some (b1, b2)) := by
  show _ = bdD (if decide (wlt (a1, a2) (b1, b2)) = true then some (a1, a2) else some (b1, b2))
  by_cases h : wlt (b1, b2) (a1, a2)
  · have h2 : ¬ wlt (a1, a2) (b1, b2) := by unfold wlt at *; simp only at *; omega
    rw [if_pos h, if_neg (by rw [decide_eq_false h2]; exact Bool.false_ne_true)]
    rfl
  · rw [if_neg h]
    by_cases h2 : wlt (a1, a2) (b1, b2)
    · rw [if_pos (decide_eq_true h2)]
      rfl
    · rw [if_neg (by rw [decide_eq_false h2]; exact Bool.false_ne_true)]
      have : a1 = b1 ∧ a2 = b2 := by unfold wlt at *; simp only at *; omega
      rw [this.1, this.2]
      rfl
def sp__law_bounds_right : Spc where
  I := Bg × Int
  args := fun (x, sc) => [.o 0, .d (.int sc)]
  cells := fun (x, _) => [.lst x.l]
  pre := fun (x, _) => 0 ≤ x.i
  post := fun (x, _) r os => ∃ y : Bg, r = .val (.bool true) ∧ os = [.lst y.l] ∧ 0 ≤ y.i
section
variable {P : Program} {w : World} {K : PySem.W.Frag} {mg : Str → Option Value} {base : Heap}
theorem ok__law_bounds_right (T : Tx P K mg) : FnOk P w K mg base CX0 4 T.a__law_bounds_right T.d__law_bounds_right ["bag", "scale"] (SpB K sp__law_bounds_right) := by
  refine T.F__law_bounds_right.ok sc__law_bounds_right (fun vs H Q E h => spB_len h (fun _ => rfl)) (fun cdv A outer s H vs Q E hr h => ⟨_, PSs.nox ((pss_cons (ps_set (i := 2) sc__law_bounds_right.nd rfl (.inl rfl) (pe_call (ok__law_bound T) (hr.mono (by decide)) (by rfl) T.g__law_bound T.F__law_bound.kp (b__law_bound T.F__law_bound) .nil pass0 (pa_cons (pv 0) (pa_cons (pv 1) pa_nil))))
      (pss_cons (ps_set (i := 3) sc__law_bounds_right.nd rfl (.inl rfl) (pe_call (ok__law_bound T) (hr.mono (by decide)) (by rfl) T.g__law_bound T.F__law_bound.kp (b__law_bound T.F__law_bound) .nil pass0 (pa_cons (pv 0) (pa_cons (pv 1) pa_nil))))
      (pss_cons (ps_if (PW.pt (pw_and (pt_cmpR op_notA (pv 2) pe_non (nomark _)) (pw_and (pt_cmpR op_notA (pv 3) pe_non (nomark _)) (pw_and1 (pt_cmpR (op_eqD hr.units) (pe_call (ok__law_take T) (hr.mono (by decide)) (by rfl) T.g__law_take T.F__law_take.kp (b__law_take T.F__law_take) .nil pass0 (pa_cons (pv 0) (pa_cons pe_int pa_nil))) pe_int (nomark _))))))
      (pss_one (ps_set (i := 3) sc__law_bounds_right.nd rfl (.inl rfl) (pe_tup (pa_cons (pe_ix ix_seq (pv 2) pe_int (fun _ _ => rfl)) (pa_cons (pe_ix ix_seq (pv 3) pe_int (fun _ _ => rfl)) pa_nil)))))
      pss_nil)
      (pss_cons (ps_set (i := 4) sc__law_bounds_right.nd rfl (.inl rfl) pe_non)
      (pss_cons (ps_set (i := 5) sc__law_bounds_right.nd rfl (.inl rfl) (pv 2))
      (pss_cons (ps_if (pt_cmpR op_isA (pv 2) pe_non (nomark _))
      (pss_one (ps_set (i := 5) sc__law_bounds_right.nd rfl (.inl rfl) (pv 3)))
      pss_nil)
      (pss_cons (ps_if (PW.pt (pw_and (pt_cmpR op_notA (pv 2) pe_non (nomark _)) (pw_and1 (pt_cmpR op_notA (pv 3) pe_non (nomark _)))))
      (pss_cons (ps_set (i := 4) sc__law_bounds_right.nd rfl (.inl rfl) (pe_tup (pa_cons (pe_op op_addA (pe_ix ix_seq (pv 2) pe_int (fun _ _ => rfl)) (pe_ix ix_seq (pv 3) pe_int (fun _ _ => rfl))) (pa_cons (pe_op op_mulA (pe_ix ix_seq (pv 2) pe_int (fun _ _ => rfl)) (pe_ix ix_seq (pv 3) pe_int (fun _ _ => rfl))) pa_nil))))
      (pss_one (ps_set (i := 5) sc__law_bounds_right.nd rfl (.inl rfl) (pe_callB (call_min2D rfl hr.units) (by rfl) T.z_min (by decide +kernel) (pa_cons (pv 2) (pa_cons (pv 3) pa_nil))))))
      pss_nil)
      (pss_cons (ps_if (pt_not (pt_truth (pe_call (ok__law_same_bound T) (hr.mono (by decide)) (by rfl) T.g__law_same_bound T.F__law_same_bound.kp (b__law_same_bound T.F__law_same_bound) .nil pass0 (pa_cons (pe_call (ok_plus T) (hr.mono (by decide)) (by rfl) T.g_plus T.F_plus.kp (b_plus T.F_plus) .nil pass0 (pa_cons (pv 2) (pa_cons (pv 3) pa_nil))) (pa_cons (pv 4) pa_nil))) (by intro _; rfl)))
      (pss_one (ps_ret pe_bl))
      pss_nil)
      (pss_cons (ps_if (pt_not (pt_truth (pe_call (ok__law_same_bound T) (hr.mono (by decide)) (by rfl) T.g__law_same_bound T.F__law_same_bound.kp (b__law_same_bound T.F__law_same_bound) .nil pass0 (pa_cons (pe_call (ok_tighter T) (hr.mono (by decide)) (by rfl) T.g_tighter T.F_tighter.kp (b_tighter T.F_tighter) .nil pass0 (pa_cons (pv 2) (pa_cons (pv 3) pa_nil))) (pa_cons (pv 5) pa_nil))) (by intro _; rfl)))
      (pss_one (ps_ret pe_bl))
      pss_nil)
      (pss_cons (ps_set (i := 6) sc__law_bounds_right.nd rfl (.inl rfl) (pe_op op_addA pe_int (pe_call (ok__law_take T) (hr.mono (by decide)) (by rfl) T.g__law_take T.F__law_take.kp (b__law_take T.F__law_take) .nil pass0 (pa_cons (pv 0) (pa_cons (pe_ix ix_seq (pe_lst (pa_cons pe_int (pa_cons pe_int (pa_cons pe_int (pa_cons pe_int pa_nil))))) (pe_call (ok__law_take T) (hr.mono (by decide)) (by rfl) T.g__law_take T.F__law_take.kp (b__law_take T.F__law_take) .nil pass0 (pa_cons (pv 0) (pa_cons pe_int pa_nil))) (fun _ _ => rfl)) pa_nil)))))
      (pss_cons (ps_if (pt_cmpR op_isA (pv 2) pe_non (nomark _))
      (pss_one (ps_ret (pe_cmpR op_isA (pe_call (ok_admits T) (hr.mono (by decide)) (by rfl) T.g_admits T.F_admits.kp (b_admits T.F_admits) .nil pass0 (pa_cons pe_non (pa_cons (pv 6) (pa_cons (pe_call (ok__law_number T) (hr.mono (by decide)) (by rfl) T.g__law_number T.F__law_number.kp (b__law_number T.F__law_number) .nil pass0 (pa_cons (pv 0) (pa_cons (pv 1) pa_nil))) pa_nil)))) pe_bl (nomark _))))
      pss_nil)
      (pss_cons (ps_set (i := 7) sc__law_bounds_right.nd rfl (.inl rfl) (pe_op op_mulA (pe_ix ix_seq (pv 2) pe_int (fun _ _ => rfl)) (pv 6)))
      (pss_cons (ps_for PassesOwn.never rfl (pi_any (pe_lst (pa_cons (pe_op op_sub (pv 7) pe_int) (pa_cons (pv 7) (pa_cons (pe_op op_addA (pv 7) pe_int) (pa_cons (pe_call (ok__law_number T) (hr.mono (by decide)) (by rfl) T.g__law_number T.F__law_number.kp (b__law_number T.F__law_number) .nil pass0 (pa_cons (pv 0) (pa_cons (pv 1) pa_nil))) pa_nil)))))) (pg_name (i := 8) sc__law_bounds_right.nd rfl (.inl rfl) (.inr rfl))
      (pss_cons (ps_set (i := 9) sc__law_bounds_right.nd rfl (.inl rfl) (pe_or (pe_cmpR op_ltA (pv 8) (pv 7) (nomark _)) (pe_one (pe_and (pe_cmpR (op_eqD hr.units) (pv 8) (pv 7) (nomark _)) (pe_one (pe_cmpR (op_eqD hr.units) (pe_ix ix_seq (pv 2) pe_int (fun _ _ => rfl)) pe_int (nomark _)))))))
      (pss_cons (ps_set (i := 10) sc__law_bounds_right.nd rfl (.inl rfl) (pe_call (ok_admits T) (hr.mono (by decide)) (by rfl) T.g_admits T.F_admits.kp (b_admits T.F_admits) .nil pass0 (pa_cons (pv 2) (pa_cons (pv 6) (pa_cons (pv 8) pa_nil)))))
      (pss_one (ps_if (PW.pt (pw_or (pt_not (pt_truth (pe_callB call_isi (by rfl) T.z_isinstance (by decide +kernel) (pa_cons (pv 10) (pa_cons (pe_bltn (v := .ty "bool") (by rfl) T.z_bool (by decide +kernel) rfl) pa_nil))) (by intro _; rfl))) (pw_or1 (pt_cmpR (op_neD hr.units) (pv 10) (pv 9) (nomark _)))))
      (pss_one (ps_ret pe_bl))
      pss_nil)))))
      (pss_one (ps_ret pe_bl)))))))))))))))), ?_⟩)
  refine go_fn (L := ["bag", "scale", "first", "second", "both", "least", "unit", "edge", "ticks", "within", "told"]) h (fun b i hp hX => ?_)
  dsimp only [cxOf, L2H.cxH, L2.Cx.nox, L2.Cx.wish]
  
  obtain ⟨x, sc⟩ := i
  have h0 : 0 ≤ x.i := hp
  show GO K b _ ⟨[some (.o 0), some (.d (.int sc)), none, none, none, none, none, none, none, none, none], [.lst x.l]⟩ _
  have bnd : ∀ (b : B) (y : Bg) (ss : List (Option Dw.A)) (cs : List C) (Φ : Dw.A → S → Prop), 0 ≤ y.i → ss[0]? = some (some (.o 0)) → ss[1]? = some (some (.d (.int sc))) → (∀ (o : Option Bd) (y' : Bg), 0 ≤ y'.i → okO o → Φ (.d (bdD o)) ⟨ss, .lst y'.l :: cs⟩) →
      EV K b (tCall (SpB K sp__law_bound) [] E0 (tCons (tVar 0) (tCons (tVar 1) tNil))) ⟨ss, .lst y.l :: cs⟩ Φ := fun b y ss cs Φ hy s0 s1 q => by
    refine ev_call1 (E := fun _ => E0) 0 (ea_cons (ev_var s0 (ea_cons (ev_var s1 (ea_nil ?_)))))
    refine ⟨(y, sc), .lst y.l, [.d (.int sc)], rfl, rfl, rfl, rfl, (fun z => nomatch z), rfl, hy, fun r c' hr => ?_, fun x c' hx => (show False from hx).elim⟩
    obtain ⟨o, y', rfl, e, h1, h2, _⟩ := hr
    cases e
    exact q o y' h1 h2
  have same : ∀ (b : B) (s : S) (t : TA) (o : Option Bd) (Φ : Dw.A → S → Prop), (EA K b t s fun as s1 => as = [.d (bdD o), .d (bdD o)] ∧ Φ (.d (.bool true)) s1) → EV K b (tCall (SpB K sp__law_same_bound) [] E0 t) s Φ := fun b s t o Φ h => by
    refine ev_callV (E := fun _ => E0) ?_
    refine fun σ H tv ta Hd ps R Q k => h σ H tv ta Hd ps R Q fun vs H1 as s1 Hd1 ps1 h1 R1 a1 => k vs H1 as s1 Hd1 ps1 ?_ R1 a1
    obtain ⟨rfl, q⟩ := h1
    exact ⟨o, _, rfl, rfl, rfl, trivial, fun _ _ h => h, fun _ _ h => h, q⟩
  refine go_sAsg (bnd _ x _ _ _ h0 rfl rfl fun o1 y1 q1 k1 => gt_name ?_)
  refine go_sAsg (bnd _ y1 _ _ _ q1 rfl rfl fun o2 y2 q2 k2 => gt_name ?_)
  refine go_mid (fun s => ∃ (o2 : Option Bd) (y : Bg), okO o2 ∧ 0 ≤ y.i ∧ s = ⟨[some (.o 0), some (.d (.int sc)), some (.d (bdD o1)), some (.d (bdD o2)), none, none, none, none, none, none, none], [.lst y.l]⟩) ?_ ?_
  · match o1, o2, k1, k2 with
    | none, o2, _, k2 =>
      rw [show bdD (none : Option Bd) = .none from rfl]
      repeat walk_at "z4"
  
      exact ⟨o2, y2, k2, q2, rfl⟩
    | some (a1, a2), none, _, _ =>
      rw [show bdD (some (a1, a2)) = .tuple [.int a1, .int a2] from rfl, show bdD (none : Option Bd) = .none from rfl]
      repeat walk_at "z4"
  
      exact ⟨none, y2, (fun p h => nomatch h), q2, rfl⟩
    | some (a1, a2), some (b1, b2), _, k2 =>
      rw [show bdD (some (a1, a2)) = .tuple [.int a1, .int a2] from rfl, show bdD (some (b1, b2)) = .tuple [.int b1, .int b2] from rfl]
      repeat walk_at "z4"
      (refine ev_take ?_; repeat walk_at "z1")
      refine ⟨y2, _, _, _, rfl, rfl, q2, by first | decide | omega, fun v y3 q3 v0 v1 => ?_⟩
      repeat walk_at "z1"
  
      repeat walk_at "z4"
  
      refine ⟨fun _ => ?_, fun _ => ?_⟩
      · repeat walk_at "z4"
  
        exact ⟨some (a1, b2), y3, fun p h => by cases h; exact k2 (b1, b2) rfl, q3, rfl⟩
      · repeat walk_at "z4"
  
        exact ⟨some (b1, b2), y3, k2, q3, rfl⟩
  clear k2 q2 q1
  rintro s1 ⟨o2, y3, k2, q3, rfl⟩
  refine go_sAsg (ev_non (gt_name ?_))
  refine go_sAsg (ev_var rfl (gt_name ?_))
  refine go_mid (fun s => s = ⟨[some (.o 0), some (.d (.int sc)), some (.d (bdD o1)), some (.d (bdD o2)), some (.d .none), some (.d (bdD (if lessO o1 none then o1 else o2))), none, none, none, none, none], [.lst y3.l]⟩) ?_ ?_
  · match o1 with
    | none =>
      rw [show bdD (none : Option Bd) = .none from rfl]
      repeat walk_at "z4"
  
      exact rfl
    | some (a1, a2) =>
      rw [show bdD (some (a1, a2)) = .tuple [.int a1, .int a2] from rfl]
      repeat walk_at "z4"
  
      exact rfl
  rintro s1 rfl
  refine go_mid (fun s => s = ⟨[some (.o 0), some (.d (.int sc)), some (.d (bdD o1)), some (.d (bdD o2)), some (.d (bdD (plusO o1 o2))), some (.d (bdD (if lessO o1 o2 then o1 else o2))), none, none, none, none, none], [.lst y3.l]⟩) ?_ ?_
  · match o1, o2, k1, k2 with
    | none, o2, _, _ =>
      rw [show bdD (none : Option Bd) = .none from rfl]
      repeat walk_at "z4"
  
      cases o2 <;> exact rfl
    | some (a1, a2), none, _, _ =>
      rw [show bdD (some (a1, a2)) = .tuple [.int a1, .int a2] from rfl, show bdD (none : Option Bd) = .none from rfl]
      repeat walk_at "z4"
  
      exact rfl
    | some (a1, a2), some (b1, b2), k1, k2 =>
      rw [show bdD (some (a1, a2)) = .tuple [.int a1, .int a2] from rfl, show bdD (some (b1, b2)) = .tuple [.int b1, .int b2] from rfl]
      have w1 : a2 = 0 ∨ a2 = 1 := k1 _ rfl
      have w2 : b2 = 0 ∨ b2 = 1 := k2 _ rfl
      repeat walk_at "z4"
  
      refine vc_min2Bd ?_
      rw [min_less]
      repeat walk_at "z4"
  
      exact rfl
  rintro s1 rfl
  repeat walk_at "z4"
  
  refine same _ _ _ (plusO o1 o2) _ ?_
  repeat walk_at "z4"
  
  refine ev_callV (E := fun _ => E0) ?_
  repeat walk_at "z4"
  
  refine ⟨(o1, o2), _, rfl, rfl, rfl, ⟨k1, k2⟩, fun _ _ h => h, fun _ _ h => h, ?_⟩
  repeat walk_at "z4"
  
  refine same _ _ _ (if lessO o1 o2 then o1 else o2) _ ?_
  repeat walk_at "z4"
  
  refine ev_callV (E := fun _ => E0) ?_
  repeat walk_at "z4"
  
  refine ⟨(o1, o2), _, rfl, rfl, rfl, trivial, fun _ _ h => h, fun _ _ h => h, ?_⟩
  repeat walk_at "z4"
  
  refine ev_take ?_
  repeat walk_at "z4"
  
  refine ev_lst ?_
  repeat walk_at "z4"
  (refine ev_take ?_; repeat walk_at "z1")
  refine ⟨y3, _, _, _, rfl, rfl, q3, by first | decide | omega, fun t y4 q4 t0 t1 => ?_⟩
  repeat walk_at "z1"
  
  obtain ⟨m, hm, m1, m2⟩ : ∃ m : Int, atI (inL [1, 9, 60, 1000]) t = some (.int m) ∧ 1 ≤ m ∧ m ≤ 1000 := by
    have : t = 0 ∨ t = 1 ∨ t = 2 ∨ t = 3 := by omega
    rcases this with rfl | rfl | rfl | rfl
    · exact ⟨_, rfl, by omega, by omega⟩
    · exact ⟨_, rfl, by omega, by omega⟩
    · exact ⟨_, rfl, by omega, by omega⟩
    · exact ⟨_, rfl, by omega, by omega⟩
  refine v2_ixL (ds := inL [1, 9, 60, 1000]) hm ?_
  repeat walk_at "z4"
  
  refine ⟨y4, m, _, _, rfl, rfl, q4, by omega, fun u y5 q5 u0 u1 => ?_⟩
  repeat walk_at "z4"
  
  match o1, k1 with
  | none, k1 =>
    rw [show bdD (none : Option Bd) = .none from rfl]
    repeat walk_at "z4"
  
    refine ev_callV (E := fun _ => E0) ?_
    repeat walk_at "z4"
  
    refine ev_number ?_
    repeat walk_at "z4"
  
    refine ⟨y5, sc, _, _, rfl, rfl, q5, fun c y6 q6 _ _ => ?_⟩
    repeat walk_at "z4"
  
    refine ⟨(none, 1 + u, c), _, rfl, rfl, rfl, ⟨by omega, by omega⟩, fun _ _ h => h, fun _ _ h => h, ?_⟩
    repeat walk_at "z4"
  
    refine v2_isBB ?_
    exact ⟨y6, rfl, rfl, q6⟩
  | some (a1, a2), k1 =>
    have ha2 : a2 = 0 ∨ a2 = 1 := k1 _ rfl
    rw [show bdD (some (a1, a2)) = .tuple [.int a1, .int a2] from rfl]
    repeat walk_at "z4"
  
    refine go_seq (go_for (ei_anyL (ei_list (ev_lst ?_))))
    repeat walk_at "z4"
  
    refine ev_number ?_
    repeat walk_at "z4"
  
    refine ⟨y5, sc, _, _, rfl, rfl, q5, fun c y6 q6 _ _ => ?_⟩
    repeat walk_at "z4"
  
    refine ⟨_, fun _ => True, .inl rfl, trivial, ?_⟩
    refine ⟨fun k s => ∃ x8 x9 x10, s = ⟨[some (.o 0), some (.d (.int sc)), some (.d (.tuple [.int a1, .int a2])), some (.d (bdD o2)), some (.d (bdD (plusO (some (a1, a2)) o2))), some (.d (bdD (if lessO (some (a1, a2)) o2 = true then some (a1, a2) else o2))), some (.d (.int (1 + u))), some (.d (.int (a1 * (1 + u)))), x8, x9, x10], [.lst y6.l]⟩, ⟨none, none, none, rfl⟩, fun _ _ _ _ => trivial, ?_, ?_⟩
    · rintro k v s3 hx ⟨x8, x9, x10, rfl⟩
      obtain ⟨tk, rfl⟩ : ∃ tk : Int, v = .int tk := by
        have := List.mem_of_getElem? hx
        simp only [List.mem_cons, List.not_mem_nil, or_false] at this
        rcases this with rfl | rfl | rfl | rfl <;> exact ⟨_, rfl⟩
      refine gt_name ?_
      have adm : ∀ (b : B) (s : S) (Φ : Dw.A → S → Prop), s.ss[2]? = some (some (.d (.tuple [.int a1, .int a2]))) → s.ss[6]? = some (some (.d (.int (1 + u)))) → s.ss[8]? = some (some (.d (.int tk))) → Φ (.d (.bool (admO (some (a1, a2)) (1 + u) tk))) s → EV K b (tCall (SpB K sp_admits) [] E0 (tCons (tVar 2) (tCons (tVar 6) (tCons (tVar 8) tNil)))) s Φ := fun b s Φ e1 e2 e3 q => by
        refine ev_callV (E := fun _ => E0) (ea_cons (ev_var e1 (ea_cons (ev_var e2 (ea_cons (ev_var e3 (ea_nil ?_)))))))
        exact ⟨(some (a1, a2), 1 + u, tk), _, rfl, rfl, rfl, ⟨by omega, by omega⟩, fun _ _ h => h, fun _ _ h => h, q⟩
      repeat walk_at "z4"
  
      refine ⟨fun z => ?_, fun z => ?_⟩
      · repeat walk_at "z4"
  
        have z := of_decide_eq_true z
        have ev : admO (some (a1, a2)) (1 + u) tk = true := by
          rcases ha2 with rfl | rfl
          · exact decide_eq_true z
          · exact decide_eq_true (Int.le_of_lt z)
        refine adm _ _ _ rfl rfl rfl ?_
        rw [ev]
        repeat walk_at "z4"
  
        exact ⟨_, _, _, rfl⟩
      · have z := of_decide_eq_false z
        repeat walk_at "z4"
  
        refine ⟨fun y => ?_, fun y => ?_⟩
        · have y := of_decide_eq_true y
          have ev : admO (some (a1, a2)) (1 + u) tk = decide (a2 = 1) := by
            rcases ha2 with rfl | rfl
            · exact decide_eq_false z
            · exact decide_eq_true (Int.le_of_eq y)
          repeat walk_at "z4"
  
          refine adm _ _ _ rfl rfl rfl ?_
          rw [ev]
          repeat walk_at "z4"
  
          refine ⟨fun h => by simp at h, fun _ => ?_⟩
          exact go_next ⟨_, _, _, rfl⟩
        · have y := of_decide_eq_false y
          have ev : admO (some (a1, a2)) (1 + u) tk = false := by
            rcases ha2 with rfl | rfl
            · exact decide_eq_false z
            · exact decide_eq_false ((fun X h1 h2 => by omega : ∀ X : Int, ¬ tk < X → ¬ tk = X → ¬ tk ≤ X) _ z y)
          repeat walk_at "z4"
  
          refine adm _ _ _ rfl rfl rfl ?_
          rw [ev]
          repeat walk_at "z4"
  
          exact ⟨_, _, _, rfl⟩
    rintro s3 ⟨x8, x9, x10, rfl⟩
    refine go_next ?_
    refine go_ret (ev_bl ?_)
    exact ⟨y6, rfl, rfl, q6⟩
end
theorem gcd_step {u v k : Nat} (hu : u < 2 ^ 134) (hv : v < 2 ^ 134) (hk : 1 ≤ k → v < u ∧ u * v * 2 ^ (k - 1) < 2 ^ 268) : v * (u % v) * 2 ^ k < 2 ^ 268 := by
  have e268 : (2 : Nat) ^ 268 = 2 ^ 134 * 2 ^ 134 := by rw [← Nat.pow_add]
  rcases Nat.eq_zero_or_pos v with rfl | v1
  · rw [Nat.zero_mul, Nat.zero_mul, e268]
    exact Nat.mul_pos (Nat.pow_pos (by decide)) (Nat.pow_pos (by decide))
  have ml := Nat.mod_lt u v1
  rcases Nat.eq_zero_or_pos k with rfl | k1
  · rw [Nat.pow_zero, Nat.mul_one, e268]
    exact Nat.mul_lt_mul'' hv (by omega)
  · obtain ⟨h1, h2⟩ := hk k1
    have d := Nat.div_add_mod u v
    have dp : 1 ≤ u / v := Nat.div_pos (by omega) v1
    have dv : v * 1 ≤ v * (u / v) := Nat.mul_le_mul_left v dp
    have m2 : u % v * 2 ≤ u := by omega
    have q : v * (u % v) * 2 ≤ u * v := by
      rw [Nat.mul_assoc, Nat.mul_comm u v]
      exact Nat.mul_le_mul_left v m2
    have e : (2 : Nat) ^ k = 2 * 2 ^ (k - 1) := by
      rw [← Nat.pow_succ', Nat.succ_eq_add_one, Nat.sub_add_cancel k1]
    rw [e, ← Nat.mul_assoc]
    exact Nat.lt_of_le_of_lt (Nat.mul_le_mul_right _ q) h2
theorem gcd_few {u v k : Nat} (v1 : 0 < v) (hk : 1 ≤ k → v < u ∧ u * v * 2 ^ (k - 1) < 2 ^ 268) : k + 1 ≤ 300 := by
  rcases Nat.lt_or_ge k 299 with l | l
  · omega
  · obtain ⟨h1, h2⟩ := hk (by omega)
    have : 1 * 2 ^ 298 ≤ u * v * 2 ^ (k - 1) := Nat.mul_le_mul (Nat.mul_pos (by omega) v1) (Nat.pow_le_pow_right (by decide) (by omega))
    have : (2 : Nat) ^ 268 ≤ 2 ^ 298 := Nat.pow_le_pow_right (by decide) (by decide)
    omega
def sp__law_gcd : Spc where
  I := Nat × Nat
  args := fun (a, b) => [.d (.int a), .d (.int b)]
  cells := fun _ => []
  pre := fun (a, b) => a < 2 ^ 134 ∧ b < 2 ^ 134
  post := fun (a, b) r _ => r = .val (.int (Nat.gcd a b : Nat))
section
variable {P : Program} {w : World} {K : PySem.W.Frag} {mg : Str → Option Value} {base : Heap}
theorem ok__law_gcd (T : Tx P K mg) : FnOk P w K mg base CX0 1 T.a__law_gcd T.d__law_gcd ["a", "b"] (SpB K sp__law_gcd) := by
  refine T.F__law_gcd.ok sc__law_gcd (fun vs H Q E h => spB_len h (fun _ => rfl)) (fun cdv A outer s H vs Q E hr h => ⟨_, PSs.nox ((pss_cons (ps_for PassesOwn.never rfl (pi_range1 (by rfl) T.z_range (pa_cons pe_int pa_nil)) (pg_name (i := 2) sc__law_gcd.nd rfl (.inl rfl) (.inr rfl))
      (pss_cons (ps_if (pt_cmpR (op_eqD hr.units) (pv 1) pe_int (nomark _))
      (pss_one (ps_ret (pv 0)))
      pss_nil)
      (pss_cons (ps_set (i := 3) sc__law_gcd.nd rfl (.inl rfl) (pe_op op_mod (pe_callTy call_int1 (by rfl) T.z_int (by decide +kernel) (pa_cons (pv 0) pa_nil)) (pv 1)))
      (pss_cons (ps_set (i := 0) sc__law_gcd.nd rfl (.inl rfl) (pv 1))
      (pss_one (ps_set (i := 1) sc__law_gcd.nd rfl (.inl rfl) (pv 3)))))))
      (pss_one (ps_ret pe_int)))), ?_⟩)
  refine go_fn (L := ["a", "b", "lap", "rest"]) h (fun b i hp hX => ?_)
  dsimp only [cxOf, L2H.cxH, L2.Cx.nox, L2.Cx.wish]
  
  obtain ⟨a, c⟩ := i
  obtain ⟨ha, hc⟩ := hp
  have e400 : (400 : Int).toNat = 400 := rfl
  show GO K b _ ⟨[some (.d (.int a)), some (.d (.int c)), none, none], []⟩ _
  refine go_seq (go_for (ei_r1 ?_))
  repeat walk_at "z4"
  
  refine ⟨by decide, by decide, ?_⟩
  refine ⟨fun k s => ∃ (u v : Nat) (x2 x3 : Option Dw.A), Nat.gcd u v = Nat.gcd a c ∧ u < 2 ^ 134 ∧ v < 2 ^ 134 ∧ (1 ≤ k → v < u ∧ u * v * 2 ^ (k - 1) < 2 ^ 268) ∧ k ≤ 300 ∧ s = ⟨[some (.d (.int u)), some (.d (.int v)), x2, x3], []⟩, ⟨a, c, none, none, rfl, ha, hc, fun h => absurd h (by omega), by omega, rfl⟩, fun _ _ _ _ => trivial, ?_, ?_⟩
  · rintro k z s2 hx ⟨u, v, x2, x3, hg, hu, hv, hk, h3, rfl⟩
    refine gt_name ?_
    repeat walk_at "z4"
  
    refine ⟨fun z => ?_, fun z => ?_⟩
    · repeat walk_at "z4"
  
      have z : (v : Int) = 0 := of_decide_eq_true z
      have z : v = 0 := by omega
      subst z
      rw [Nat.gcd_zero_right] at hg
      show Rv.val (.int (u : Nat)) = Rv.val (.int (Nat.gcd a c : Nat))
      rw [← hg]
    have z : ¬ (v : Int) = 0 := of_decide_eq_false z
    have v1 : 0 < v := by omega
    repeat walk_at "z4"
  
    have em : (u : Int) % (v : Int) = ((u % v : Nat) : Int) := rfl
    have ml := Nat.mod_lt u v1
    refine ⟨v, u % v, _, _, ?_, hv, by omega, fun _ => ⟨ml, ?_⟩, ?_, rfl⟩
    · rw [← hg, Nat.gcd_comm u v, Nat.gcd_rec v u, Nat.gcd_comm]
    · exact gcd_step hu hv hk
    · exact gcd_few v1 hk
  rintro s2 ⟨u, v, x2, x3, hg, hu, hv, hk, h3, rfl⟩
  exact absurd h3 (by decide)
end
theorem mul_bd {c u : Int} (c0 : -(10 ^ 36) ≤ c) (c1 : c ≤ 10 ^ 36) (u0 : 0 ≤ u) (u1 : u ≤ 999) : (c * (1 + u)).natAbs < 2 ^ 134 := by
  rw [Int.natAbs_mul]
  have h1 : c.natAbs ≤ 10 ^ 36 := by omega
  have h2 : (1 + u).natAbs ≤ 1000 := by omega
  exact Nat.lt_of_le_of_lt (Nat.mul_le_mul h1 h2) (by decide)
def sp__law_lowest_right : Spc where
  I := Bg × Int
  args := fun (x, sc) => [.o 0, .d (.int sc)]
  cells := fun (x, _) => [.lst x.l]
  pre := fun (x, _) => 0 ≤ x.i
  post := fun _ r _ => r = .val (.bool true)
section
variable {P : Program} {w : World} {K : PySem.W.Frag} {mg : Str → Option Value} {base : Heap}
theorem ok__law_lowest_right (T : Tx P K mg) : FnOk P w K mg base CX0 3 T.a__law_lowest_right T.d__law_lowest_right ["bag", "scale"] (SpB K sp__law_lowest_right) := by
  refine T.F__law_lowest_right.ok sc__law_lowest_right (fun vs H Q E h => spB_len h (fun _ => rfl)) (fun cdv A outer s H vs Q E hr h => ⟨_, PSs.nox ((pss_cons (ps_set (i := 2) sc__law_lowest_right.nd rfl (.inl rfl) (pe_op op_addA pe_int (pe_call (ok__law_take T) (hr.mono (by decide)) (by rfl) T.g__law_take T.F__law_take.kp (b__law_take T.F__law_take) .nil pass0 (pa_cons (pv 0) (pa_cons (pe_ix ix_seq (pe_lst (pa_cons pe_int (pa_cons pe_int (pa_cons pe_int pa_nil)))) (pe_call (ok__law_take T) (hr.mono (by decide)) (by rfl) T.g__law_take T.F__law_take.kp (b__law_take T.F__law_take) .nil pass0 (pa_cons (pv 0) (pa_cons pe_int pa_nil))) (fun _ _ => rfl)) pa_nil)))))
      (pss_cons (ps_set (i := 3) sc__law_lowest_right.nd rfl (.inl rfl) (pe_op op_mulA (pe_call (ok__law_number T) (hr.mono (by decide)) (by rfl) T.g__law_number T.F__law_number.kp (b__law_number T.F__law_number) .nil pass0 (pa_cons (pv 0) (pa_cons (pv 1) pa_nil))) (pv 2)))
      (pss_cons (ps_set (i := 4) sc__law_lowest_right.nd rfl (.inl rfl) (pe_op op_mulA (pe_call (ok__law_number T) (hr.mono (by decide)) (by rfl) T.g__law_number T.F__law_number.kp (b__law_number T.F__law_number) .nil pass0 (pa_cons (pv 0) (pa_cons (pv 1) pa_nil))) (pv 2)))
      (pss_cons (ps_if (pt_cmpR (op_neD hr.units) (pv 4) pe_int (nomark _))
      (pss_cons (ps_set (i := 5) sc__law_lowest_right.nd rfl (.inl rfl) (pe_call (ok_lowest T) (hr.mono (by decide)) (by rfl) T.g_lowest T.F_lowest.kp (b_lowest T.F_lowest) .nil passN (pa_cons (pv 3) (pa_cons (pv 4) pa_nil))))
      (pss_cons (ps_set (i := 6) sc__law_lowest_right.nd rfl (.inl rfl) (pe_call (ok__law_gcd T) (hr.mono (by decide)) (by rfl) T.g__law_gcd T.F__law_gcd.kp (b__law_gcd T.F__law_gcd) .nil pass0 (pa_cons (pe_callB call_abs (by rfl) T.z_abs (by decide +kernel) (pa_cons (pv 3) pa_nil)) (pa_cons (pe_callB call_abs (by rfl) T.z_abs (by decide +kernel) (pa_cons (pv 4) pa_nil)) pa_nil))))
      (pss_cons (ps_if (pt_cmpR op_ltA (pv 4) pe_int (nomark _))
      (pss_one (ps_set (i := 6) sc__law_lowest_right.nd rfl (.inl rfl) (pe_un un_neg (pv 6))))
      pss_nil)
      (pss_one (ps_if (pt_not (pt_truth (pe_call (ok__law_same_bound T) (hr.mono (by decide)) (by rfl) T.g__law_same_bound T.F__law_same_bound.kp (b__law_same_bound T.F__law_same_bound) .nil pass0 (pa_cons (pv 5) (pa_cons (pe_tup (pa_cons (pe_op op_fdivWN (pv 3) (pv 6)) (pa_cons (pe_op op_fdivWN (pv 4) (pv 6)) pa_nil))) pa_nil))) (by intro _; rfl)))
      (pss_one (ps_ret pe_bl))
      pss_nil)))))
      pss_nil)
      (pss_cons (L2N.ps_try_as (i := 7) (Wout := fun _ _ _ _ => False) rfl rfl sc__law_lowest_right.nd rfl rfl ⟨rfl, by decide, .inl T.gc_DwellError⟩ takesN
      (fun W pn xe tk po => (pss_one (ps_expr (pe_callS (ok_lowest T) (hr.mono (by decide)) (by rfl) T.g_lowest T.F_lowest.kp (b_lowest T.F_lowest) (fun σ => L2N.passAt tk σ) (by exact (pa_cons (pv 3) (pa_cons pe_int pa_nil)))))))
      (fun a oe cls d pn hz hf => pss_guard (p := cls = .ref (clsA cls) ∧ ExcC K (clsA cls)) (fun hP => (pss_one (ps_ret (pe_and (pe_callB (call_isY (K := K) rfl hP.2 hP.1 hz hf) (by rfl) T.z_isinstance (by decide +kernel) (by exact (pa_cons (pv 7) (pa_cons (pe_glob (v := .ref T.c_BadValue) rfl T.gc_BadValue rfl) pa_nil)))) (pe_one (pe_notTK (K := K) rfl (pe_callB (call_isYT (K := K) rfl hP.2 hP.1 hz hf) (by rfl) T.z_isinstance (by decide +kernel) (by exact (pa_cons (pv 7) (pa_cons (pe_tup (pa_cons (pe_glob (v := .ref T.c_BadLimit) rfl T.gc_BadLimit rfl) (pa_cons (pe_glob (v := .ref T.c_BadVariable) rfl T.gc_BadVariable rfl) (pa_cons (pe_glob (v := .ref T.c_Unsolvable) rfl T.gc_Unsolvable rfl) pa_nil)))) pa_nil))))))))))))
      (pss_one (ps_ret pe_bl)))))))), ?_⟩)
  refine go_fn (L := ["bag", "scale", "factor", "n", "d", "told", "part", "e"]) h (fun b i hp hX => ?_)
  dsimp only [cxOf, L2H.cxH, L2.Cx.nox, L2.Cx.wish]
  
  obtain ⟨x, sc⟩ := i
  have h0 : 0 ≤ x.i := hp
  show GO K b _ ⟨[some (.o 0), some (.d (.int sc)), none, none, none, none, none, none], [.lst x.l]⟩ _
  repeat walk_at "z4"
  
  refine ev_take ?_
  repeat walk_at "z4"
  
  refine ev_lst ?_
  repeat walk_at "z4"
  (refine ev_take ?_; repeat walk_at "z1")
  refine ⟨x, _, _, _, rfl, rfl, h0, by first | decide | omega, fun t y4 q4 t0 t1 => ?_⟩
  repeat walk_at "z1"
  
  obtain ⟨m, hm, m1, m2⟩ : ∃ m : Int, atI (inL [1, 7, 1000]) t = some (.int m) ∧ 1 ≤ m ∧ m ≤ 1000 := by
    have : t = 0 ∨ t = 1 ∨ t = 2 := by omega
    rcases this with rfl | rfl | rfl
    · exact ⟨_, rfl, by omega, by omega⟩
    · exact ⟨_, rfl, by omega, by omega⟩
    · exact ⟨_, rfl, by omega, by omega⟩
  refine v2_ixL (ds := inL [1, 7, 1000]) hm ?_
  repeat walk_at "z4"
  
  refine ⟨y4, m, _, _, rfl, rfl, q4, by omega, fun u y5 q5 u0 u1 => ?_⟩
  repeat walk_at "z4"
  
  refine ev_number ?_
  repeat walk_at "z4"
  
  refine ⟨y5, sc, _, _, rfl, rfl, q5, fun c y6 q6 c0 c1 => ?_⟩
  repeat walk_at "z4"
  
  refine ev_number ?_
  repeat walk_at "z4"
  
  refine ⟨y6, sc, _, _, rfl, rfl, q6, fun e y7 q7 e0 e1 => ?_⟩
  obtain ⟨n, hn⟩ : ∃ n, c * (1 + u) = n := ⟨_, rfl⟩
  obtain ⟨d, hd⟩ : ∃ d, e * (1 + u) = d := ⟨_, rfl⟩
  have bn : n.natAbs < 2 ^ 134 := by rw [← hn]; exact mul_bd c0 c1 u0 (by omega)
  have bd : d.natAbs < 2 ^ 134 := by rw [← hd]; exact mul_bd e0 e1 u0 (by omega)
  repeat walk_at "z1"
  
  rw [hn, hd]
  show GO K b _ ⟨[some (.o 0), some (.d (.int sc)), some (.d (.int (1 + u))), some (.d (.int n)), some (.d (.int d)), none, none, none], [.lst y7.l]⟩ _
  have g2 : (2 : Nat) ^ 134 ≤ 2 ^ 300 := Nat.pow_le_pow_right (by decide) (by decide)
  have g3 : (2 : Nat) ^ 300 ≤ 2 ^ 400 := Nat.pow_le_pow_right (by decide) (by decide)
  refine go_mid (fun s => ∃ x5 x6, s = ⟨[some (.o 0), some (.d (.int sc)), some (.d (.int (1 + u))), some (.d (.int n)), some (.d (.int d)), x5, x6, none], [.lst y7.l]⟩) ?_ ?_
  · repeat walk_at "z4"
  
    refine ⟨fun z => ?_, fun z => ?_⟩
    rotate_left
    · repeat walk_at "z4"
  
      exact ⟨_, _, rfl⟩
    have dz : d ≠ 0 := by simpa using z
    repeat walk_at "z4"
  
    refine ev_call0 (E := fun _ => E0) ?_
    repeat walk_at "z4"
  
    refine ⟨(n, d), rfl, rfl, rfl, Nat.lt_of_lt_of_le bd g2, fun r os' hr => ?_, fun x os' hx => absurd hx.1 dz⟩
    obtain ⟨_, rfl⟩ := hr
    refine gt_name ?_
    repeat walk_at "z4"
  
    refine ev_callV (E := fun _ => E0) ?_
    repeat walk_at "z4"
  
    rw [show (if n < 0 then -n else n) = ((n.natAbs : Nat) : Int) by split <;> omega, show (if d < 0 then -d else d) = ((d.natAbs : Nat) : Int) by split <;> omega]
    refine ⟨(n.natAbs, d.natAbs), _, rfl, rfl, rfl, ⟨bn, bd⟩, fun _ _ h => h, fun _ _ h => h, ?_⟩
    refine gt_name ?_
    have g0 : Nat.gcd n.natAbs d.natAbs ≠ 0 := fun e => dz (by have := (Nat.gcd_eq_zero_iff.mp e).2; omega)
    have g1 : Nat.gcd n.natAbs d.natAbs ≤ d.natAbs := Nat.le_of_dvd (by omega) (Nat.gcd_dvd_right _ _)
    refine go_mid (fun s => s = ⟨[some (.o 0), some (.d (.int sc)), some (.d (.int (1 + u))), some (.d (.int n)), some (.d (.int d)), some (.d (.tuple [.int (n.fdiv (shr n d)), .int (d.fdiv (shr n d))])), some (.d (.int (shr n d))), none], [.lst y7.l]⟩) ?_ ?_
    · repeat walk_at "z4"
  
      refine ⟨fun y => ?_, fun y => ?_⟩
      · have y : d < 0 := of_decide_eq_true y
        rw [show shr n d = -((Nat.gcd n.natAbs d.natAbs : Nat) : Int) from if_pos y]
        repeat walk_at "z4"
  
        exact rfl
      · have y : ¬ d < 0 := of_decide_eq_false y
        rw [show shr n d = ((Nat.gcd n.natAbs d.natAbs : Nat) : Int) from if_neg y]
        repeat walk_at "z4"
  
        exact rfl
    rintro s1 rfl
    have cd : ∀ i : Int, CDivWN i (shr n d) := fun i => cdwn (by unfold shr; split <;> omega) (by unfold shr; split <;> omega)
    repeat walk_at "z4"
  
    refine ev_callV (E := fun _ => E0) ?_
    repeat walk_at "z4"
  
    refine v2_ic (C := CDivWN) (cd _) ?_
    repeat walk_at "z4"
  
    refine v2_ic (C := CDivWN) (cd _) ?_
    repeat walk_at "z4"
  
    refine ⟨some (n.fdiv (shr n d), d.fdiv (shr n d)), _, rfl, rfl, rfl, trivial, fun _ _ h => h, fun _ _ h => h, ?_⟩
    repeat walk_at "z4"
  
    exact ⟨_, _, rfl⟩
  rintro s1 ⟨x5, x6, rfl⟩
  refine go_seq ?_
  refine go_tryC (fun x s => x = ⟨.ref T.c_BadValue, none⟩ ∧ s = ⟨[some (.o 0), some (.d (.int sc)), some (.d (.int (1 + u))), some (.d (.int n)), some (.d (.int d)), x5, x6, none], [.lst y7.l]⟩) (fun b' W hW => ?_) ?_
  · refine go_drop (ev_S (ev_call0 ?_))
    repeat walk_at "z4"
  
    refine ⟨(n, 0), rfl, rfl, rfl, show (0 : Int).natAbs < 2 ^ 300 from Nat.pow_pos (by decide), fun r os' hr' => absurd rfl hr'.1, fun x os' hx d σ H' tv ta Hd' ps' R hd => ?_⟩
    obtain ⟨_, rfl⟩ := hx
    exact hW _ d σ H' _ tv ta Hd' ps' ⟨rfl, rfl⟩ R hd
  rintro x s1 ⟨rfl, rfl⟩
  refine ⟨T.em_BadValue_DwellError, fun aa d => go_guard ⟨rfl, T.ec_BadValue⟩ ?_⟩
  dsimp only [clsA]
  have k1 := T.k_BadValue_BadValue
  have k3 := T.k_BadValue_BadLimit
  have k4 := T.k_BadValue_BadVariable
  have k5 := T.k_BadValue_Unsolvable
  repeat walk_at "z4"
  
  exact rfl
end
theorem dst_ok {ls : List Lm} {a v : Nat} {o : Option Bd} (hw : W01 ls) (h : Dst ls a v o) : okO o := fun p hp => by
  obtain ⟨es, w, rfl⟩ := h.wy p hp
  obtain ⟨_, _, h3⟩ := wSW fun l hl => hw l (w.mem l hl)
  show wW es = 0 ∨ wW es = 1
  omega
def sp_law (K : PySem.W.Frag) : Spc where
  I := List Int
  args := fun ns => [scrP K ns]
  cells := fun _ => []
  pre := fun _ => True
  post := fun _ r _ => r = .val (.bool true)
section
variable {P : Program} {w : World} {K : PySem.W.Frag} {mg : Str → Option Value} {base : Heap}
theorem ok_law (T : Tx P K mg) : FnOk P w K mg base CX0 7 T.a_law T.d_law ["script"] (SpB K (sp_law K)) := by
  refine T.F_law.ok sc_law (fun vs H Q E h => spB_len h (fun _ => rfl)) (fun cdv A outer s H vs Q E hr h => ⟨_, PSs.nox ((pss_cons (ps_set (i := 1) sc_law.nd rfl (.inl rfl) (pe_call (ok__law_bag T) (hr.mono (by decide)) (by rfl) T.g__law_bag T.F__law_bag.kp (b__law_bag T.F__law_bag) .nil pass0 (pa_cons (pv 0) pa_nil)))
      (pss_cons (ps_set (i := 2) sc_law.nd rfl (.inl rfl) (pe_call (ok__law_count T) (hr.mono (by decide)) (by rfl) T.g__law_count T.F__law_count.kp (b__law_count T.F__law_count) .nil pass0 (pa_cons (pv 1) pa_nil)))
      (pss_cons (ps_set (i := 3) sc_law.nd rfl (.inl rfl) (pe_ix ix_seq (pe_lst (pa_cons pe_int (pa_cons pe_int (pa_cons pe_int (pa_cons pe_int (pa_cons pe_int pa_nil)))))) (pe_call (ok__law_take T) (hr.mono (by decide)) (by rfl) T.g__law_take T.F__law_take.kp (b__law_take T.F__law_take) .nil pass0 (pa_cons (pv 1) (pa_cons pe_int pa_nil))) (fun _ _ => rfl)))
      (pss_cons (ps_set (i := 4) sc_law.nd rfl (.inl rfl) (pe_call (ok__law_system T) (hr.mono (by decide)) (by rfl) T.g__law_system T.F__law_system.kp (b__law_system T.F__law_system) .nil pass0 (pa_cons (pv 1) (pa_cons (pv 2) (pa_cons (pv 3) pa_nil)))))
      (pss_cons (ps_set (i := 5) sc_law.nd rfl (.inl rfl) (pe_call (ok__law_take T) (hr.mono (by decide)) (by rfl) T.g__law_take T.F__law_take.kp (b__law_take T.F__law_take) .nil pass0 (pa_cons (pv 1) (pa_cons (pv 2) pa_nil))))
      (pss_cons (ps_set (i := 6) sc_law.nd rfl (.inl rfl) (pe_call (ok__law_take T) (hr.mono (by decide)) (by rfl) T.g__law_take T.F__law_take.kp (b__law_take T.F__law_take) .nil pass0 (pa_cons (pv 1) (pa_cons (pv 2) pa_nil))))
      (pss_cons (ps_if (PW.pt (pw_and (pt_cmpR (op_eqD hr.units) (pv 6) (pv 5) (nomark _)) (pw_and (pt_cmpR op_gtA (pv 2) pe_int (nomark _)) (pw_and1 (pt_cmpR op_gtA (pe_call (ok__law_take T) (hr.mono (by decide)) (by rfl) T.g__law_take T.F__law_take.kp (b__law_take T.F__law_take) .nil pass0 (pa_cons (pv 1) (pa_cons pe_int pa_nil))) pe_int (nomark _))))))
      (pss_one (ps_set (i := 6) sc_law.nd rfl (.inl rfl) (pe_op op_mod (pe_op op_addA (pe_op op_addA (pv 5) pe_int) (pe_call (ok__law_take T) (hr.mono (by decide)) (by rfl) T.g__law_take T.F__law_take.kp (b__law_take T.F__law_take) .nil pass0 (pa_cons (pv 1) (pa_cons (pe_op op_sub (pv 2) pe_int) pa_nil)))) (pv 2))))
      pss_nil)
      (pss_cons (ps_set (i := 7) sc_law.nd rfl (.inl rfl) (pe_call (ok__law_least T) (hr.mono (by decide)) (by rfl) T.g__law_least T.F__law_least.kp (b__law_least T.F__law_least) .nil pass0 (pa_cons (pv 2) (pa_cons (pv 4) (pa_cons (pv 5) pa_nil)))))
      (pss_cons (ps_set (i := 8) sc_law.nd rfl (.inl rfl) (pe_call (ok__law_least T) (hr.mono (by decide)) (by rfl) T.g__law_least T.F__law_least.kp (b__law_least T.F__law_least) .nil pass0 (pa_cons (pv 2) (pa_cons (pv 4) (pa_cons (pv 6) pa_nil)))))
      (pss_cons (ps_if (pt_not (pt_truth (pe_call (ok__law_span_is T) (hr.mono (by decide)) (by rfl) T.g__law_span_is T.F__law_span_is.kp (b__law_span_is T.F__law_span_is) .nil pass0 (pa_cons (pv 2) (pa_cons (pv 4) (pa_cons (pv 5) (pa_cons (pv 6) (pa_cons (pe_ix ix_seq (pv 8) (pv 5) (fun _ _ => rfl)) (pa_cons (pe_ix ix_seq (pv 7) (pv 6) (fun _ _ => rfl)) pa_nil))))))) (by intro _; rfl)))
      (pss_one (ps_ret pe_bl))
      pss_nil)
      (pss_cons (ps_if (pt_cmpR op_geA (pv 2) pe_int (nomark _))
      (pss_one (ps_ret pe_bl))
      pss_nil)
      (pss_cons (ps_if (pt_cmpR (op_eqD hr.units) (pe_call (ok__law_take T) (hr.mono (by decide)) (by rfl) T.g__law_take T.F__law_take.kp (b__law_take T.F__law_take) .nil pass0 (pa_cons (pv 1) (pa_cons pe_int pa_nil))) pe_int (nomark _))
      (pss_one (ps_if (pt_not (pt_truth (pe_call (ok__law_end_exact T) (hr.mono (by decide)) (by rfl) T.g__law_end_exact T.F__law_end_exact.kp (b__law_end_exact T.F__law_end_exact) .nil pass0 (pa_cons (pv 1) (pa_cons (pv 2) (pa_cons (pv 4) (pa_cons (pv 5) (pa_cons (pv 6) (pa_cons (pe_ix ix_seq (pv 7) (pv 6) (fun _ _ => rfl)) pa_nil))))))) (by intro _; rfl)))
      (pss_one (ps_ret pe_bl))
      pss_nil))
      (pss_one (ps_if (pt_not (pt_truth (pe_call (ok__law_end_exact T) (hr.mono (by decide)) (by rfl) T.g__law_end_exact T.F__law_end_exact.kp (b__law_end_exact T.F__law_end_exact) .nil pass0 (pa_cons (pv 1) (pa_cons (pv 2) (pa_cons (pv 4) (pa_cons (pv 6) (pa_cons (pv 5) (pa_cons (pe_ix ix_seq (pv 8) (pv 5) (fun _ _ => rfl)) pa_nil))))))) (by intro _; rfl)))
      (pss_one (ps_ret pe_bl))
      pss_nil)))
      (pss_cons (ps_set (i := 9) sc_law.nd rfl (.inl rfl) (pe_call (ok__law_mixed T) (hr.mono (by decide)) (by rfl) T.g__law_mixed T.F__law_mixed.kp (b__law_mixed T.F__law_mixed) .nil pass0 (pa_cons (pv 1) (pa_cons (pv 4) (pa_cons (pe_call (ok__law_cycle T) (hr.mono (by decide)) (by rfl) T.g__law_cycle T.F__law_cycle.kp (b__law_cycle T.F__law_cycle) .nil pass0 (pa_cons (pv 1) (pa_cons (pv 2) (pa_cons (pv 3) pa_nil)))) pa_nil)))))
      (pss_cons (ps_if (pt_cmpR op_gtA (pv 2) pe_int (nomark _))
      (pss_cons (ps_set (i := 10) sc_law.nd rfl (.inl rfl) (pv 6))
      (pss_cons (ps_if (pt_cmpR (op_eqD hr.units) (pv 10) (pv 5) (nomark _))
      (pss_one (ps_set (i := 10) sc_law.nd rfl (.inl rfl) (pe_op op_mod (pe_op op_addA (pv 5) pe_int) (pv 2))))
      pss_nil)
      (pss_one (ps_if (pt_not (pt_truth (pe_call (ok__law_unsolvable T) (hr.mono (by decide)) (by rfl) T.g__law_unsolvable T.F__law_unsolvable.kp (b__law_unsolvable T.F__law_unsolvable) .nil pass0 (pa_cons (pv 2) (pa_cons (pv 9) (pa_cons (pv 5) (pa_cons (pv 10) pa_nil))))) (by intro _; rfl)))
      (pss_one (ps_ret pe_bl))
      pss_nil))))
      pss_nil)
      (pss_cons (ps_if (pt_cmpR (op_eqD hr.units) (pe_call (ok__law_take T) (hr.mono (by decide)) (by rfl) T.g__law_take T.F__law_take.kp (b__law_take T.F__law_take) .nil pass0 (pa_cons (pv 1) (pa_cons pe_int pa_nil))) pe_int (nomark _))
      (pss_one (ps_set (i := 9) sc_law.nd rfl (.inl rfl) (pv 4)))
      pss_nil)
      (pss_cons (ps_if (pt_not (pt_truth (pe_call (ok__law_refuses T) (hr.mono (by decide)) (by rfl) T.g__law_refuses T.F__law_refuses.kp (b__law_refuses T.F__law_refuses) .nil pass0 (pa_cons (pv 1) (pa_cons (pv 2) (pa_cons (pv 9) (pa_cons (pv 5) (pa_cons (pv 6) pa_nil)))))) (by intro _; rfl)))
      (pss_one (ps_ret pe_bl))
      pss_nil)
      (pss_one (ps_ret (pe_and (pe_call (ok__law_bounds_right T) (hr.mono (by decide)) (by rfl) T.g__law_bounds_right T.F__law_bounds_right.kp (b__law_bounds_right T.F__law_bounds_right) .nil pass0 (pa_cons (pv 1) (pa_cons (pv 3) pa_nil))) (pe_one (pe_call (ok__law_lowest_right T) (hr.mono (by decide)) (by rfl) T.g__law_lowest_right T.F__law_lowest_right.kp (b__law_lowest_right T.F__law_lowest_right) .nil pass0 (pa_cons (pv 1) (pa_cons (pv 3) pa_nil)))))))))))))))))))))))), ?_⟩)
  refine go_fn (L := ["script", "bag", "count", "scale", "rows", "late", "early", "over", "under", "mixed", "other"]) h (fun b i hp hX => ?_)
  dsimp only [cxOf, L2H.cxH, L2.Cx.nox, L2.Cx.wish]
  
  show GO K b _ ⟨[some (scrP K i), none, none, none, none, none, none, none, none, none, none], []⟩ _
  repeat walk_at "z4"
  
  refine ev_call0 (E := fun _ => E0) (ea_cons (ev_var rfl (ea_nil ?_)))
  refine ⟨i, rfl, rfl, rfl, trivial, fun r os' hr => ?_, fun x os' hx => (show False from hx).elim⟩
  obtain ⟨x, rfl, h0⟩ := hr
  refine gt_name ?_
  refine go_sAsg (ev_count (ea_cons (ev_var rfl (ea_nil ?_))))
  refine ⟨x, _, _, rfl, rfl, h0, fun n y1 q1 n1 n2 => ?_⟩
  obtain ⟨n, rfl⟩ : ∃ n' : Nat, n = n' := ⟨n.toNat, by omega⟩
  refine gt_name ?_
  refine go_sAsg (ev_op (ev_lst ?_))
  repeat walk_at "z4"
  
  refine ev_take (ea_cons (ev_var rfl (ea_cons (ev_int (ea_nil ?_)))))
  refine ⟨y1, 5, _, _, rfl, rfl, q1, ⟨by decide, by decide⟩, fun m y2 q2 m0 m1 => ?_⟩
  obtain ⟨sc, hsc⟩ : ∃ e : Int, atI (inL [0, 0, 0, 1, 2]) m = some (.int e) := by
    have : m = 0 ∨ m = 1 ∨ m = 2 ∨ m = 3 ∨ m = 4 := by omega
    rcases this with rfl | rfl | rfl | rfl | rfl <;> exact ⟨_, rfl⟩
  refine v2_ixL (ds := inL [0, 0, 0, 1, 2]) hsc ?_
  refine gt_name ?_
  refine go_sAsg (ev_call1 (E := fun _ => E0) 0 (ea_cons (ev_var rfl (ea_cons (ev_var rfl (ea_cons (ev_var rfl (ea_nil ?_))))))))
  refine ⟨(y2, n, sc), .lst y2.l, [.d (.int n), .d (.int sc)], rfl, rfl, rfl, rfl, (fun z => nomatch z), rfl, ⟨q2, by omega, by omega⟩, fun r c' hr => ?_, fun x c' hx => (show False from hx).elim⟩
  obtain ⟨rs, y3, rfl, e, q3, r1, r2, r3, r4⟩ := hr
  cases e
  refine gt_name ?_
  show GO K b _ ⟨[some (scrP K i), some (.o 0), some (.d (.int n)), some (.d (.int sc)), some (.d (.list (lmsD rs))), none, none, none, none, none, none], [.lst y3.l]⟩ _
  repeat walk_at "z1"
  
  refine ev_take ?_
  repeat walk_at "z1"
  
  refine ⟨y3, n, _, _, rfl, rfl, q3, by omega, fun la y4 q4 la0 la1 => ?_⟩
  obtain ⟨la, rfl⟩ : ∃ a : Nat, la = a := ⟨la.toNat, by omega⟩
  repeat walk_at "z1"
  
  refine ev_take ?_
  repeat walk_at "z1"
  
  refine ⟨y4, n, _, _, rfl, rfl, q4, by omega, fun ea y5 q5 ea0 ea1 => ?_⟩
  obtain ⟨ea, rfl⟩ : ∃ a : Nat, ea = a := ⟨ea.toNat, by omega⟩
  repeat walk_at "z1"
  
  refine go_mid (fun s => ∃ (e : Nat) (y : Bg), e < n ∧ 0 ≤ y.i ∧ s = ⟨[some (scrP K i), some (.o 0), some (.d (.int n)), some (.d (.int sc)), some (.d (.list (lmsD rs))), some (.d (.int (la : Nat))), some (.d (.int (e : Nat))), none, none, none, none], [.lst y.l]⟩) ?_ ?_
  · repeat walk_at "z4"
  
    refine ⟨fun z1 => ?_, fun z1 => ?_⟩
    rotate_left
    · repeat walk_at "z4"
  
      exact ⟨ea, y5, by omega, q5, rfl⟩
    repeat walk_at "z4"
  
    refine ⟨fun z2 => ?_, fun z2 => ?_⟩
    rotate_left
    · repeat walk_at "z4"
  
      exact ⟨ea, y5, by omega, q5, rfl⟩
    have z2 := of_decide_eq_true z2
    repeat walk_at "z4"
    (refine ev_take ?_; repeat walk_at "z1")
    refine ⟨y5, _, _, _, rfl, rfl, q5, by first | decide | omega, fun t y6 q6 t0 t1 => ?_⟩
    repeat walk_at "z1"
  
    repeat walk_at "z4"
  
    refine ⟨fun z3 => ?_, fun z3 => ?_⟩
    rotate_left
    · repeat walk_at "z4"
  
      exact ⟨ea, y6, by omega, q6, rfl⟩
    repeat walk_at "z4"
  
    refine ev_take ?_
    repeat walk_at "z4"
  
    refine ⟨y6, (n : Int) - 1, _, _, rfl, rfl, q6, by omega, fun u y7 q7 u0 u1 => ?_⟩
    repeat walk_at "z4"
  
    have m0 : 0 ≤ ((la : Int) + 1 + u) % (n : Int) := Int.emod_nonneg _ (by omega)
    have m1 : ((la : Int) + 1 + u) % (n : Int) < n := Int.emod_lt_of_pos _ (by omega)
    obtain ⟨e, he⟩ : ∃ e : Nat, ((la : Int) + 1 + u) % (n : Int) = e := ⟨(((la : Int) + 1 + u) % (n : Int)).toNat, by omega⟩
    rw [he]
    exact ⟨e, y7, by omega, q7, rfl⟩
  rintro s1 ⟨e, y6, he, q6, rfl⟩
  have hla : la < n := by omega
  have nn : 1 ≤ n ∧ n ≤ 200 := ⟨by omega, by omega⟩
  repeat walk_at "z4"
  
  refine ev_call0 (E := fun _ => E0) ?_
  repeat walk_at "z4"
  
  refine ⟨(n, rs, la), rfl, rfl, rfl, ⟨nn, r1, r2, hla, r4⟩, fun r os' hr => ?_, fun x os' hx => (show False from hx).elim⟩
  obtain ⟨g1, d1, rfl⟩ := hr
  refine gt_name ?_
  repeat walk_at "z4"
  
  refine ev_call0 (E := fun _ => E0) ?_
  repeat walk_at "z4"
  
  refine ⟨(n, rs, e), rfl, rfl, rfl, ⟨nn, r1, r2, he, r4⟩, fun r os' hr => ?_, fun x os' hx => (show False from hx).elim⟩
  obtain ⟨g2, d2, rfl⟩ := hr
  refine gt_name ?_
  show GO K b _ ⟨[some (scrP K i), some (.o 0), some (.d (.int n)), some (.d (.int sc)), some (.d (.list (lmsD rs))), some (.d (.int (la : Nat))), some (.d (.int (e : Nat))), some (.o 1), some (.o 2), none, none], [.lst y6.l, .lst (gD n g1), .lst (gD n g2)]⟩ _
  repeat walk_at "z4"
  
  refine ev_callV (E := fun _ => E0) ?_
  repeat walk_at "z4"
  
  refine v2_ixO (n := 2) (ds := gD n g2) rfl (gD_at hla) ?_
  repeat walk_at "z4"
  
  refine v2_ixO (n := 1) (ds := gD n g1) rfl (gD_at he) ?_
  repeat walk_at "z4"
  
  refine ⟨(n, rs, la, e, g2 la, g1 e), _, rfl, rfl, rfl, ⟨nn, r1, r2, by omega, ⟨hla, he⟩, r4, d2 la, d1 e⟩, fun _ _ h => h, fun _ _ h => h, ?_⟩
  refine ⟨_, rfl, fun z => (nomatch z), fun _ => ?_⟩
  have ok1 := dst_ok r2 (d1 e)
  have ok2 := dst_ok r2 (d2 la)
  repeat walk_at "z4"
  
  refine ⟨fun _ => ?_, fun z40 => ?_⟩
  · repeat walk_at "z4"
  
    exact rfl
  have z40 := of_decide_eq_false z40
  refine go_next ?_
  refine go_mid (fun s => ∃ (y : Bg), 0 ≤ y.i ∧ s = ⟨[some (scrP K i), some (.o 0), some (.d (.int n)), some (.d (.int sc)), some (.d (.list (lmsD rs))), some (.d (.int (la : Nat))), some (.d (.int (e : Nat))), some (.o 1), some (.o 2), none, none], [.lst y.l, .lst (gD n g1), .lst (gD n g2)]⟩) ?_ ?_
  · repeat walk_at "z4"
    (refine ev_take ?_; repeat walk_at "z1")
    refine ⟨y6, _, _, _, rfl, rfl, q6, by first | decide | omega, fun t y7 q7 t0 t1 => ?_⟩
    repeat walk_at "z1"
  
    repeat walk_at "z4"
  
    refine ⟨fun _ => ?_, fun _ => ?_⟩
    · repeat walk_at "z4"
  
      refine ev_call1 (E := fun _ => E0) 0 ?_
      repeat walk_at "z4"
  
      refine v2_ixO (n := 1) (ds := gD n g1) rfl (gD_at he) ?_
      repeat walk_at "z4"
  
      refine ⟨(y7, n, rs, la, e, g1 e), .lst y7.l, [.d (.int n), .d (.list (lmsD rs)), .d (.int (la : Nat)), .d (.int (e : Nat)), .d (bdD (g1 e))], rfl, rfl, rfl, rfl, (fun z => nomatch z), rfl, ⟨q7, nn, r1, r2, by omega, ⟨hla, he⟩, r4, d1 e, ok1⟩, fun r c' hr => ?_, fun x c' hx => (show False from hx).elim⟩
      obtain ⟨y8, rfl, ec, q8⟩ := hr
      cases ec
      refine ⟨_, rfl, fun z => (nomatch z), fun _ => ?_⟩
      refine go_next ?_
      exact ⟨y8, q8, rfl⟩
    · repeat walk_at "z4"
  
      refine ev_call1 (E := fun _ => E0) 0 ?_
      repeat walk_at "z4"
  
      refine v2_ixO (n := 2) (ds := gD n g2) rfl (gD_at hla) ?_
      repeat walk_at "z4"
  
      refine ⟨(y7, n, rs, e, la, g2 la), .lst y7.l, [.d (.int n), .d (.list (lmsD rs)), .d (.int (e : Nat)), .d (.int (la : Nat)), .d (bdD (g2 la))], rfl, rfl, rfl, rfl, (fun z => nomatch z), rfl, ⟨q7, nn, r1, r2, by omega, ⟨he, hla⟩, r4, d2 la, ok2⟩, fun r c' hr => ?_, fun x c' hx => (show False from hx).elim⟩
      obtain ⟨y8, rfl, ec, q8⟩ := hr
      cases ec
      refine ⟨_, rfl, fun z => (nomatch z), fun _ => ?_⟩
      refine go_next ?_
      exact ⟨y8, q8, rfl⟩
  rintro s1 ⟨y7, q7, rfl⟩
  repeat walk_at "z4"
  
  refine ev_call1 (E := fun _ => E0) 0 (ea_cons (ev_var rfl (ea_cons (ev_var rfl (ea_cons (ev_call1 (E := fun _ => E0) 0 (ea_cons (ev_var rfl (ea_cons (ev_var rfl (ea_cons (ev_var rfl (ea_nil ?_)))))))) )))))
  refine ⟨(y7, n, sc), .lst y7.l, [.d (.int n), .d (.int sc)], rfl, rfl, rfl, rfl, (fun z => nomatch z), rfl, ⟨q7, nn.1, nn.2⟩, fun r c' hr => ?_, fun x c' hx => (show False from hx).elim⟩
  obtain ⟨cs, y8, rfl, ec, q8, c1, c2⟩ := hr
  cases ec
  have cn := c1.mn
  refine ea_nil ?_
  refine ⟨(y8, lmsD rs, lmsD cs), .lst y8.l, [.d (.list (lmsD rs)), .d (.list (lmsD cs))], rfl, rfl, rfl, rfl, (fun z => nomatch z), rfl, ⟨q8, by rw [lmsD_len, lmsD_len]; omega⟩, fun r c' hr => ?_, fun x c' hx => (show False from hx).elim⟩
  obtain ⟨mx, y9, rfl, ec, q9, hm⟩ := hr
  cases ec
  rw [lmsD_app] at hm
  obtain ⟨ms, rfl, hpm⟩ : ∃ ms : List Lm, mx = lmsD ms ∧ ms.Perm (rs ++ cs) := perm_map hm
  have ml : ms.length = rs.length + cs.length := by rw [hpm.length_eq, List.length_append]
  have m1 : Rg n ms := fun l hl => by
    rcases List.mem_append.mp (hpm.mem_iff.mp hl) with h | h
    · exact r1 l h
    · exact c1.rg l h
  have m2 : W01 ms := fun l hl => by
    rcases List.mem_append.mp (hpm.mem_iff.mp hl) with h | h
    · exact r2 l h
    · exact c1.w01 l h
  have m3 : ¬ ∃ P, Feas n ms P := bad_no (by omega) c1 c2 fun l hl => hpm.mem_iff.mpr (List.mem_append_right _ hl)
  refine gt_name ?_
  show GO K b _ ⟨[some (scrP K i), some (.o 0), some (.d (.int n)), some (.d (.int sc)), some (.d (.list (lmsD rs))), some (.d (.int (la : Nat))), some (.d (.int (e : Nat))), some (.o 1), some (.o 2), some (.d (.list (lmsD ms))), none], [.lst y9.l, .lst (gD n g1), .lst (gD n g2)]⟩ _
  refine go_mid (fun s => ∃ (x : Option Dw.A), s = ⟨[some (scrP K i), some (.o 0), some (.d (.int n)), some (.d (.int sc)), some (.d (.list (lmsD rs))), some (.d (.int (la : Nat))), some (.d (.int (e : Nat))), some (.o 1), some (.o 2), some (.d (.list (lmsD ms))), x], [.lst y9.l, .lst (gD n g1), .lst (gD n g2)]⟩) ?_ ?_
  · repeat walk_at "z4"
  
    refine ⟨fun z5 => ?_, fun z5 => ?_⟩
    rotate_left
    · repeat walk_at "z4"
  
      exact ⟨_, rfl⟩
    refine go_sAsg (ev_var rfl (gt_name ?_))
    refine go_mid (fun s => ∃ (o : Nat), o < n ∧ s = ⟨[some (scrP K i), some (.o 0), some (.d (.int n)), some (.d (.int sc)), some (.d (.list (lmsD rs))), some (.d (.int (la : Nat))), some (.d (.int (e : Nat))), some (.o 1), some (.o 2), some (.d (.list (lmsD ms))), some (.d (.int (o : Nat)))], [.lst y9.l, .lst (gD n g1), .lst (gD n g2)]⟩) ?_ ?_
    · repeat walk_at "z4"
  
      refine ⟨fun z6 => ?_, fun z6 => ?_⟩
      · repeat walk_at "z4"
  
        have m0 : 0 ≤ ((la : Int) + 1) % (n : Int) := Int.emod_nonneg _ (by omega)
        have m1 : ((la : Int) + 1) % (n : Int) < n := Int.emod_lt_of_pos _ (by omega)
        obtain ⟨o, ho⟩ : ∃ o : Nat, ((la : Int) + 1) % (n : Int) = o := ⟨(((la : Int) + 1) % (n : Int)).toNat, by omega⟩
        rw [ho]
        exact ⟨o, by omega, rfl⟩
      · repeat walk_at "z4"
  
        exact ⟨e, he, rfl⟩
    rintro s1 ⟨o, ho, rfl⟩
    repeat walk_at "z4"
  
    refine ev_call0 (E := fun _ => E0) ?_
    repeat walk_at "z4"
  
    refine ⟨(n, ms, la, o), rfl, rfl, rfl, ⟨nn, m1, m2, by omega, ⟨hla, ho⟩, m3⟩, fun r os' hr => ?_, fun x os' hx => (show False from hx).elim⟩
    obtain rfl : r = .val (.bool true) := hr
    dsimp only [aft]
    refine ⟨_, rfl, fun z => (nomatch z), fun _ => ?_⟩
    refine go_next ?_
    exact ⟨_, rfl⟩
  rintro s1 ⟨x10, rfl⟩
  refine go_mid (fun s => ∃ (ws : List Lm) (y : Bg), Rg n ws ∧ W01 ws ∧ ws.length ≤ 900 ∧ 0 ≤ y.i ∧ s = ⟨[some (scrP K i), some (.o 0), some (.d (.int n)), some (.d (.int sc)), some (.d (.list (lmsD rs))), some (.d (.int (la : Nat))), some (.d (.int (e : Nat))), some (.o 1), some (.o 2), some (.d (.list (lmsD ws))), x10], [.lst y.l, .lst (gD n g1), .lst (gD n g2)]⟩) ?_ ?_
  · repeat walk_at "z4"
    (refine ev_take ?_; repeat walk_at "z1")
    refine ⟨y9, _, _, _, rfl, rfl, q9, by first | decide | omega, fun t y10 q10 t0 t1 => ?_⟩
    repeat walk_at "z1"
  
    repeat walk_at "z4"
  
    refine ⟨fun _ => ?_, fun _ => ?_⟩
    · repeat walk_at "z4"
  
      exact ⟨rs, y10, r1, r2, by omega, q10, rfl⟩
    · repeat walk_at "z4"
  
      exact ⟨ms, y10, m1, m2, by omega, q10, rfl⟩
  rintro s1 ⟨ws, y10, w1, w2, w3, q10, rfl⟩
  repeat walk_at "z4"
  
  refine ev_call1 (E := fun _ => E0) 0 ?_
  repeat walk_at "z4"
  
  refine ⟨(y10, n, ws, la, e), .lst y10.l, [.d (.int n), .d (.list (lmsD ws)), .d (.int (la : Nat)), .d (.int (e : Nat))], rfl, rfl, rfl, rfl, (fun z => nomatch z), rfl, ⟨q10, nn, w1, w2, by omega, hla, he⟩, fun r c' hr => ?_, fun x c' hx => (show False from hx).elim⟩
  obtain ⟨y11, rfl, ec, q11⟩ := hr
  cases ec
  refine ⟨_, rfl, fun z => (nomatch z), fun _ => ?_⟩
  refine go_next ?_
  repeat walk_at "z4"
  
  refine ev_call1 (E := fun _ => E0) 0 ?_
  repeat walk_at "z4"
  
  refine ⟨(y11, sc), .lst y11.l, [.d (.int sc)], rfl, rfl, rfl, rfl, (fun z => nomatch z), rfl, q11, fun r c' hr => ?_, fun x c' hx => (show False from hx).elim⟩
  obtain ⟨y12, rfl, ec, q12⟩ := hr
  cases ec
  dsimp only [aft]
  refine ⟨_, rfl, fun _ => ?_, fun z => (nomatch z)⟩
  refine ev_call1 (E := fun _ => E0) 0 ?_
  repeat walk_at "z4"
  
  refine ⟨(y12, sc), .lst y12.l, [.d (.int sc)], rfl, rfl, rfl, rfl, (fun z => nomatch z), rfl, q12, fun r c' hr => ?_, fun x c' hx => (show False from hx).elim⟩
  obtain rfl : r = .val (.bool true) := hr
  exact rfl
end
end K00
namespace K00
open PySem
open _root_.L2
open Dw
theorem mkT {K : PySem.W.Frag} {h : Heap} {mg : Str → Option Value} (X : K.In h) (G : h.Ns mainGlobals mg) (c : SaysY hfa hfn hfile hfs hfk K) : ∃ T : Tx R.prog K mg, T.a_law = He.ga K "law" := by
  have d := c.d
  have c : SaysY hfa hfn R.prog.main.file hfs hfk K := c
  obtain ⟨fd_plus, F_plus⟩ := d.def_ 0 (d := dd_plus) rfl
  obtain ⟨fd_less, F_less⟩ := d.def_ 1 (d := dd_less) rfl
  obtain ⟨fd_tighter, F_tighter⟩ := d.def_ 2 (d := dd_tighter) rfl
  obtain ⟨fd_admits, F_admits⟩ := d.def_ 3 (d := dd_admits) rfl
  obtain ⟨fd_lowest, F_lowest⟩ := d.def_ 4 (d := dd_lowest) rfl
  obtain ⟨fd_check_limits, F_check_limits⟩ := d.def_ 5 (d := dd_check_limits) rfl
  obtain ⟨fd_solve, F_solve⟩ := d.def_ 6 (d := dd_solve) rfl
  obtain ⟨fd_solution_of, F_solution_of⟩ := d.def_ 7 (d := dd_solution_of) rfl
  obtain ⟨fd_cycle_behind, F_cycle_behind⟩ := d.def_ 8 (d := dd_cycle_behind) rfl
  obtain ⟨fd_least_sums, F_least_sums⟩ := d.def_ 9 (d := dd_least_sums) rfl
  obtain ⟨fd_span, F_span⟩ := d.def_ 10 (d := dd_span) rfl
  obtain ⟨fd__law_bag, F__law_bag⟩ := d.def_ 11 (d := dd__law_bag) rfl
  obtain ⟨fd__law_take, F__law_take⟩ := d.def_ 12 (d := dd__law_take) rfl
  obtain ⟨fd__law_is_number, F__law_is_number⟩ := d.def_ 13 (d := dd__law_is_number) rfl
  obtain ⟨fd__law_number, F__law_number⟩ := d.def_ 14 (d := dd__law_number) rfl
  obtain ⟨fd__law_count, F__law_count⟩ := d.def_ 15 (d := dd__law_count) rfl
  obtain ⟨fd__law_order, F__law_order⟩ := d.def_ 16 (d := dd__law_order) rfl
  obtain ⟨fd__law_pair, F__law_pair⟩ := d.def_ 17 (d := dd__law_pair) rfl
  obtain ⟨fd__law_around, F__law_around⟩ := d.def_ 18 (d := dd__law_around) rfl
  obtain ⟨fd__law_stairs, F__law_stairs⟩ := d.def_ 19 (d := dd__law_stairs) rfl
  obtain ⟨fd__law_system, F__law_system⟩ := d.def_ 20 (d := dd__law_system) rfl
  obtain ⟨fd__law_cycle, F__law_cycle⟩ := d.def_ 21 (d := dd__law_cycle) rfl
  obtain ⟨fd__law_mixed, F__law_mixed⟩ := d.def_ 22 (d := dd__law_mixed) rfl
  obtain ⟨fd__law_wrong_limit, F__law_wrong_limit⟩ := d.def_ 23 (d := dd__law_wrong_limit) rfl
  obtain ⟨fd__law_solves, F__law_solves⟩ := d.def_ 24 (d := dd__law_solves) rfl
  obtain ⟨fd__law_is_bad_cycle, F__law_is_bad_cycle⟩ := d.def_ 25 (d := dd__law_is_bad_cycle) rfl
  obtain ⟨fd__law_answers, F__law_answers⟩ := d.def_ 26 (d := dd__law_answers) rfl
  obtain ⟨fd__law_same_bound, F__law_same_bound⟩ := d.def_ 27 (d := dd__law_same_bound) rfl
  obtain ⟨fd__law_least, F__law_least⟩ := d.def_ 28 (d := dd__law_least) rfl
  obtain ⟨fd__law_span_is, F__law_span_is⟩ := d.def_ 29 (d := dd__law_span_is) rfl
  obtain ⟨fd__law_end_exact, F__law_end_exact⟩ := d.def_ 30 (d := dd__law_end_exact) rfl
  obtain ⟨fd__law_unsolvable, F__law_unsolvable⟩ := d.def_ 31 (d := dd__law_unsolvable) rfl
  obtain ⟨fd__law_refuses, F__law_refuses⟩ := d.def_ 32 (d := dd__law_refuses) rfl
  obtain ⟨fd__law_bound, F__law_bound⟩ := d.def_ 33 (d := dd__law_bound) rfl
  obtain ⟨fd__law_bounds_right, F__law_bounds_right⟩ := d.def_ 34 (d := dd__law_bounds_right) rfl
  obtain ⟨fd__law_gcd, F__law_gcd⟩ := d.def_ 35 (d := dd__law_gcd) rfl
  obtain ⟨fd__law_lowest_right, F__law_lowest_right⟩ := d.def_ 36 (d := dd__law_lowest_right) rfl
  obtain ⟨fd_law, F_law⟩ := d.def_ 37 (d := dd_law) rfl
  obtain ⟨fe_BadLimit, E_BadLimit⟩ := c.err 0 (d := de_BadLimit) rfl
  obtain ⟨fe_Unsolvable, E_Unsolvable⟩ := c.err 1 (d := de_Unsolvable) rfl
  have hgcd : hraw0 K = true := c.fact 23 (f := .raw hraw0) rfl
  exact ⟨{ a_plus := _, d_plus := fd_plus, F_plus := F_plus, g_plus := He.glo_ok X G (d.fact 0 (f := .glo "plus") rfl), a_less := _, d_less := fd_less, F_less := F_less, g_less := He.glo_ok X G (d.fact 1 (f := .glo "less") rfl), a_tighter := _, d_tighter := fd_tighter, F_tighter := F_tighter, g_tighter := He.glo_ok X G (d.fact 2 (f := .glo "tighter") rfl), a_admits := _, d_admits := fd_admits, F_admits := F_admits, g_admits := He.glo_ok X G (d.fact 3 (f := .glo "admits") rfl), a_lowest := _, d_lowest := fd_lowest, F_lowest := F_lowest, g_lowest := He.glo_ok X G (d.fact 4 (f := .glo "lowest") rfl), a_check_limits := _, d_check_limits := fd_check_limits, F_check_limits := F_check_limits, g_check_limits := He.glo_ok X G (d.fact 5 (f := .glo "check_limits") rfl), a_solve := _, d_solve := fd_solve, F_solve := F_solve, g_solve := He.glo_ok X G (d.fact 6 (f := .glo "solve") rfl), a_solution_of := _, d_solution_of := fd_solution_of, F_solution_of := F_solution_of, g_solution_of := He.glo_ok X G (d.fact 7 (f := .glo "solution_of") rfl), a_cycle_behind := _, d_cycle_behind := fd_cycle_behind, F_cycle_behind := F_cycle_behind, g_cycle_behind := He.glo_ok X G (d.fact 8 (f := .glo "cycle_behind") rfl), a_least_sums := _, d_least_sums := fd_least_sums, F_least_sums := F_least_sums, g_least_sums := He.glo_ok X G (d.fact 9 (f := .glo "least_sums") rfl), a_span := _, d_span := fd_span, F_span := F_span, g_span := He.glo_ok X G (d.fact 10 (f := .glo "span") rfl), a__law_bag := _, d__law_bag := fd__law_bag, F__law_bag := F__law_bag, g__law_bag := He.glo_ok X G (d.fact 11 (f := .glo "_law_bag") rfl), a__law_take := _, d__law_take := fd__law_take, F__law_take := F__law_take, g__law_take := He.glo_ok X G (d.fact 12 (f := .glo "_law_take") rfl), a__law_is_number := _, d__law_is_number := fd__law_is_number, F__law_is_number := F__law_is_number, g__law_is_number := He.glo_ok X G (d.fact 13 (f := .glo "_law_is_number") rfl), a__law_number := _, d__law_number := fd__law_number, F__law_number := F__law_number, g__law_number := He.glo_ok X G (d.fact 14 (f := .glo "_law_number") rfl), a__law_count := _, d__law_count := fd__law_count, F__law_count := F__law_count, g__law_count := He.glo_ok X G (d.fact 15 (f := .glo "_law_count") rfl), a__law_order := _, d__law_order := fd__law_order, F__law_order := F__law_order, g__law_order := He.glo_ok X G (d.fact 16 (f := .glo "_law_order") rfl), a__law_pair := _, d__law_pair := fd__law_pair, F__law_pair := F__law_pair, g__law_pair := He.glo_ok X G (d.fact 17 (f := .glo "_law_pair") rfl), a__law_around := _, d__law_around := fd__law_around, F__law_around := F__law_around, g__law_around := He.glo_ok X G (d.fact 18 (f := .glo "_law_around") rfl), a__law_stairs := _, d__law_stairs := fd__law_stairs, F__law_stairs := F__law_stairs, g__law_stairs := He.glo_ok X G (d.fact 19 (f := .glo "_law_stairs") rfl), a__law_system := _, d__law_system := fd__law_system, F__law_system := F__law_system, g__law_system := He.glo_ok X G (d.fact 20 (f := .glo "_law_system") rfl), a__law_cycle := _, d__law_cycle := fd__law_cycle, F__law_cycle := F__law_cycle, g__law_cycle := He.glo_ok X G (d.fact 21 (f := .glo "_law_cycle") rfl), a__law_mixed := _, d__law_mixed := fd__law_mixed, F__law_mixed := F__law_mixed, g__law_mixed := He.glo_ok X G (d.fact 22 (f := .glo "_law_mixed") rfl), a__law_wrong_limit := _, d__law_wrong_limit := fd__law_wrong_limit, F__law_wrong_limit := F__law_wrong_limit, g__law_wrong_limit := He.glo_ok X G (d.fact 23 (f := .glo "_law_wrong_limit") rfl), a__law_solves := _, d__law_solves := fd__law_solves, F__law_solves := F__law_solves, g__law_solves := He.glo_ok X G (d.fact 24 (f := .glo "_law_solves") rfl), a__law_is_bad_cycle := _, d__law_is_bad_cycle := fd__law_is_bad_cycle, F__law_is_bad_cycle := F__law_is_bad_cycle, g__law_is_bad_cycle := He.glo_ok X G (d.fact 25 (f := .glo "_law_is_bad_cycle") rfl), a__law_answers := _, d__law_answers := fd__law_answers, F__law_answers := F__law_answers, g__law_answers := He.glo_ok X G (d.fact 26 (f := .glo "_law_answers") rfl), a__law_same_bound := _, d__law_same_bound := fd__law_same_bound, F__law_same_bound := F__law_same_bound, g__law_same_bound := He.glo_ok X G (d.fact 27 (f := .glo "_law_same_bound") rfl), a__law_least := _, d__law_least := fd__law_least, F__law_least := F__law_least, g__law_least := He.glo_ok X G (d.fact 28 (f := .glo "_law_least") rfl), a__law_span_is := _, d__law_span_is := fd__law_span_is, F__law_span_is := F__law_span_is, g__law_span_is := He.glo_ok X G (d.fact 29 (f := .glo "_law_span_is") rfl), a__law_end_exact := _, d__law_end_exact := fd__law_end_exact, F__law_end_exact := F__law_end_exact, g__law_end_exact := He.glo_ok X G (d.fact 30 (f := .glo "_law_end_exact") rfl), a__law_unsolvable := _, d__law_unsolvable := fd__law_unsolvable, F__law_unsolvable := F__law_unsolvable, g__law_unsolvable := He.glo_ok X G (d.fact 31 (f := .glo "_law_unsolvable") rfl), a__law_refuses := _, d__law_refuses := fd__law_refuses, F__law_refuses := F__law_refuses, g__law_refuses := He.glo_ok X G (d.fact 32 (f := .glo "_law_refuses") rfl), a__law_bound := _, d__law_bound := fd__law_bound, F__law_bound := F__law_bound, g__law_bound := He.glo_ok X G (d.fact 33 (f := .glo "_law_bound") rfl), a__law_bounds_right := _, d__law_bounds_right := fd__law_bounds_right, F__law_bounds_right := F__law_bounds_right, g__law_bounds_right := He.glo_ok X G (d.fact 34 (f := .glo "_law_bounds_right") rfl), a__law_gcd := _, d__law_gcd := fd__law_gcd, F__law_gcd := F__law_gcd, g__law_gcd := He.glo_ok X G (d.fact 35 (f := .glo "_law_gcd") rfl), a__law_lowest_right := _, d__law_lowest_right := fd__law_lowest_right, F__law_lowest_right := F__law_lowest_right, g__law_lowest_right := He.glo_ok X G (d.fact 36 (f := .glo "_law_lowest_right") rfl), a_law := _, d_law := fd_law, F_law := F_law, g_law := He.glo_ok X G (d.fact 37 (f := .glo "law") rfl), z_ValueError := He.free_ok X G (d.fact 43 (f := .free "ValueError") rfl), z_abs := He.free_ok X G (d.fact 44 (f := .free "abs") rfl), z_bool := He.free_ok X G (d.fact 45 (f := .free "bool") rfl), z_enumerate := He.free_ok X G (d.fact 46 (f := .free "enumerate") rfl), z_int := He.free_ok X G (d.fact 47 (f := .free "int") rfl), z_isinstance := He.free_ok X G (d.fact 48 (f := .free "isinstance") rfl), z_len := He.free_ok X G (d.fact 49 (f := .free "len") rfl), z_list := He.free_ok X G (d.fact 50 (f := .free "list") rfl), z_min := He.free_ok X G (d.fact 51 (f := .free "min") rfl), z_range := He.free_ok X G (d.fact 52 (f := .free "range") rfl), z_str := He.free_ok X G (d.fact 53 (f := .free "str") rfl), z_super := He.free_ok X G (d.fact 54 (f := .free "super") rfl), z_tuple := He.free_ok X G (d.fact 55 (f := .free "tuple") rfl), c_BadLimit := _, gc_BadLimit := He.glo_ok X G (d.fact 38 (f := .glo "BadLimit") rfl), c_Unsolvable := _, gc_Unsolvable := He.glo_ok X G (d.fact 39 (f := .glo "Unsolvable") rfl), c_BadVariable := _, gc_BadVariable := He.glo_ok X G (d.fact 40 (f := .glo "BadVariable") rfl), c_BadValue := _, gc_BadValue := He.glo_ok X G (d.fact 41 (f := .glo "BadValue") rfl), c_DwellError := _, gc_DwellError := He.glo_ok X G (d.fact 42 (f := .glo "DwellError") rfl), f_BadLimit := _, fd_BadLimit := fe_BadLimit, e_BadLimit := E_BadLimit, f_Unsolvable := _, fd_Unsolvable := fe_Unsolvable, e_Unsolvable := E_Unsolvable, p_BadVariable := errp_ok (d.fact 56 (f := .exc "BadVariable") rfl), p_BadValue := errp_ok (d.fact 57 (f := .exc "BadValue") rfl), em_BadLimit_DwellError := He.exm_ok (d.fact 58 (f := .exm "BadLimit" "DwellError" true) rfl), em_Unsolvable_DwellError := He.exm_ok (d.fact 59 (f := .exm "Unsolvable" "DwellError" true) rfl), em_BadVariable_DwellError := He.exm_ok (d.fact 60 (f := .exm "BadVariable" "DwellError" true) rfl), em_BadValue_DwellError := He.exm_ok (d.fact 61 (f := .exm "BadValue" "DwellError" true) rfl), k_BadLimit_BadLimit := kit_ok (c.fact 0 (f := .kit "BadLimit" "BadLimit" true) rfl), k_BadLimit_BadVariable := kit_ok (c.fact 1 (f := .kit "BadLimit" "BadVariable" false) rfl), k_BadLimit_Unsolvable := kit_ok (c.fact 2 (f := .kit "BadLimit" "Unsolvable" false) rfl), k_Unsolvable_Unsolvable := kit_ok (c.fact 3 (f := .kit "Unsolvable" "Unsolvable" true) rfl), k_Unsolvable_BadLimit := kit_ok (c.fact 4 (f := .kit "Unsolvable" "BadLimit" false) rfl), k_Unsolvable_BadVariable := kit_ok (c.fact 5 (f := .kit "Unsolvable" "BadVariable" false) rfl), k_BadVariable_BadVariable := kit_ok (c.fact 6 (f := .kit "BadVariable" "BadVariable" true) rfl), k_BadVariable_BadLimit := kit_ok (c.fact 7 (f := .kit "BadVariable" "BadLimit" false) rfl), k_BadVariable_Unsolvable := kit_ok (c.fact 8 (f := .kit "BadVariable" "Unsolvable" false) rfl), k_BadVariable_BadValue := kit_ok (c.fact 9 (f := .kit "BadVariable" "BadValue" false) rfl), k_BadValue_BadValue := kit_ok (c.fact 10 (f := .kit "BadValue" "BadValue" true) rfl), k_BadValue_BadLimit := kit_ok (c.fact 11 (f := .kit "BadValue" "BadLimit" false) rfl), k_BadValue_BadVariable := kit_ok (c.fact 12 (f := .kit "BadValue" "BadVariable" false) rfl), k_BadValue_Unsolvable := kit_ok (c.fact 13 (f := .kit "BadValue" "Unsolvable" false) rfl), kt_BadLimit_ValueError := kty_ok (c.fact 14 (f := .kty "BadLimit" "ValueError" true) rfl), kt_Unsolvable_ValueError := kty_ok (c.fact 15 (f := .kty "Unsolvable" "ValueError" true) rfl), kt_BadVariable_ValueError := kty_ok (c.fact 16 (f := .kty "BadVariable" "ValueError" true) rfl), ec_BadLimit := ecc_ok (c.fact 17 (f := .ecc "BadLimit") rfl), ec_Unsolvable := ecc_ok (c.fact 18 (f := .ecc "Unsolvable") rfl), ec_BadVariable := ecc_ok (c.fact 19 (f := .ecc "BadVariable") rfl), ec_BadValue := ecc_ok (c.fact 20 (f := .ecc "BadValue") rfl), na_BadLimit_place := noa_ok (c.fact 21 (f := .noat "BadLimit" "place") rfl), na_Unsolvable_chain := noa_ok (c.fact 22 (f := .noat "Unsolvable" "chain") rfl), ptop := by with_unfolding_all decide +kernel, g_gcd := PySem.W.mg_of X G (He.eqO_ok hgcd) }, rfl⟩
theorem lawP {K : PySem.W.Frag} (H : Hp) (a : Addr) (ns : List Int) (hS : SqL K H a (ns.map V.int)) : SpB K (sp_law K) [.ref a] H (fun v _ => v = .bl true) fun _ _ _ => False := by
  refine ⟨H, [], ns, fun _ _ e => e, .nil, rfl, fun p hp => by simp at hp, fun k cc p hk hp => by simp at hp, .cons ⟨a, rfl, hS⟩ .nil, trivial, fun r os' hr v Hd' H' _ hv => ?_, fun x os' hx => (show False from hx).elim⟩
  rw [show r = .val (.bool true) from hr] at hv
  cases (show Dr K Hd' v (.bool true) from hv)
  rfl
end K00
open PySem PySem.W PySem.Calls PyProof.Rows
theorem PySem.Challenge.cw_dwellhouse_k01_span_ends_holds : PySem.Challenge.rw_dwellhouse_k01_span_ends.Holds := by
  w_on; o_law
  refine HandSHeadRun.head_imp (r := OpenLaw.row PySem.Challenge.rw_dwellhouse_k01_span_ends) (q := view (OpenLaw.row PySem.Challenge.rw_dwellhouse_k01_span_ends).prog [0, 47]) (H := K00.hk) (ob := K00.ob) (M := 6000) (loose := K00.loose) (d := HandSHeadRun.topDef (OpenLaw.row PySem.Challenge.rw_dwellhouse_k01_span_ends).prog 47) (kwd := []) K00.ob_eq
    K00.run (by kernel_rfl) (by kernel_rfl) (by kernel_rfl) (by rfl) (by first | assumption | decide +kernel) (by decide +kernel) ⟨rfl, rfl, rfl, rfl, rfl, by decide +kernel⟩ ?hw ?hc
  case hw => w_witness2
  case hc =>
    refine L2.walk_ofE (l := PySem.Challenge.rw_dwellhouse_k01_span_ends) (n := 63) (k := 7) (x := "script") (CX := L2.CX0) rfl (by decide) (by kernel_rfl) ⟨rfl, by decide, by decide⟩ ?F (fun _ _ _ _ z => z)
    intro w mg fa h Y G hmg0
    obtain ⟨K, KX, c⟩ := Y
    have hmg : mg ("law" : PySem.Str) = some (.ref fa) := by
      have e : (HandSHeadRun.topDef (OpenLaw.row PySem.Challenge.rw_dwellhouse_k01_span_ends).prog 47).name = ("law" : PySem.Str) := by kernel_rfl
      rw [← e]
      exact hmg0
    obtain ⟨T, hT⟩ := K00.mkT KX G c
    have e := hmg.symm.trans T.g_law
    cases e
    have b := L2.FunD.bindsA (ps := ["script"]) T.F_law fun _ _ _ _ _ _ us hl => match us, hl with | [_], _ => rfl
    exact ⟨K, T.d_law, Dw.SpB K (K00.sp_law K), KX, fun s v => b s [v] rfl, fun H a ns hl _ hS => K00.lawP H a ns hS, fun base _ _ => K00.ok_law T⟩
