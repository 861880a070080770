import PyProof.Rows.All
import HandS.Deep
import HandS.Defaults
import HandS.EndBits
import HandS.Exc
import HandS.ExcIs
import HandS.ExcOwn
import HandS.Flow
import HandS.ForMost
import HandS.Gcd
import HandS.Head0
import HandS.Head1
import HandS.Head2
import HandS.HeadEnd
import HandS.HeadHook1
import HandS.HeadHook2
import HandS.HeadHook3
import HandS.HeadHook4
import HandS.HeadWalk
import HandS.IsInst
import HandS.More
import HandS.Style
import HandS.TryOnly
import HandS.TupAny
import HandS.Wide
import HandS.WordsExc
import OpenK.AllK
import PySem.Challenge.RW_dwellhouse_k39_stretch_sets
import Wide.All
import Wide.FinOn
set_option Elab.async false
set_option linter.all false
set_option maxRecDepth 100000
set_option maxHeartbeats 4000000
namespace Dw
open PySem L2

/-! ### data that stays -/
mutual
inductive Dr (K : PySem.W.Frag) (H : Hp) : V → PyData → Prop
  | non : Dr K H .non .none
  | bl (b : Bool) : Dr K H (.bl b) (.bool b)
  | int (i : Int) : Dr K H (.int i) (.int i)
  | str (x : Str) : Dr K H (.str x) (.str x)
  | lst {a : Addr} {xs : List V} {ds : List PyData} : H a = some (.lst xs) → DrA K H xs ds → Dr K H (.ref a) (.list ds)
  | tup {a : Addr} {xs : List V} {ds : List PyData} : SqT K H a xs → DrA K H xs ds → Dr K H (.ref a) (.tuple ds)
inductive DrA (K : PySem.W.Frag) (H : Hp) : List V → List PyData → Prop
  | nil : DrA K H [] []
  | cons {v : V} {vs : List V} {d : PyData} {ds : List PyData} : Dr K H v d → DrA K H vs ds → DrA K H (v :: vs) (d :: ds)
end
section
variable {K : PySem.W.Frag} {H H' : Hp}
mutual
theorem Dr.dp : ∀ (d : PyData) (v : V), Dr K H v d → Dp K H v d
  | .none, _, h => by cases h; exact .non
  | .bool b, _, h => by cases h; exact .bl b
  | .int i, _, h => by cases h; exact .int i
  | .str x, _, h => by cases h; exact .str x
  | .list ds, _, h => by
    cases h with
    | lst hs ha => exact .lst (.inl (.inl hs)) (DrA.dp ds _ ha)
  | .tuple ds, _, h => by
    cases h with
    | tup hs ha => exact .tup hs (DrA.dp ds _ ha)
  | .dict _, _, h => by cases h
theorem DrA.dp : ∀ (ds : List PyData) (vs : List V), DrA K H vs ds → DpAll K H vs ds
  | [], _, h => by cases h; exact .nil
  | d :: ds, _, h => by
    cases h with
    | cons h1 h2 => exact .cons (Dr.dp d _ h1) (DrA.dp ds _ h2)
end
theorem rd_up (e : Same H H') {a : Addr} {u : HO} (h : Rd H a u) : Rd H' a u := by
  rcases h with h | ⟨o, h⟩
  · exact .inl (e _ _ h)
  · exact .inr ⟨o, e _ _ h⟩
theorem sl_up (e : Same H H') {a : Addr} {xs : List V} (h : SqL K H a xs) : SqL K H' a xs := by
  rcases h with h | h
  · exact .inl (rd_up e h)
  · exact .inr h
theorem st_up (e : Same H H') {a : Addr} {xs : List V} (h : SqT K H a xs) : SqT K H' a xs := by
  rcases h with h | h
  · exact .inl (rd_up e h)
  · exact .inr h
mutual
theorem dp_up (e : Same H H') : ∀ (d : PyData) (v : V), Dr K H v d → Dr K H' v d
  | .none, _, h => by cases h; exact .non
  | .bool b, _, h => by cases h; exact .bl b
  | .int i, _, h => by cases h; exact .int i
  | .str x, _, h => by cases h; exact .str x
  | .list ds, _, h => by
    cases h with
    | lst hs ha => exact .lst (e _ _ hs) (da_up e ds _ ha)
  | .tuple ds, _, h => by
    cases h with
    | tup hs ha => exact .tup (st_up e hs) (da_up e ds _ ha)
  | .dict _, _, h => by cases h
theorem da_up (e : Same H H') : ∀ (ds : List PyData) (vs : List V), DrA K H vs ds → DrA K H' vs ds
  | [], _, h => by cases h; exact .nil
  | d :: ds, _, h => by
    cases h with
    | cons h1 h2 => exact .cons (dp_up e d _ h1) (da_up e ds _ h2)
end
theorem da_paired : ∀ {vs : List V} {ds : List PyData}, DrA K H vs ds → Paired (Dr K H) vs ds
  | _, _, .nil => .nil
  | _, _, .cons h t => .cons h (da_paired t)
theorem paired_da : ∀ {vs : List V} {ds : List PyData}, Paired (Dr K H) vs ds → DrA K H vs ds
  | _, _, .nil => .nil
  | _, _, .cons h t => .cons h (paired_da t)
theorem pair_get {α β : Type} {G : α → β → Prop} : ∀ {xs : List α} {ys : List β} {i : Nat} {y : β}, Paired G xs ys → ys[i]? = some y → ∃ x, xs[i]? = some x ∧ G x y
  | _, _, _, _, .nil, e => by simp at e
  | _, _, 0, _, .cons r _, e => by simp at e; subst e; exact ⟨_, rfl, r⟩
  | _, _, i + 1, y, .cons _ t, e => by
    obtain ⟨u, h1, h2⟩ := pair_get (i := i) (y := y) t (by simpa using e)
    exact ⟨u, by simpa using h1, h2⟩
theorem pair_getL {α β : Type} {G : α → β → Prop} : ∀ {xs : List α} {ys : List β} {i : Nat} {x : α}, Paired G xs ys → xs[i]? = some x → ∃ y, ys[i]? = some y ∧ G x y
  | _, _, _, _, .nil, e => by simp at e
  | _, _, 0, _, .cons r _, e => by simp at e; subst e; exact ⟨_, rfl, r⟩
  | _, _, i + 1, y, .cons _ t, e => by
    obtain ⟨u, h1, h2⟩ := pair_getL (i := i) (x := y) t (by simpa using e)
    exact ⟨u, by simpa using h1, h2⟩
theorem pair_len {α β : Type} {G : α → β → Prop} {xs : List α} {ys : List β} (h : Paired G xs ys) : xs.length = ys.length := Paired.length h
theorem pair_app {α β : Type} {G : α → β → Prop} : ∀ {xs xs' : List α} {ys ys' : List β}, Paired G xs ys → Paired G xs' ys' → Paired G (xs ++ xs') (ys ++ ys')
  | _, _, _, _, .nil, q => q
  | _, _, _, _, .cons h t, q => .cons h (pair_app t q)
theorem pair_set {α β : Type} {G : α → β → Prop} {x : α} {y : β} (r : G x y) : ∀ {xs : List α} {ys : List β} (i : Nat), Paired G xs ys → Paired G (xs.set i x) (ys.set i y)
  | _, _, _, .nil => .nil
  | _, _, 0, .cons _ t => .cons r t
  | _, _, i + 1, .cons q t => .cons q (pair_set r i t)
theorem pair_take {α β : Type} {G : α → β → Prop} : ∀ {xs : List α} {ys : List β} (n : Nat), Paired G xs ys → Paired G (xs.take n) (ys.take n)
  | _, _, 0, _ => .nil
  | _, _, _ + 1, .nil => .nil
  | _, _, n + 1, .cons r t => .cons r (pair_take n t)
theorem pair_drop {α β : Type} {G : α → β → Prop} : ∀ {xs : List α} {ys : List β} (n : Nat), Paired G xs ys → Paired G (xs.drop n) (ys.drop n)
  | _, _, 0, r => r
  | _, _, _ + 1, .nil => .nil
  | _, _, n + 1, .cons _ t => pair_drop n t
theorem pair_split {α β : Type} {G : α → β → Prop} : ∀ {xs xs' : List α} {ys ys' : List β}, xs.length = ys.length → Paired G (xs ++ xs') (ys ++ ys') → Paired G xs ys ∧ Paired G xs' ys'
  | [], _, [], _, _, q => ⟨.nil, q⟩
  | x :: xs, _, y :: ys, _, hl, .cons h t => by
    obtain ⟨a, b⟩ := pair_split (xs := xs) (ys := ys) (by simpa using hl) t
    exact ⟨.cons h a, b⟩
theorem pair_mono {α β : Type} {G G' : α → β → Prop} (m : ∀ a b, G a b → G' a b) : ∀ {xs : List α} {ys : List β}, Paired G xs ys → Paired G' xs ys
  | _, _, .nil => .nil
  | _, _, .cons h t => .cons (m _ _ h) (pair_mono m t)
end

/-! ### the abstract state -/
inductive A where
  | d (x : PyData)
  | o (k : Nat)
  | p (φ : Hp → V → Prop) (m : ∀ H H' v, Same H H' → φ H v → φ H' v)
inductive C where
  | dead
  | lst (xs : List PyData)
  | dK (kvs : List (Key × PyData))
structure S where
  ss : List (Option A)
  os : List C
/-- where a body stands: the data and the frame at its entry, its arguments' own cells -/
structure B where
  D0 : Hp
  F : Hp
  ps0 : List Addr

def AR (K : PySem.W.Frag) (Hd : Hp) (ps : List Addr) (v : V) : A → Prop
  | .d x => Dr K Hd v x
  | .o k => ∃ p, ps[k]? = some p ∧ v = .ref p
  | .p φ _ => φ Hd v
def CRp (K : PySem.W.Frag) (Hd H : Hp) (p : Addr) : C → Prop
  | .dead => True
  | .lst xs => Hd p = none ∧ ∃ vs, H p = some (.lst vs) ∧ DrA K Hd vs xs
  | .dK kvs => Hd p = none ∧ ∃ ws : List (Key × V), H p = some (.dK ws) ∧ Paired (fun a b => a.1 = b.1 ∧ Dr K Hd a.2 b.2) ws kvs

structure Rp (K : PySem.W.Frag) (b : B) (s : S) (σ : St) (H : Hp) (tv : List V) (ta : List A) (Hd : Hp) (ps : List Addr) : Prop where
  e0 : Same b.D0 Hd
  e1 : Same Hd H
  e2 : Same b.F H
  nw : ∀ a, b.F a ≠ none → b.D0 a = none → Hd a = none
  pl : ps.length = s.os.length
  nd : ps.Nodup
  p0 : ∃ more, ps = b.ps0 ++ more
  fr : ∀ p, p ∈ ps → b.F p = none
  ex : ∀ p, p ∈ ps → H p ≠ none
  cl : ∀ (k : Nat) cc p, s.os[k]? = some cc → ps[k]? = some p → CRp K Hd H p cc
  sl : ∀ (i : Nat) a, s.ss[i]? = some (some a) → ∃ v, σ[i]? = some (some v) ∧ AR K Hd ps v a
  ln : σ.length = s.ss.length
  tm : Paired (AR K Hd ps) tv ta

section
variable {b : B} {s : S} {σ : St} {H H' Hd Hd' : Hp} {tv : List V} {ta : List A} {ps : List Addr} {K : PySem.W.Frag}
theorem ar_up (e : Same Hd Hd') {v : V} : ∀ {a : A}, AR K Hd ps v a → AR K Hd' ps v a
  | .d x, h => dp_up e x v h
  | .o _, h => h
  | .p _ m, h => m _ _ _ e h
theorem ar_more {more : List Addr} {v : V} : ∀ {a : A}, AR K Hd ps v a → AR K Hd (ps ++ more) v a
  | .d _, h => h
  | .o _, h => by
    obtain ⟨p, e, r⟩ := h
    exact ⟨p, by rw [List.getElem?_append_left (List.getElem?_eq_some_iff.mp e).1]; exact e, r⟩
  | .p _ _, h => h
theorem cr_up (e : Same Hd Hd') {p : Addr} : ∀ {c : C}, CRp K Hd H p c → (Hd p = none → Hd' p = none) → (Hd p = none → ∀ o, H p = some o → H' p = some o) → CRp K Hd' H' p c
  | .dead, _, _, _ => trivial
  | .lst xs, ⟨n, vs, hp, ha⟩, h1, h2 => ⟨h1 n, vs, h2 n _ hp, da_up e xs vs ha⟩
  | .dK kvs, ⟨n, ws, hp, ha⟩, h1, h2 => ⟨h1 n, ws, h2 n _ hp, pair_mono (fun a c q => ⟨q.1, dp_up e _ _ q.2⟩) ha⟩

/-- the heap has grown, no cell has changed -/
theorem Rp.ext (r : Rp K b s σ H tv ta Hd ps) (h1 : Same Hd Hd') (h2 : Same Hd' H') (h3 : Same H H') (h4 : ∀ a, H a ≠ none → Hd a = none → Hd' a = none) : Rp K b s σ H' tv ta Hd' ps where
  e0 := r.e0.trans h1
  e1 := h2
  e2 := r.e2.trans h3
  nw := fun a ha hd => by
    have hH : H a ≠ none := by
      intro z
      apply ha
      cases q : b.F a with
      | none => rfl
      | some o => rw [r.e2 a o q] at z; cases z
    exact h4 a hH (r.nw a ha hd)
  pl := r.pl
  nd := r.nd
  p0 := r.p0
  fr := r.fr
  ex := fun p hp z => by
    have q := r.ex p hp
    cases e : H p with
    | none => exact q e
    | some o => rw [h3 p o e] at z; cases z
  cl := fun k cc p hk hp => by
    have q := r.cl k cc p hk hp
    cases cc with
    | dead => trivial
    | lst xs =>
      obtain ⟨n, vs, hv, ha⟩ := q
      exact ⟨h4 p (by rw [hv]; exact fun z => nomatch z) n, vs, h3 _ _ hv, da_up h1 xs vs ha⟩
    | dK kvs =>
      obtain ⟨n, ws, hv, ha⟩ := q
      exact ⟨h4 p (by rw [hv]; exact fun z => nomatch z) n, ws, h3 _ _ hv, pair_mono (fun a c q => ⟨q.1, dp_up h1 _ _ q.2⟩) ha⟩
  sl := fun i a hi => by
    obtain ⟨v, hv, ha⟩ := r.sl i a hi
    exact ⟨v, hv, ar_up h1 ha⟩
  ln := r.ln
  tm := pair_mono (fun _ _ q => ar_up h1 q) r.tm
theorem Rp.tmp (r : Rp K b s σ H tv ta Hd ps) {tv' : List V} {ta' : List A} (h : Paired (AR K Hd ps) tv' ta') : Rp K b s σ H tv' ta' Hd ps :=
  ⟨r.e0, r.e1, r.e2, r.nw, r.pl, r.nd, r.p0, r.fr, r.ex, r.cl, r.sl, r.ln, h⟩
theorem Rp.push (r : Rp K b s σ H tv ta Hd ps) {v : V} {a : A} (h : AR K Hd ps v a) : Rp K b s σ H (v :: tv) (a :: ta) Hd ps := r.tmp (.cons h r.tm)
theorem Rp.pop {v : V} {a : A} (r : Rp K b s σ H (v :: tv) (a :: ta) Hd ps) : Rp K b s σ H tv ta Hd ps ∧ AR K Hd ps v a := by
  cases id r.tm with
  | cons h t => exact ⟨r.tmp t, h⟩
theorem Rp.pushAll (r : Rp K b s σ H tv ta Hd ps) {vs : List V} {as : List A} (h : Paired (AR K Hd ps) vs as) : Rp K b s σ H (vs ++ tv) (as ++ ta) Hd ps := r.tmp (pair_app h r.tm)
theorem Rp.popAll {vs : List V} {as : List A} (r : Rp K b s σ H (vs ++ tv) (as ++ ta) Hd ps) (hl : vs.length = as.length) : Rp K b s σ H tv ta Hd ps ∧ Paired (AR K Hd ps) vs as := by
  obtain ⟨h, t⟩ := pair_split hl r.tm
  exact ⟨r.tmp t, h⟩
theorem none_of_same {H H' : Hp} (e : Same H H') {p : Addr} (h : H' p = none) : H p = none := by
  cases q : H p with
  | none => rfl
  | some o => rw [e p o q] at h; cases h
theorem same_new {H : Hp} {p : Addr} {o : HO} (h : H p = none) : Same H (upd H p o) := fun b x e => by
  rw [upd_ne (ne_of_none e h)]
  exact e
theorem same_upd2 {Hd H : Hp} (e : Same Hd H) (p : Addr) (o : HO) : Same (upd Hd p o) (upd H p o) := fun b x q => by
  by_cases z : b = p
  · subst z
    rw [upd_same] at q ⊢
    exact q
  · rw [upd_ne z] at q ⊢
    exact e _ _ q
/-- a new thing among the data -/
theorem Rp.newD (r : Rp K b s σ H tv ta Hd ps) {p : Addr} (o : HO) (h : H p = none) : Rp K b s σ (upd H p o) tv ta (upd Hd p o) ps :=
  r.ext (same_new (none_of_same r.e1 h)) (same_upd2 r.e1 p o) (same_new h) fun a ha hd => by
    have z : a ≠ p := fun e => ha (by rw [e]; exact h)
    rw [upd_ne z]
    exact hd
theorem da_of_ars {vs : List V} {xs : List PyData} (h : Paired (AR K Hd ps) vs (xs.map A.d)) : DrA K Hd vs xs := by
  induction xs generalizing vs with
  | nil => cases h; exact .nil
  | cons x xs ih =>
    cases h with
    | cons q t => exact .cons q (ih t)
theorem ars_of_da : ∀ {vs : List V} {xs : List PyData}, DrA K Hd vs xs → Paired (AR K Hd ps) vs (xs.map A.d)
  | _, _, .nil => .nil
  | _, _, .cons h t => .cons h (ars_of_da t)
theorem Rp.newTup (r : Rp K b s σ H tv ta Hd ps) {p : Addr} (h : H p = none) {vs : List V} {xs : List PyData} (hv : Paired (AR K Hd ps) vs (xs.map A.d)) :
    Rp K b s σ (upd H p (.tup vs)) tv ta (upd Hd p (.tup vs)) ps ∧ AR K (upd Hd p (.tup vs)) ps (.ref p) (.d (.tuple xs)) :=
  ⟨r.newD _ h, .tup (.inl (.inl upd_same)) (da_up (same_new (none_of_same r.e1 h)) _ _ (da_of_ars hv))⟩
theorem Rp.newLst (r : Rp K b s σ H tv ta Hd ps) {p : Addr} (h : H p = none) {vs : List V} {xs : List PyData} (hv : Paired (AR K Hd ps) vs (xs.map A.d)) :
    Rp K b s σ (upd H p (.lst vs)) tv ta (upd Hd p (.lst vs)) ps ∧ AR K (upd Hd p (.lst vs)) ps (.ref p) (.d (.list xs)) :=
  ⟨r.newD _ h, .lst upd_same (da_up (same_new (none_of_same r.e1 h)) _ _ (da_of_ars hv))⟩
theorem Rp.inH (r : Rp K b s σ H tv ta Hd ps) {k : Nat} {cc : C} {p : Addr} (hk : s.os[k]? = some cc) (hp : ps[k]? = some p) (hd : cc ≠ .dead) : Hd p = none ∧ ∃ o, H p = some o := by
  have q := r.cl k cc p hk hp
  cases cc with
  | dead => exact absurd rfl hd
  | lst xs => exact ⟨q.1, _, q.2.choose_spec.1⟩
  | dK kvs => exact ⟨q.1, _, q.2.choose_spec.1⟩
end

/-! ### own cells -/
def S.put (s : S) (k : Nat) (c : C) : S := ⟨s.ss, s.os.set k c⟩
def S.set (s : S) (i : Nat) (a : A) : S := ⟨s.ss.set i (some a), s.os⟩
def S.add (s : S) (c : C) : S := ⟨s.ss, s.os ++ [c]⟩
/-- own cell k is from now on data -/
def frA (k : Nat) (x : PyData) : Option A → Option A
  | some (.o j) => if j = k then some (.d x) else some (.o j)
  | a => a
def S.frz (s : S) (k : Nat) (xs : List PyData) : S := ⟨s.ss.map (frA k (.list xs)), s.os.set k .dead⟩
section
variable {b : B} {s : S} {σ : St} {H H' Hd Hd' : Hp} {tv : List V} {ta : List A} {ps : List Addr} {K : PySem.W.Frag}
theorem nd_ne {ps : List Addr} (h : ps.Nodup) {i j : Nat} {p q : Addr} (hi : ps[i]? = some p) (hj : ps[j]? = some q) (ne : i ≠ j) : p ≠ q := by
  obtain ⟨li, ei⟩ := List.getElem?_eq_some_iff.mp hi
  obtain ⟨lj, ej⟩ := List.getElem?_eq_some_iff.mp hj
  rcases Nat.lt_or_gt_of_ne ne with l | l
  · have := (List.pairwise_iff_getElem.mp h) i j li lj l
    rw [ei, ej] at this
    exact this
  · have := (List.pairwise_iff_getElem.mp h) j i lj li l
    rw [ei, ej] at this
    exact fun e => this e.symm
/-- an own cell changes -/
theorem Rp.put (r : Rp K b s σ H tv ta Hd ps) {k : Nat} {c cc : C} {p : Addr} {o : HO} (hk : s.os[k]? = some cc) (hp : ps[k]? = some p) (hc : cc ≠ .dead) (hn : CRp K Hd (upd H p o) p c) :
    Rp K b (s.put k c) σ (upd H p o) tv ta Hd ps where
  e0 := r.e0
  e1 := fun a x e => by
    have z : a ≠ p := ne_of_none e (r.inH hk hp hc).1
    rw [upd_ne z]
    exact r.e1 a x e
  e2 := fun a x e => by
    have z : a ≠ p := ne_of_none e (r.fr p (List.mem_of_getElem? hp))
    rw [upd_ne z]
    exact r.e2 a x e
  nw := r.nw
  pl := by rw [r.pl]; show _ = (s.os.set k c).length; rw [List.length_set]
  nd := r.nd
  p0 := r.p0
  fr := r.fr
  ex := fun q hq z => by
    by_cases e : q = p
    · subst e; rw [upd_same] at z; cases z
    · rw [upd_ne e] at z; exact r.ex q hq z
  cl := fun j cj q hj hq => by
    by_cases e : j = k
    · subst e
      rw [hp] at hq
      cases hq
      have hl : j < s.os.length := (List.getElem?_eq_some_iff.mp hk).1
      have : (s.os.set j c)[j]? = some c := List.getElem?_set_self hl
      rw [show (s.put j c).os = s.os.set j c from rfl, this] at hj
      cases hj
      exact hn
    · have hj' : s.os[j]? = some cj := by
        rw [show (s.put k c).os = s.os.set k c from rfl, List.getElem?_set_ne (Ne.symm e)] at hj
        exact hj
      have z : q ≠ p := nd_ne r.nd hq hp e
      exact cr_up (Same.refl Hd) (r.cl j cj q hj' hq) (fun x => x) fun _ o' ho => by
        rw [upd_ne z]
        exact ho
  sl := r.sl
  ln := r.ln
  tm := r.tm
/-- a new own cell -/
theorem Rp.new (r : Rp K b s σ H tv ta Hd ps) {p : Addr} {c : C} {o : HO} (h : H p = none) (hn : CRp K Hd (upd H p o) p c) :
    Rp K b (s.add c) σ (upd H p o) tv ta Hd (ps ++ [p]) ∧ AR K Hd (ps ++ [p]) (.ref p) (.o s.os.length) := by
  refine ⟨⟨r.e0, fun a x e => ?_, fun a x e => ?_, r.nw, ?_, ?_, ?_, ?_, ?_, ?_, ?_, r.ln, pair_mono (fun _ _ q => ar_more q) r.tm⟩, p, ?_, rfl⟩
  · rw [upd_ne (ne_of_none (r.e1 a x e) h)]
    exact r.e1 a x e
  · rw [upd_ne (ne_of_none (r.e2 a x e) h)]
    exact r.e2 a x e
  · show (ps ++ [p]).length = (s.os ++ [c]).length
    rw [List.length_append, List.length_append, r.pl]
    rfl
  · refine List.nodup_append.mpr ⟨r.nd, List.pairwise_singleton _ _, fun a ha c hc e => ?_⟩
    rw [List.mem_singleton.mp hc] at e
    exact r.ex a ha (by rw [e]; exact h)
  · obtain ⟨more, e⟩ := r.p0
    exact ⟨more ++ [p], by rw [e, List.append_assoc]⟩
  · intro q hq
    rcases List.mem_append.mp hq with hq | hq
    · exact r.fr q hq
    · rw [List.mem_singleton.mp hq]
      exact none_of_same r.e2 h
  · intro q hq z
    rcases List.mem_append.mp hq with hq | hq
    · by_cases e : q = p
      · subst e; rw [upd_same] at z; cases z
      · rw [upd_ne e] at z; exact r.ex q hq z
    · rw [List.mem_singleton.mp hq, upd_same] at z
      cases z
  · intro k cc q hk hq
    by_cases hl : k < s.os.length
    · have hk' : s.os[k]? = some cc := by rw [show (s.add c).os = s.os ++ [c] from rfl, List.getElem?_append_left hl] at hk; exact hk
      have hq' : ps[k]? = some q := by rw [List.getElem?_append_left (by rw [r.pl]; exact hl)] at hq; exact hq
      refine cr_up (Same.refl Hd) (r.cl k cc q hk' hq') (fun x => x) fun _ o' ho => ?_
      rw [upd_ne (ne_of_none ho h)]
      exact ho
    · have e : k = s.os.length := by
        have := (List.getElem?_eq_some_iff.mp hk).1
        rw [show (s.add c).os = s.os ++ [c] from rfl, List.length_append, List.length_singleton] at this
        omega
      subst e
      rw [show (s.add c).os = s.os ++ [c] from rfl, List.getElem?_concat_length] at hk
      cases hk
      rw [← r.pl, List.getElem?_concat_length] at hq
      cases hq
      exact hn
  · intro i a hi
    obtain ⟨v, hv, ha⟩ := r.sl i a hi
    exact ⟨v, hv, ar_more ha⟩
  · rw [← r.pl, List.getElem?_concat_length]

theorem frA_ar {k : Nat} {p : Addr} {vs : List V} {xs : List PyData} (hp : ps[k]? = some p) (hl : AR K Hd' ps (.ref p) (.d (.list xs))) (e : Same Hd Hd') {v : V} {a a' : A} (h : AR K Hd ps v a) (hf : frA k (.list xs) (some a) = some a') : AR K Hd' ps v a' := by
  cases a with
  | d x => cases hf; exact ar_up e (a := .d x) h
  | p φ m => cases hf; exact ar_up e (a := .p φ m) h
  | o j =>
    by_cases z : j = k
    · subst z
      simp only [frA, if_true] at hf
      cases hf
      obtain ⟨q, hq, rfl⟩ := h
      rw [hp] at hq
      cases hq
      exact hl
    · simp only [frA, if_neg z] at hf
      cases hf
      exact h
/-- an own list is from now on data -/
theorem Rp.frz (r : Rp K b s σ H tv ta Hd ps) {k : Nat} {xs : List PyData} (hk : s.os[k]? = some (.lst xs)) : ∃ Hd', Same Hd Hd' ∧ Rp K b (s.frz k xs) σ H tv ta Hd' ps ∧ ∀ v, AR K Hd ps v (.o k) → AR K Hd' ps v (.d (.list xs)) := by
  have hlt : k < ps.length := by rw [r.pl]; exact (List.getElem?_eq_some_iff.mp hk).1
  obtain ⟨p, hp⟩ : ∃ p, ps[k]? = some p := ⟨ps[k], List.getElem?_eq_getElem hlt⟩
  obtain ⟨hn, vs, hv, ha⟩ := r.cl k _ p hk hp
  have hs : Same Hd (upd Hd p (.lst vs)) := same_new hn
  have hl : AR K (upd Hd p (.lst vs)) ps (.ref p) (.d (.list xs)) := .lst upd_same (da_up hs xs vs ha)
  refine ⟨upd Hd p (.lst vs), hs, ⟨r.e0.trans hs, fun a x e => ?_, r.e2, fun a ha hd => ?_, ?_, r.nd, r.p0, r.fr, r.ex, ?_, ?_, ?_, pair_mono (fun _ _ q => ar_up hs q) r.tm⟩, fun v h => ?_⟩
  · by_cases z : a = p
    · subst z
      rw [upd_same] at e
      cases e
      exact hv
    · rw [upd_ne z] at e
      exact r.e1 a x e
  · have z : a ≠ p := fun e => ha (by rw [e]; exact r.fr p (List.mem_of_getElem? hp))
    rw [upd_ne z]
    exact r.nw a ha hd
  · rw [r.pl]
    show _ = (s.os.set k .dead).length
    rw [List.length_set]
  · intro j cj q hj hq
    by_cases e : j = k
    · subst e
      have : (s.os.set j C.dead)[j]? = some C.dead := List.getElem?_set_self (List.getElem?_eq_some_iff.mp hk).1
      rw [show (s.frz j xs).os = s.os.set j .dead from rfl, this] at hj
      cases hj
      trivial
    · have hj' : s.os[j]? = some cj := by
        rw [show (s.frz k xs).os = s.os.set k .dead from rfl, List.getElem?_set_ne (Ne.symm e)] at hj
        exact hj
      have z : q ≠ p := nd_ne r.nd hq hp e
      exact cr_up hs (r.cl j cj q hj' hq) (fun x => by rw [upd_ne z]; exact x) fun _ o' ho => ho
  · intro i a hi
    rw [show (s.frz k xs).ss = s.ss.map (frA k (.list xs)) from rfl, List.getElem?_map] at hi
    cases e : s.ss[i]? with
    | none => rw [e] at hi; cases hi
    | some oa =>
      rw [e] at hi
      cases oa with
      | none => cases hi
      | some a0 =>
        obtain ⟨v, hv, har⟩ := r.sl i a0 e
        exact ⟨v, hv, frA_ar (vs := vs) hp hl hs har (Option.some.inj hi)⟩
  · rw [r.ln]
    show _ = (s.ss.map _).length
    rw [List.length_map]
  · obtain ⟨q, hq, rfl⟩ := h
    rw [hp] at hq
    cases hq
    exact hl
end
/-! ### judgements over the abstract state -/
def EV (K : PySem.W.Frag) (b : B) (te : TE) (s : S) (Φ : A → S → Prop) : Prop := ∀ σ H tv ta Hd ps, Rp K b s σ H tv ta Hd ps → ∀ Q : VK,
  (∀ v H' a s' Hd' ps', Φ a s' → Rp K b s' σ H' tv ta Hd' ps' → AR K Hd' ps' v a → Q v H') → te σ H Q
def ET (K : PySem.W.Frag) (b : B) (tt : TT) (s : S) (Φ : Bool → S → Prop) : Prop := ∀ σ H tv ta Hd ps, Rp K b s σ H tv ta Hd ps → ∀ Q : Bool → Hp → Prop,
  (∀ k H' s' Hd' ps', Φ k s' → Rp K b s' σ H' tv ta Hd' ps' → Q k H') → tt σ H Q
def EA (K : PySem.W.Frag) (b : B) (t : TA) (s : S) (Φ : List A → S → Prop) : Prop := ∀ σ H tv ta Hd ps, Rp K b s σ H tv ta Hd ps → ∀ Q : List V → Hp → Prop,
  (∀ vs H' as s' Hd' ps', Φ as s' → Rp K b s' σ H' tv ta Hd' ps' → Paired (AR K Hd' ps') vs as → Q vs H') → t σ H Q
def EO (K : PySem.W.Frag) (b : B) (t : TO) (s : S) (Φ : Option Int → S → Prop) : Prop := ∀ σ H tv ta Hd ps, Rp K b s σ H tv ta Hd ps → ∀ Q : Option Int → Hp → Prop,
  (∀ o H' s' Hd' ps', Φ o s' → Rp K b s' σ H' tv ta Hd' ps' → Q o H') → t σ H Q
/-- of values: an operator, a one-place thing, a call, a method -/
def V2 (K : PySem.W.Frag) (b : B) (r : R2) (x y : A) (s : S) (Φ : A → S → Prop) : Prop := ∀ σ H tv ta Hd ps v w, Rp K b s σ H tv ta Hd ps → AR K Hd ps v x → AR K Hd ps w y → ∀ Q : VK,
  (∀ u H' a s' Hd' ps', Φ a s' → Rp K b s' σ H' tv ta Hd' ps' → AR K Hd' ps' u a → Q u H') → r v w H Q
def V1 (K : PySem.W.Frag) (b : B) (r : V → Hp → VK → Prop) (x : A) (s : S) (Φ : A → S → Prop) : Prop := ∀ σ H tv ta Hd ps v, Rp K b s σ H tv ta Hd ps → AR K Hd ps v x → ∀ Q : VK,
  (∀ u H' a s' Hd' ps', Φ a s' → Rp K b s' σ H' tv ta Hd' ps' → AR K Hd' ps' u a → Q u H') → r v H Q
def VC (K : PySem.W.Frag) (b : B) (r : List V → Hp → VK → Prop) (as : List A) (s : S) (Φ : A → S → Prop) : Prop := ∀ σ H tv ta Hd ps vs, Rp K b s σ H tv ta Hd ps → Paired (AR K Hd ps) vs as → ∀ Q : VK,
  (∀ u H' a s' Hd' ps', Φ a s' → Rp K b s' σ H' tv ta Hd' ps' → AR K Hd' ps' u a → Q u H') → r vs H Q
def VM (K : PySem.W.Frag) (b : B) (r : V → List V → Hp → VK → Prop) (x : A) (as : List A) (s : S) (Φ : A → S → Prop) : Prop := ∀ σ H tv ta Hd ps v vs, Rp K b s σ H tv ta Hd ps → AR K Hd ps v x → Paired (AR K Hd ps) vs as → ∀ Q : VK,
  (∀ u H' a s' Hd' ps', Φ a s' → Rp K b s' σ H' tv ta Hd' ps' → AR K Hd' ps' u a → Q u H') → r v vs H Q
/-- a target -/
def GT (K : PySem.W.Frag) (b : B) (g : TG) (a : A) (s : S) (N : S → Prop) : Prop := ∀ σ H tv ta Hd ps v, Rp K b s σ H tv ta Hd ps → AR K Hd ps v a → ∀ Q : L2.St → Hp → Prop,
  (∀ σ' H' s' Hd' ps', N s' → Rp K b s' σ' H' tv ta Hd' ps' → Q σ' H') → g v σ H Q
def GTs (K : PySem.W.Frag) (b : B) (g : TGs) (as : List A) (s : S) (N : S → Prop) : Prop := ∀ σ H tv ta Hd ps vs, Rp K b s σ H tv ta Hd ps → Paired (AR K Hd ps) vs as → ∀ Q : L2.St → Hp → Prop,
  (∀ σ' H' s' Hd' ps', N s' → Rp K b s' σ' H' tv ta Hd' ps' → Q σ' H') → g vs σ H Q
/-- a statement: what it reaches by its four ends -/
structure EE where
  nx : S → Prop
  rt : A → S → Prop
  bk : S → Prop := fun _ => False
  ct : S → Prop := fun _ => False
structure Dk (K : PySem.W.Frag) (b : B) (D : Ends) (N : EE) (tv : List V) (ta : List A) : Prop where
  nx : ∀ σ H s Hd ps, N.nx s → Rp K b s σ H tv ta Hd ps → D.nx σ H
  rt : ∀ v σ H a s Hd ps, N.rt a s → Rp K b s σ H tv ta Hd ps → AR K Hd ps v a → D.rt v H
  bk : ∀ σ H s Hd ps, N.bk s → Rp K b s σ H tv ta Hd ps → D.bk σ H
  ct : ∀ σ H s Hd ps, N.ct s → Rp K b s σ H tv ta Hd ps → D.ct σ H
def GO (K : PySem.W.Frag) (b : B) (t : TS) (s : S) (N : EE) : Prop := ∀ D σ H tv ta Hd ps, Rp K b s σ H tv ta Hd ps → Dk K b D N tv ta → t D σ H

section
variable {K : PySem.W.Frag} {b : B} {s s1 : S} {te ta tb tc : TE} {tt tu : TT} {t : TA} {x y : A} {Φ Ψ : A → S → Prop} {r : R2}
/-! ### expressions -/
def noO : List A → Bool
  | [] => true
  | .o _ :: _ => false
  | .d _ :: l => noO l
  | .p _ _ :: l => noO l
theorem noO_ok : ∀ {as : List A}, noO as = true → ∀ a, a ∈ as → ∀ k, a ≠ .o k
  | .d x :: l, h, a, ha, k, e => by
    rcases List.mem_cons.mp ha with z | z
    · rw [z] at e; cases e
    · exact noO_ok (as := l) h a z k e
  | .p φ m :: l, h, a, ha, k, e => by
    rcases List.mem_cons.mp ha with z | z
    · rw [z] at e; cases e
    · exact noO_ok (as := l) h a z k e
def undA : List A → Option (List PyData)
  | [] => some []
  | .d x :: l => (undA l).map (x :: ·)
  | _ :: _ => none
theorem undA_eq : ∀ {as : List A} {xs : List PyData}, undA as = some xs → as = xs.map A.d
  | [], xs, h => by cases h; rfl
  | .d x :: l, xs, h => by
    cases q : undA l with
    | none => simp [undA, q] at h
    | some ys =>
      simp [undA, q] at h
      subst h
      rw [undA_eq q]
      rfl
theorem le_of_ble {xs : List PyData} (h : Nat.ble xs.length 1000 = true) : xs.length ≤ sizeLine := Nat.le_trans (Nat.le_of_ble_eq_true h) (by decide)
theorem ev_var {i : Nat} {a : A} (h : s.ss[i]? = some (some a)) (q : Φ a s) : EV K b (tVar i) s Φ := fun σ H tv tl Hd ps R Q k => by
  obtain ⟨v, hv, ha⟩ := R.sl i a h
  exact ⟨v, hv, k v H a s Hd ps q R ha⟩
theorem ev_frz {i k : Nat} {xs : List PyData} (h : s.ss[i]? = some (some (.o k))) (hk : s.os[k]? = some (.lst xs)) (q : Φ (.d (.list xs)) (s.frz k xs)) : EV K b (tVar i) s Φ := fun σ H tv tl Hd ps R Q z => by
  obtain ⟨v, hv, ha⟩ := R.sl i _ h
  obtain ⟨Hd', _, R', h'⟩ := R.frz hk
  exact ⟨v, hv, z v H _ _ Hd' ps q R' (h' v ha)⟩
theorem ev_int {i : Int} (q : Φ (.d (.int i)) s) : EV K b (tC (.int i)) s Φ := fun σ H tv tl Hd ps R Q k => k _ H _ s Hd ps q R (.int i)
theorem ev_bl {i : Bool} (q : Φ (.d (.bool i)) s) : EV K b (tC (.bl i)) s Φ := fun σ H tv tl Hd ps R Q k => k _ H _ s Hd ps q R (.bl i)
theorem ev_str {i : Str} (q : Φ (.d (.str i)) s) : EV K b (tC (.str i)) s Φ := fun σ H tv tl Hd ps R Q k => k _ H _ s Hd ps q R (.str i)
theorem ev_non (q : Φ (.d .none) s) : EV K b (tC .non) s Φ := fun σ H tv tl Hd ps R Q k => k _ H _ s Hd ps q R .non
theorem ev_op (h : EV K b ta s fun x s1 => EV K b tb s1 fun y s2 => V2 K b r x y s2 Φ) : EV K b (tOp r ta tb) s Φ := fun σ H tv tl Hd ps R Q k =>
  h σ H tv tl Hd ps R _ fun v H1 x s1 Hd1 ps1 h1 R1 a1 => h1 σ H1 (v :: tv) (x :: tl) Hd1 ps1 (R1.push a1) _ fun w H2 y s2 Hd2 ps2 h2 R2 a2 =>
    h2 σ H2 tv tl Hd2 ps2 v w R2.pop.1 R2.pop.2 a2 Q k
theorem ev_un {r : V → Hp → VK → Prop} (h : EV K b ta s fun x s1 => V1 K b r x s1 Φ) : EV K b (tUn r ta) s Φ := fun σ H tv tl Hd ps R Q k =>
  h σ H tv tl Hd ps R _ fun v H1 x s1 Hd1 ps1 h1 R1 a1 => h1 σ H1 tv tl Hd1 ps1 v R1 a1 Q k
theorem ea_nil {Φ : List A → S → Prop} (q : Φ [] s) : EA K b tNil s Φ := fun σ H tv tl Hd ps R Q k => k [] H [] s Hd ps q R .nil
theorem ea_cons {Φ : List A → S → Prop} (h : EV K b ta s fun x s1 => EA K b t s1 fun as s2 => Φ (x :: as) s2) : EA K b (tCons ta t) s Φ := fun σ H tv tl Hd ps R Q k =>
  h σ H tv tl Hd ps R _ fun v H1 x s1 Hd1 ps1 h1 R1 a1 => h1 σ H1 (v :: tv) (x :: tl) Hd1 ps1 (R1.push a1) _ fun vs H2 as s2 Hd2 ps2 h2 R2 a2 =>
    k (v :: vs) H2 (x :: as) s2 Hd2 ps2 h2 R2.pop.1 (.cons R2.pop.2 a2)
theorem ev_tup {Φ : A → S → Prop} (h : EA K b t s fun as s1 => ∃ xs, undA as = some xs ∧ Nat.ble xs.length 1000 = true ∧ Φ (.d (.tuple xs)) s1) : EV K b (tTup t) s Φ := fun σ H tv tl Hd ps R Q k =>
  h σ H tv tl Hd ps R _ fun vs H1 as s1 Hd1 ps1 h1 R1 a1 => by
    obtain ⟨xs, ex, hl, q⟩ := h1
    have hl := le_of_ble hl
    rw [undA_eq ex] at a1
    have e := pair_len a1
    rw [List.length_map] at e
    refine ⟨by rw [e]; exact hl, fun p hp => ?_⟩
    obtain ⟨R2, a2⟩ := R1.newTup hp a1
    exact k _ _ _ _ _ _ q R2 a2
/-- a list that is data from the start -/
theorem ev_lst {Φ : A → S → Prop} (h : EA K b t s fun as s1 => ∃ xs, undA as = some xs ∧ Nat.ble xs.length 1000 = true ∧ Φ (.d (.list xs)) s1) : EV K b (tLst t) s Φ := fun σ H tv tl Hd ps R Q k =>
  h σ H tv tl Hd ps R _ fun vs H1 as s1 Hd1 ps1 h1 R1 a1 => by
    obtain ⟨xs, ex, hl, q⟩ := h1
    have hl := le_of_ble hl
    rw [undA_eq ex] at a1
    have e := pair_len a1
    rw [List.length_map] at e
    refine ⟨by rw [e]; exact hl, fun p hp => ?_⟩
    obtain ⟨R2, a2⟩ := R1.newLst hp a1
    exact k _ _ _ _ _ _ q R2 a2
/-- a list of one's own -/
theorem ev_lstO {Φ : A → S → Prop} (h : EA K b t s fun as s1 => ∃ xs, undA as = some xs ∧ Nat.ble xs.length 1000 = true ∧ Φ (.o s1.os.length) (s1.add (.lst xs))) : EV K b (tLst t) s Φ := fun σ H tv tl Hd ps R Q k =>
  h σ H tv tl Hd ps R _ fun vs H1 as s1 Hd1 ps1 h1 R1 a1 => by
    obtain ⟨xs, ex, hl, q⟩ := h1
    have hl := le_of_ble hl
    rw [undA_eq ex] at a1
    have e := pair_len a1
    rw [List.length_map] at e
    refine ⟨by rw [e]; exact hl, fun p hp => ?_⟩
    obtain ⟨R2, a2⟩ := R1.new (c := .lst xs) (o := .lst vs) hp ⟨none_of_same R1.e1 hp, vs, upd_same, da_of_ars a1⟩
    exact k _ _ _ _ _ _ q R2 a2
theorem ev_if (h : ET K b tt s fun k s1 => (k = true → EV K b ta s1 Φ) ∧ (k = false → EV K b tb s1 Φ)) : EV K b (tIf tt ta tb) s Φ := fun σ H tv tl Hd ps R Q k =>
  h σ H tv tl Hd ps R _ fun c H1 s1 Hd1 ps1 h1 R1 => by
    cases c with
    | true => exact h1.1 rfl σ H1 tv tl Hd1 ps1 R1 Q k
    | false => exact h1.2 rfl σ H1 tv tl Hd1 ps1 R1 Q k
theorem ev_cb {rc : List V → Hp → VK → Prop} (h : EA K b t s fun as s1 => VC K b rc as s1 Φ) : EV K b (tCB rc t) s Φ := fun σ H tv tl Hd ps R Q k =>
  h σ H tv tl Hd ps R _ fun vs H1 as s1 Hd1 ps1 h1 R1 a1 => h1 σ H1 tv tl Hd1 ps1 vs R1 a1 Q k
/-! tests -/
theorem et_test {Φ : Bool → S → Prop} (h : EV K b ta s fun a s1 => ∃ k, a = .d (.bool k) ∧ Φ k s1) : ET K b (tTest ta) s Φ := fun σ H tv tl Hd ps R Q k =>
  h σ H tv tl Hd ps R _ fun v H1 a s1 Hd1 ps1 h1 R1 a1 => by
    obtain ⟨c, rfl, q⟩ := h1
    cases a1
    exact ⟨c, rfl, k c H1 s1 Hd1 ps1 q R1⟩
theorem et_B {Φ : Bool → S → Prop} (h : EV K b ta s fun a s1 => ∃ k, a = .d (.bool k) ∧ Φ k s1) : ET K b (tB ta) s Φ := et_test h
theorem et_and {Φ : Bool → S → Prop} (h : ET K b tt s fun k s1 => (k = true → ET K b tu s1 Φ) ∧ (k = false → Φ false s1)) : ET K b (tAnd tt tu) s Φ := fun σ H tv tl Hd ps R Q k =>
  h σ H tv tl Hd ps R _ fun c H1 s1 Hd1 ps1 h1 R1 => by
    cases c with
    | true => exact h1.1 rfl σ H1 tv tl Hd1 ps1 R1 Q k
    | false => exact k false H1 s1 Hd1 ps1 (h1.2 rfl) R1
theorem et_or {Φ : Bool → S → Prop} (h : ET K b tt s fun k s1 => (k = true → Φ true s1) ∧ (k = false → ET K b tu s1 Φ)) : ET K b (tOr tt tu) s Φ := fun σ H tv tl Hd ps R Q k =>
  h σ H tv tl Hd ps R _ fun c H1 s1 Hd1 ps1 h1 R1 => by
    cases c with
    | false => exact h1.2 rfl σ H1 tv tl Hd1 ps1 R1 Q k
    | true => exact k true H1 s1 Hd1 ps1 (h1.1 rfl) R1
theorem et_not {Φ : Bool → S → Prop} (h : ET K b tt s fun k s1 => Φ (!k) s1) : ET K b (tNot tt) s Φ := fun σ H tv tl Hd ps R Q k =>
  h σ H tv tl Hd ps R _ fun c H1 s1 Hd1 ps1 h1 R1 => k _ H1 s1 Hd1 ps1 h1 R1
theorem ev_andV (h : EV K b ta s fun a s1 => ∃ k, a = .d (.bool k) ∧ (k = true → EV K b tb s1 Φ) ∧ (k = false → Φ (.d (.bool false)) s1)) : EV K b (tAndV ta tb) s Φ := fun σ H tv tl Hd ps R Q k =>
  h σ H tv tl Hd ps R _ fun v H1 a s1 Hd1 ps1 h1 R1 a1 => by
    obtain ⟨c, rfl, q1, q2⟩ := h1
    cases a1
    refine ⟨c, rfl, ?_⟩
    cases c with
    | true => exact q1 rfl σ H1 tv tl Hd1 ps1 R1 Q k
    | false => exact k _ H1 _ s1 Hd1 ps1 (q2 rfl) R1 (.bl false)
theorem ev_orV (h : EV K b ta s fun a s1 => ∃ k, a = .d (.bool k) ∧ (k = true → Φ (.d (.bool true)) s1) ∧ (k = false → EV K b tb s1 Φ)) : EV K b (tOrV ta tb) s Φ := fun σ H tv tl Hd ps R Q k =>
  h σ H tv tl Hd ps R _ fun v H1 a s1 Hd1 ps1 h1 R1 a1 => by
    obtain ⟨c, rfl, q1, q2⟩ := h1
    cases a1
    refine ⟨c, rfl, ?_⟩
    cases c with
    | false => exact q2 rfl σ H1 tv tl Hd1 ps1 R1 Q k
    | true => exact k _ H1 _ s1 Hd1 ps1 (q1 rfl) R1 (.bl true)
theorem ev_notV (h : EV K b ta s fun a s1 => ∃ k, a = .d (.bool k) ∧ Φ (.d (.bool (!k))) s1) : EV K b (tNotV ta) s Φ := fun σ H tv tl Hd ps R Q k =>
  h σ H tv tl Hd ps R _ fun v H1 a s1 Hd1 ps1 h1 R1 a1 => by
    obtain ⟨c, rfl, q⟩ := h1
    cases a1
    exact ⟨c, rfl, k _ H1 _ s1 Hd1 ps1 q R1 (.bl _)⟩
theorem ev_chain {r r' : R2} (h : EV K b ta s fun x s1 => EV K b tb s1 fun y s2 => V2 K b r x y s2 fun z s3 => ∃ k, z = .d (.bool k) ∧ (k = true → EV K b tc s3 fun w s4 => V2 K b r' y w s4 Φ) ∧ (k = false → Φ (.d (.bool false)) s3)) :
    EV K b (tChain r r' ta tb tc) s Φ := fun σ H tv tl Hd ps R Q k =>
  h σ H tv tl Hd ps R _ fun v H1 x s1 Hd1 ps1 h1 R1 a1 => h1 σ H1 (v :: tv) (x :: tl) Hd1 ps1 (R1.push a1) _ fun w H2 y s2 Hd2 ps2 h2 R2 a2 => by
    refine h2 σ H2 (w :: tv) (y :: tl) Hd2 ps2 v w (R2.pop.1.push a2) R2.pop.2 a2 _ fun u H3 z s3 Hd3 ps3 h3 R3 a3 => ?_
    obtain ⟨c, rfl, q1, q2⟩ := h3
    cases a3
    refine ⟨c, rfl, ?_⟩
    cases c with
    | false => exact k _ H3 _ s3 Hd3 ps3 (q2 rfl) R3.pop.1 (.bl false)
    | true => exact q1 rfl σ H3 (w :: tv) (y :: tl) Hd3 ps3 R3 _ fun u' H4 z' s4 Hd4 ps4 h4 R4 a4 => h4 σ H4 tv tl Hd4 ps4 w u' R4.pop.1 R4.pop.2 a4 Q k
end
section
variable {K : PySem.W.Frag} {b : B} {s s1 : S} {te ta tb tc : TE} {tt tu : TT} {t : TA} {x y : A} {Φ Ψ : A → S → Prop} {r r' : R2}
/-! ### values -/
/-- a thing to be read: data, or an own list -/
def Vw (s : S) : A → PyData → Prop
  | .d x, y => x = y
  | .o k, y => ∃ xs, s.os[k]? = some (.lst xs) ∧ y = .list xs
  | .p _ _, _ => False
theorem vw_dr {b : B} {σ : L2.St} {H Hd : Hp} {tv : List V} {ta : List A} {ps : List Addr} (R : Rp K b s σ H tv ta Hd ps) {v : V} {d : PyData} : ∀ {a : A}, AR K Hd ps v a → Vw s a d → Dr K H v d
  | .d x, h, e => by
    cases e
    exact dp_up R.e1 _ _ h
  | .o k, ⟨p, hp, e⟩, ⟨xs, hk, e2⟩ => by
    subst e e2
    obtain ⟨_, vs, hv, ha⟩ := R.cl k _ p hk hp
    exact .lst hv (da_up R.e1 _ _ ha)
theorem v2_l (h : V2 K b r x y s Φ) : V2 K b (fun x y H Q => r x y H Q ∨ r' x y H Q) x y s Φ := fun σ H tv tl Hd ps v w R a1 a2 Q k => .inl (h σ H tv tl Hd ps v w R a1 a2 Q k)
theorem v2_r (h : V2 K b r' x y s Φ) : V2 K b (fun x y H Q => r x y H Q ∨ r' x y H Q) x y s Φ := fun σ H tv tl Hd ps v w R a1 a2 Q k => .inr (h σ H tv tl Hd ps v w R a1 a2 Q k)
theorem v2_ii {f : Int → Int → Int} {i j : Int} (q : Φ (.d (.int (f i j))) s) : V2 K b (rI0 fun i j => .int (f i j)) (.d (.int i)) (.d (.int j)) s Φ := fun σ H tv tl Hd ps v w R a1 a2 Q k => by
  cases a1; cases a2
  exact ⟨i, j, rfl, rfl, k _ H _ s Hd ps q R (.int _)⟩
theorem v2_ib {f : Int → Int → Bool} {i j : Int} (q : Φ (.d (.bool (f i j))) s) : V2 K b (rI0 fun i j => .bl (f i j)) (.d (.int i)) (.d (.int j)) s Φ := fun σ H tv tl Hd ps v w R a1 a2 Q k => by
  cases a1; cases a2
  exact ⟨i, j, rfl, rfl, k _ H _ s Hd ps q R (.bl _)⟩
theorem v2_ic {C : Int → Int → Prop} {f : Int → Int → Int} {i j : Int} (c : C i j) (q : Φ (.d (.int (f i j))) s) : V2 K b (rI C fun i j => .int (f i j)) (.d (.int i)) (.d (.int j)) s Φ := fun σ H tv tl Hd ps v w R a1 a2 Q k => by
  cases a1; cases a2
  exact ⟨i, j, rfl, rfl, c, k _ H _ s Hd ps q R (.int _)⟩
theorem v2_eq {d e : PyData} (h1 : Vw s x d) (h2 : Vw s y e) (z1 : SeqAt.shaped d = true) (z2 : SeqAt.shaped e = true) (q : Φ (.d (.bool (PyData.eqv d e))) s) : V2 K b (rEqD K) x y s Φ := fun σ H tv tl Hd ps v w R a1 a2 Q k =>
  ⟨d, e, Dr.dp _ _ (vw_dr R a1 h1), Dr.dp _ _ (vw_dr R a2 h2), z1, z2, k _ H _ s Hd ps q R (.bl _)⟩
theorem v2_ne {d e : PyData} (h1 : Vw s x d) (h2 : Vw s y e) (z1 : SeqAt.shaped d = true) (z2 : SeqAt.shaped e = true) (q : Φ (.d (.bool (!PyData.eqv d e))) s) : V2 K b (rNeD K) x y s Φ := fun σ H tv tl Hd ps v w R a1 a2 Q k =>
  ⟨d, e, Dr.dp _ _ (vw_dr R a1 h1), Dr.dp _ _ (vw_dr R a2 h2), z1, z2, k _ H _ s Hd ps q R (.bl _)⟩
def isNo : A → Bool
  | .d .none => true
  | _ => false
theorem non_iff {b : B} {σ : L2.St} {H Hd : Hp} {tv : List V} {ta : List A} {ps : List Addr} (R : Rp K b s σ H tv ta Hd ps) {v : V} : ∀ {a : A}, (∀ φ m, a ≠ .p φ m) → AR K Hd ps v a → decide (v = .non) = isNo a
  | .d x, _, h => by cases h <;> rfl
  | .o k, _, ⟨p, _, e⟩ => by subst e; rfl
  | .p φ m, n, _ => absurd rfl (n φ m)
theorem v2_isN (n : ∀ φ m, x ≠ .p φ m) (q : Φ (.d (.bool (isNo x))) s) : V2 K b (fun x y H Q => y = .non ∧ Q (.bl (decide (x = .non))) H) x (.d .none) s Φ := fun σ H tv tl Hd ps v w R a1 a2 Q k => by
  cases a2
  rw [non_iff R n a1]
  exact ⟨rfl, k _ H _ s Hd ps q R (.bl _)⟩
theorem v2_notN (n : ∀ φ m, x ≠ .p φ m) (q : Φ (.d (.bool (!isNo x))) s) : V2 K b (fun x y H Q => y = .non ∧ Q (.bl (!decide (x = .non))) H) x (.d .none) s Φ := fun σ H tv tl Hd ps v w R a1 a2 Q k => by
  cases a2
  rw [non_iff R n a1]
  exact ⟨rfl, k _ H _ s Hd ps q R (.bl _)⟩
theorem v2_addS {i j : Str} (hl : i.length + j.length ≤ sizeLine) (q : Φ (.d (.str (i ++ j))) s) : V2 K b (fun x y H Q => ∃ i j, x = .str i ∧ y = .str j ∧ i.length + j.length ≤ sizeLine ∧ Q (.str (i ++ j)) H) (.d (.str i)) (.d (.str j)) s Φ :=
  fun σ H tv tl Hd ps v w R a1 a2 Q k => by
    cases a1; cases a2
    exact ⟨i, j, rfl, rfl, hl, k _ H _ s Hd ps q R (.str _)⟩
/-- an item: of an own list, of data -/
theorem ixN_get {n : Nat} {i : Int} {j : Nat} (h : ixN n i = some j) : j < n := by
  unfold ixN at h
  split at h
  · split at h
    · cases h; omega
    · cases h
  · split at h
    · cases h; omega
    · cases h
theorem da_at {H : Hp} {vs : List V} {ds : List PyData} {i : Int} {z : PyData} (h : DrA K H vs ds) (e : atI ds i = some z) : ∃ v, atI vs i = some v ∧ Dr K H v z := by
  unfold atI at e ⊢
  rw [pair_len (da_paired h)]
  cases q : ixN ds.length i with
  | none => rw [q] at e; cases e
  | some j =>
    rw [q] at e
    obtain ⟨v, hv, hz⟩ := pair_get (da_paired h) (show ds[j]? = some z from e)
    exact ⟨v, hv, hz⟩
theorem v2_ixL {ds : List PyData} {i : Int} {z : PyData} (e : atI ds i = some z) (q : Φ (.d z) s) : V2 K b (rIx K) (.d (.list ds)) (.d (.int i)) s Φ := fun σ H tv tl Hd ps v w R a1 a2 Q k => by
  cases a2
  cases a1 with
  | lst hv ha =>
    obtain ⟨u, hu, hz⟩ := da_at ha e
    exact .inl ⟨_, _, i, u, rfl, rfl, .inl (.inl (R.e1 _ _ hv)), hu, k _ H _ s Hd ps q R hz⟩
theorem v2_ixT {ds : List PyData} {i : Int} {z : PyData} (e : atI ds i = some z) (q : Φ (.d z) s) : V2 K b (rIx K) (.d (.tuple ds)) (.d (.int i)) s Φ := fun σ H tv tl Hd ps v w R a1 a2 Q k => by
  cases a2
  cases a1 with
  | tup hv ha =>
    obtain ⟨u, hu, hz⟩ := da_at ha e
    exact .inr (.inl ⟨_, _, i, u, rfl, rfl, st_up R.e1 hv, hu, k _ H _ s Hd ps q R hz⟩)
theorem v2_ixO {n : Nat} {ds : List PyData} {i : Int} {z : PyData} (h : s.os[n]? = some (.lst ds)) (e : atI ds i = some z) (q : Φ (.d z) s) : V2 K b (rIx K) (.o n) (.d (.int i)) s Φ := fun σ H tv tl Hd ps v w R a1 a2 Q k => by
  cases a2
  obtain ⟨p, hp, rfl⟩ := a1
  obtain ⟨_, vs, hv, ha⟩ := R.cl n _ p h hp
  obtain ⟨u, hu, hz⟩ := da_at ha e
  exact .inl ⟨_, _, i, u, rfl, rfl, .inl (.inl hv), hu, k _ H _ s Hd ps q R hz⟩
theorem v2_ixS {t : Str} {i : Int} {c : Nat} (hl : t.length ≤ sizeLine) (e : atI t.cps.toList i = some c) (q : Φ (.d (.str ⟨#[c]⟩)) s) : V2 K b (rIx K) (.d (.str t)) (.d (.int i)) s Φ := fun σ H tv tl Hd ps v w R a1 a2 Q k => by
  cases a2; cases a1
  exact .inr (.inr ⟨t, i, c, rfl, rfl, hl, e, k _ H _ s Hd ps q R (.str _)⟩)
/-- lists joined: a new list, data or own -/
theorem vw_lst {b : B} {σ : L2.St} {H Hd : Hp} {tv : List V} {ta : List A} {ps : List Addr} (R : Rp K b s σ H tv ta Hd ps) {v : V} {ds : List PyData} {a : A} (h : AR K Hd ps v a) (e : Vw s a (.list ds)) :
    ∃ p vs, v = .ref p ∧ H p = some (.lst vs) ∧ DrA K Hd vs ds := by
  cases a with
  | d x =>
    cases e
    cases h with
    | lst hv ha => exact ⟨_, _, rfl, R.e1 _ _ hv, ha⟩
  | o k =>
    obtain ⟨xs, hk, e2⟩ := e
    cases e2
    obtain ⟨p, hp, rfl⟩ := h
    obtain ⟨_, vs, hv, ha⟩ := R.cl k _ p hk hp
    exact ⟨p, vs, rfl, hv, ha⟩
  | p _ _ => exact e.elim
theorem v2_cat {xs ys : List PyData} (h1 : Vw s x (.list xs)) (h2 : Vw s y (.list ys)) (hl : xs.length + ys.length ≤ sizeLine) (q : Φ (.d (.list (xs ++ ys))) s) : V2 K b rCat x y s Φ := fun σ H tv tl Hd ps v w R a1 a2 Q k => by
  obtain ⟨p, vs, rfl, hv, ha⟩ := vw_lst R a1 h1
  obtain ⟨p', ws, rfl, hw, hb⟩ := vw_lst R a2 h2
  refine ⟨p, p', vs, ws, rfl, rfl, hv, hw, by rw [pair_len (da_paired ha), pair_len (da_paired hb)]; exact hl, fun l hn => ?_⟩
  obtain ⟨R2, h2⟩ := R.newLst hn (vs := vs ++ ws) (xs := xs ++ ys) (by rw [List.map_append]; exact pair_app (ars_of_da ha) (ars_of_da hb))
  exact k _ _ _ _ _ _ q R2 h2
theorem v2_catO {xs ys : List PyData} (h1 : Vw s x (.list xs)) (h2 : Vw s y (.list ys)) (hl : xs.length + ys.length ≤ sizeLine) (q : Φ (.o s.os.length) (s.add (.lst (xs ++ ys)))) : V2 K b rCat x y s Φ := fun σ H tv tl Hd ps v w R a1 a2 Q k => by
  obtain ⟨p, vs, rfl, hv, ha⟩ := vw_lst R a1 h1
  obtain ⟨p', ws, rfl, hw, hb⟩ := vw_lst R a2 h2
  refine ⟨p, p', vs, ws, rfl, rfl, hv, hw, by rw [pair_len (da_paired ha), pair_len (da_paired hb)]; exact hl, fun l hn => ?_⟩
  obtain ⟨R2, h2⟩ := R.new (c := .lst (xs ++ ys)) (o := .lst (vs ++ ws)) hn ⟨none_of_same R.e1 hn, _, upd_same, paired_da (pair_app (da_paired ha) (da_paired hb))⟩
  exact k _ _ _ _ _ _ q R2 h2
theorem da_rep {H : Hp} {v : V} {d : PyData} (h : Dr K H v d) : ∀ n : Nat, DrA K H (List.replicate n v) (List.replicate n d)
  | 0 => .nil
  | n + 1 => .cons h (da_rep h n)
theorem da_flat {H : Hp} {vs : List V} {ds : List PyData} (h : DrA K H vs ds) : ∀ n : Nat, DrA K H (List.replicate n vs).flatten (List.replicate n ds).flatten
  | 0 => .nil
  | n + 1 => by
    rw [List.replicate_succ, List.flatten_cons, List.replicate_succ, List.flatten_cons]
    exact paired_da (pair_app (da_paired h) (da_paired (da_flat h n)))
theorem v2_rep {xs : List PyData} {n : Int} (h1 : Vw s x (.list xs)) (h0 : -(2 ^ 63) ≤ n) (h2 : n < 2 ^ 63) (hl : xs.length * n.toNat ≤ sizeLine) (q : Φ (.o s.os.length) (s.add (.lst (List.replicate n.toNat xs).flatten))) : V2 K b rRep x (.d (.int n)) s Φ := fun σ H tv tl Hd ps v w R a1 a2 Q k => by
  obtain ⟨p, vs, rfl, hv, ha⟩ := vw_lst R a1 h1
  cases a2
  refine ⟨p, n, vs, rfl, rfl, hv, h0, h2, by rw [pair_len (da_paired ha)]; exact hl, fun l hn => ?_⟩
  obtain ⟨R2, h2⟩ := R.new (c := .lst (List.replicate n.toNat xs).flatten) (o := .lst (List.replicate n.toNat vs).flatten) hn ⟨none_of_same R.e1 hn, _, upd_same, da_flat ha _⟩
  exact k _ _ _ _ _ _ q R2 h2
theorem v1_neg {i : Int} (q : Φ (.d (.int (-i))) s) : V1 K b (rU fun i => .int (-i)) (.d (.int i)) s Φ := fun σ H tv tl Hd ps v R a1 Q k => by
  cases a1
  exact ⟨i, rfl, k _ H _ s Hd ps q R (.int _)⟩
/-! calls of the built-ins -/
theorem vc_len {ds : List PyData} (h : Vw s x (.list ds) ∨ x = .d (.tuple ds)) (q : Φ (.d (.int ds.length)) s) : VC K b (fun xs H Q => ∃ x n, xs = [x] ∧ LenV K x H n ∧ Q (.int n) H) [x] s Φ := fun σ H tv tl Hd ps vs R a Q k => by
  cases a with
  | @cons v _ _ _ a1 t =>
    cases t
    rcases h with h | rfl
    · obtain ⟨p, vs, rfl, hv, ha⟩ := vw_lst R a1 h
      exact ⟨_, ds.length, rfl, .inl ⟨vs, .inl (.inl hv), (pair_len (da_paired ha)).symm⟩, k _ H _ s Hd ps q R (.int _)⟩
    · cases a1 with
      | tup hv ha => exact ⟨_, ds.length, rfl, .inr ⟨_, st_up R.e1 hv, (pair_len (da_paired ha)).symm⟩, k _ H _ s Hd ps q R (.int _)⟩
theorem vc_lenS {t : Str} (hl : t.length ≤ sizeLine) (q : Φ (.d (.int t.length)) s) : VC K b (fun xs H Q => ∃ x n, xs = [x] ∧ LenV K x H n ∧ Q (.int n) H) [.d (.str t)] s Φ := fun σ H tv tl Hd ps vs R a Q k => by
  cases a with
  | @cons v _ _ _ a1 t =>
    cases t
    cases a1
    exact ⟨_, _, rfl, ⟨hl, rfl⟩, k _ H _ s Hd ps q R (.int _)⟩
theorem vc_intI {i : Int} (q : Φ (.d (.int i)) s) : VC K b (fun xs H Q => (∃ i, xs = [.int i] ∧ Q (.int i) H) ∨ ∃ k, xs = [.bl k] ∧ Q (.int (if k then 1 else 0)) H) [.d (.int i)] s Φ := fun σ H tv tl Hd ps vs R a Q k => by
  cases a with
  | @cons v _ _ _ a1 t =>
    cases t
    cases a1
    exact .inl ⟨i, rfl, k _ H _ s Hd ps q R (.int _)⟩
theorem vc_intB {i : Bool} (q : Φ (.d (.int (if i then 1 else 0))) s) : VC K b (fun xs H Q => (∃ i, xs = [.int i] ∧ Q (.int i) H) ∨ ∃ k, xs = [.bl k] ∧ Q (.int (if k then 1 else 0)) H) [.d (.bool i)] s Φ := fun σ H tv tl Hd ps vs R a Q k => by
  cases a with
  | @cons v _ _ _ a1 t =>
    cases t
    cases a1
    exact .inr ⟨i, rfl, k _ H _ s Hd ps q R (.int _)⟩
theorem vc_abs {i : Int} (q : Φ (.d (.int (if i < 0 then -i else i))) s) : VC K b (fun xs H Q => ∃ i, xs = [.int i] ∧ Q (.int (if i < 0 then -i else i)) H) [.d (.int i)] s Φ := fun σ H tv tl Hd ps vs R a Q k => by
  cases a with
  | @cons v _ _ _ a1 t =>
    cases t
    cases a1
    exact ⟨i, rfl, k _ H _ s Hd ps q R (.int _)⟩
theorem vc_max2 {i j : Int} (q : Φ (.d (.int (if j > i then j else i))) s) : VC K b (fun xs H Q => ∃ i j, xs = [.int i, .int j] ∧ Q (.int (if j > i then j else i)) H) [.d (.int i), .d (.int j)] s Φ := fun σ H tv tl Hd ps vs R a Q k => by
  cases a with
  | @cons v _ _ _ a1 t =>
    cases t with
    | @cons v _ _ _ a2 t =>
      cases t
      cases a1; cases a2
      exact ⟨i, j, rfl, k _ H _ s Hd ps q R (.int _)⟩
/-- list(x): data | own -/
theorem vc_list {ds : List PyData} (h : Vw s x (.list ds) ∨ x = .d (.tuple ds)) (q : Φ (.d (.list ds)) s) :
    VC K b (fun xs H Q => ∃ p ys, xs = [.ref p] ∧ (SqL K H p ys ∨ SqT K H p ys) ∧ ∀ l, H l = none → Q (.ref l) (upd H l (.lst ys))) [x] s Φ := fun σ H tv tl Hd ps vs R a Q k => by
  cases a with
  | @cons v _ _ _ a1 t =>
    cases t
    obtain ⟨p, ys, rfl, hs, ha⟩ : ∃ p ys, v = .ref p ∧ (SqL K H p ys ∨ SqT K H p ys) ∧ DrA K Hd ys ds := by
      rcases h with h | rfl
      · obtain ⟨p, vs, rfl, hv, ha⟩ := vw_lst R a1 h
        exact ⟨p, vs, rfl, .inl (.inl (.inl hv)), ha⟩
      · cases a1 with
        | tup hv ha => exact ⟨_, _, rfl, .inr (st_up R.e1 hv), ha⟩
    refine ⟨p, ys, rfl, hs, fun l hn => ?_⟩
    obtain ⟨R2, h2⟩ := R.newLst hn (ars_of_da ha)
    exact k _ _ _ _ _ _ q R2 h2
theorem vc_listO {ds : List PyData} (h : Vw s x (.list ds) ∨ x = .d (.tuple ds)) (q : Φ (.o s.os.length) (s.add (.lst ds))) :
    VC K b (fun xs H Q => ∃ p ys, xs = [.ref p] ∧ (SqL K H p ys ∨ SqT K H p ys) ∧ ∀ l, H l = none → Q (.ref l) (upd H l (.lst ys))) [x] s Φ := fun σ H tv tl Hd ps vs R a Q k => by
  cases a with
  | @cons v _ _ _ a1 t =>
    cases t
    obtain ⟨p, ys, rfl, hs, ha⟩ : ∃ p ys, v = .ref p ∧ (SqL K H p ys ∨ SqT K H p ys) ∧ DrA K Hd ys ds := by
      rcases h with h | rfl
      · obtain ⟨p, vs, rfl, hv, ha⟩ := vw_lst R a1 h
        exact ⟨p, vs, rfl, .inl (.inl (.inl hv)), ha⟩
      · cases a1 with
        | tup hv ha => exact ⟨_, _, rfl, .inr (st_up R.e1 hv), ha⟩
    refine ⟨p, ys, rfl, hs, fun l hn => ?_⟩
    obtain ⟨R2, h2⟩ := R.new (c := .lst ds) (o := .lst ys) hn ⟨none_of_same R.e1 hn, _, upd_same, ha⟩
    exact k _ _ _ _ _ _ q R2 h2
end
/-! ### targets -/
def S.wp (s : S) (vs : List Nat) : S := ⟨vs.foldr (fun i l => l.set i none) s.ss, s.os⟩
section
variable {K : PySem.W.Frag} {b : B} {s s1 : S} {te ta tb tc : TE} {tt tu : TT} {t : TA} {x y : A} {Φ Ψ : A → S → Prop} {r r' : R2} {tx ty : TS} {N : EE} {g : TG}
theorem Rp.set {b : B} {σ : L2.St} {H Hd : Hp} {tv : List V} {ta : List A} {ps : List Addr} (R : Rp K b s σ H tv ta Hd ps) {v : V} {a : A} (h : AR K Hd ps v a) (i : Nat) : Rp K b (s.set i a) (σ.set i (some v)) H tv ta Hd ps :=
  ⟨R.e0, R.e1, R.e2, R.nw, R.pl, R.nd, R.p0, R.fr, R.ex, R.cl, fun j c hj => by
    by_cases e : j = i
    · subst e
      have hl : j < s.ss.length := by
        have := (List.getElem?_eq_some_iff.mp hj).1
        rw [show (s.set j a).ss = s.ss.set j (some a) from rfl, List.length_set] at this
        exact this
      rw [show (s.set j a).ss = s.ss.set j (some a) from rfl, List.getElem?_set_self hl] at hj
      cases hj
      exact ⟨v, List.getElem?_set_self (by rw [R.ln]; exact hl), h⟩
    · rw [show (s.set i a).ss = s.ss.set i (some a) from rfl, List.getElem?_set_ne (Ne.symm e)] at hj
      obtain ⟨w, hw, hc⟩ := R.sl j c hj
      exact ⟨w, by rw [List.getElem?_set_ne (Ne.symm e)]; exact hw, hc⟩, by rw [List.length_set, R.ln]; show _ = (s.ss.set i _).length; rw [List.length_set], R.tm⟩
theorem gt_name {i : Nat} {a : A} {N : S → Prop} (q : N (s.set i a)) : GT K b (gName i) a s N := fun σ H tv tl Hd ps v R h Q k => k _ H _ Hd ps q (R.set h i)
theorem gts_nil {N : S → Prop} (q : N s) : GTs K b gNil [] s N := fun σ H tv tl Hd ps vs R h Q k => by
  cases h
  exact ⟨rfl, k _ H _ Hd ps q R⟩
theorem gts_cons {g : TG} {u : TGs} {a : A} {as : List A} {N : S → Prop} (h : GT K b g a s fun s1 => GTs K b u as s1 N) : GTs K b (gCons g u) (a :: as) s N := fun σ H tv tl Hd ps vs R hv Q k => by
  cases hv with
  | @cons v _ ws _ h1 h2 =>
    refine ⟨v, ws, rfl, h σ H (ws ++ tv) (as ++ tl) Hd ps v (R.pushAll h2) h1 _ fun σ' H' s' Hd' ps' q R' => ?_⟩
    obtain ⟨R2, h3⟩ := R'.popAll (pair_len h2)
    exact q σ' H' tv tl Hd' ps' ws R2 h3 Q k
theorem gt_tup {n : Nat} {u : TGs} {ds : List PyData} {N : S → Prop} (hn : ds.length = n) (h : GTs K b u (ds.map A.d) s N) : GT K b (gTup K n u) (.d (.tuple ds)) s N := fun σ H tv tl Hd ps v R hv Q k => by
  cases hv with
  | tup hs ha => exact ⟨_, _, rfl, st_up R.e1 hs, by rw [pair_len (da_paired ha)]; exact hn, h σ H tv tl Hd ps _ R (ars_of_da ha) Q k⟩
/-- xs[i] = v, xs an own list -/
theorem gt_setL {to ti : TE} {a : A} {N : S → Prop} (h : EV K b to s fun o s1 => EV K b ti s1 fun i s2 => ∃ (n : Nat) (ds : List PyData) (j : Int) (m : Nat) (z : PyData), a = .d z ∧ o = .o n ∧ i = .d (.int j) ∧ s2.os[n]? = some (.lst ds) ∧ ixN ds.length j = some m ∧ N (s2.put n (.lst (ds.set m z)))) :
    GT K b (gSub to ti rSetL) a s N := fun σ H tv tl Hd ps v R hv Q k =>
  h σ H (v :: tv) (a :: tl) Hd ps (R.push hv) _ fun o H1 ao s1 Hd1 ps1 h1 R1 a1 => h1 σ H1 (o :: v :: tv) (ao :: a :: tl) Hd1 ps1 (R1.push a1) _ fun i H2 ai s2 Hd2 ps2 h2 R2 a2 => by
    obtain ⟨n, ds, j, m, z, rfl, rfl, rfl, ho, hj, q⟩ := h2
    obtain ⟨R3, a3⟩ := R2.pop
    obtain ⟨R4, a4⟩ := R3.pop
    cases a2
    obtain ⟨p, hp, rfl⟩ := a3
    obtain ⟨hn, vs, hv2, ha⟩ := R4.cl n _ p ho hp
    refine ⟨p, vs, j, m, rfl, rfl, hv2, by rw [pair_len (da_paired ha)]; exact hj, ?_⟩
    exact k _ _ _ _ _ q (R4.put ho hp (fun z => nomatch z) ⟨hn, _, upd_same, paired_da (pair_set (G := Dr K Hd2) a4 m (da_paired ha))⟩)

/-! ### statements -/
theorem Dk.then {b : B} {D : Ends} {tv : List V} {tl : List A} (k : Dk K b D N tv tl) (h : ∀ s1, GO K b ty s1 N → True := by intros; trivial) : Dk K b { D with nx := ty D } { N with nx := fun s1 => GO K b ty s1 N } tv tl :=
  ⟨fun σ H s Hd ps q R => q D σ H tv tl Hd ps R k, k.rt, k.bk, k.ct⟩
theorem go_seq (h : GO K b tx s { N with nx := fun s1 => GO K b ty s1 N }) : GO K b (tSeq tx ty) s N := fun D σ H tv tl Hd ps R k => h _ σ H tv tl Hd ps R k.then
theorem go_next (q : N.nx s) : GO K b tNext s N := fun D σ H tv tl Hd ps R k => k.nx σ H s Hd ps q R
theorem go_brk (q : N.bk s) : GO K b tBreak s N := fun D σ H tv tl Hd ps R k => k.bk σ H s Hd ps q R
theorem go_cont (q : N.ct s) : GO K b tCont s N := fun D σ H tv tl Hd ps R k => k.ct σ H s Hd ps q R
theorem go_asg (h : EV K b te s fun a s1 => GT K b g a s1 N.nx) : GO K b (tAsg te g) s N := fun D σ H tv tl Hd ps R k =>
  h σ H tv tl Hd ps R _ fun v H1 a s1 Hd1 ps1 h1 R1 a1 => h1 σ H1 tv tl Hd1 ps1 v R1 a1 _ fun σ' H' s' Hd' ps' q R' => k.nx σ' H' s' Hd' ps' q R'
theorem go_drop (h : EV K b te s fun _ s1 => N.nx s1) : GO K b (tDrop te) s N := fun D σ H tv tl Hd ps R k =>
  h σ H tv tl Hd ps R _ fun v H1 a s1 Hd1 ps1 h1 R1 _ => k.nx σ H1 s1 Hd1 ps1 h1 R1
theorem go_ret (h : EV K b te s N.rt) : GO K b (tRet te) s N := fun D σ H tv tl Hd ps R k =>
  h σ H tv tl Hd ps R _ fun v H1 a s1 Hd1 ps1 h1 R1 a1 => k.rt v σ H1 a s1 Hd1 ps1 h1 R1 a1
theorem go_retN (h : N.rt (.d .none) s) : GO K b tRetN s N := fun D σ H tv tl Hd ps R k => k.rt .non σ H _ s Hd ps h R .non
theorem go_if (h : ET K b tt s fun k s1 => (k = true → GO K b tx s1 N) ∧ (k = false → GO K b ty s1 N)) : GO K b (tIfS tt tx ty) s N := fun D σ H tv tl Hd ps R k =>
  h σ H tv tl Hd ps R _ fun c H1 s1 Hd1 ps1 h1 R1 => by
    cases c with
    | true => exact h1.1 rfl D σ H1 tv tl Hd1 ps1 R1 k
    | false => exact h1.2 rfl D σ H1 tv tl Hd1 ps1 R1 k
theorem go_mono {N' : EE} (h : GO K b tx s N) (h1 : ∀ s, N.nx s → N'.nx s) (h2 : ∀ a s, N.rt a s → N'.rt a s) (h3 : ∀ s, N.bk s → N'.bk s) (h4 : ∀ s, N.ct s → N'.ct s) : GO K b tx s N' := fun D σ H tv tl Hd ps R k =>
  h D σ H tv tl Hd ps R ⟨fun σ H s Hd ps q R => k.nx σ H s Hd ps (h1 _ q) R, fun v σ H a s Hd ps q R => k.rt v σ H a s Hd ps (h2 _ _ q) R, fun σ H s Hd ps q R => k.bk σ H s Hd ps (h3 _ q) R, fun σ H s Hd ps q R => k.ct σ H s Hd ps (h4 _ q) R⟩
theorem ev_mono {Φ' : A → S → Prop} (h : EV K b te s Φ) (m : ∀ a s, Φ a s → Φ' a s) : EV K b te s Φ' := fun σ H tv tl Hd ps R Q k => h σ H tv tl Hd ps R Q fun v H' a s' Hd' ps' q => k v H' a s' Hd' ps' (m _ _ q)
theorem et_mono {Φ Φ' : Bool → S → Prop} (h : ET K b tt s Φ) (m : ∀ a s, Φ a s → Φ' a s) : ET K b tt s Φ' := fun σ H tv tl Hd ps R Q k => h σ H tv tl Hd ps R Q fun v H' s' Hd' ps' q => k v H' s' Hd' ps' (m _ _ q)
/-- x += e, ints -/
theorem go_aug {i : Nat} {f : Int → Int → Int} {m : Int} (hi : s.ss[i]? = some (some (.d (.int m)))) (h : EV K b te s fun a s1 => ∃ n, a = .d (.int n) ∧ N.nx (s1.set i (.d (.int (f m n))))) : GO K b (tAug i te (ipI f)) s N := fun D σ H tv tl Hd ps R k => by
  obtain ⟨v, hv, ha⟩ := R.sl i _ hi
  cases ha
  refine ⟨_, hv, h σ H tv tl Hd ps R _ fun w H1 a s1 Hd1 ps1 h1 R1 a1 => ?_⟩
  obtain ⟨n, rfl, q⟩ := h1
  cases a1
  exact ⟨m, n, rfl, rfl, k.nx _ H1 _ Hd1 ps1 q (R1.set (a := .d (.int _)) (Dr.int _) i)⟩
/-- while -/
theorem go_while (I : Nat → S → Prop) (m0 : Nat) (h0 : I m0 s)
    (hs : ∀ m s1, I m s1 → ET K b tt s1 fun k s2 => (k = true → GO K b tx s2 ⟨fun s3 => ∃ m', m' < m ∧ I m' s3, N.rt, N.nx, fun s3 => ∃ m', m' < m ∧ I m' s3⟩) ∧ (k = false → N.nx s2)) : GO K b (tWhile tt tx) s N := fun D σ H tv tl Hd ps R k => by
  refine ⟨fun m σ H => ∃ s1 Hd ps, I m s1 ∧ Rp K b s1 σ H tv tl Hd ps, ⟨m0, s, Hd, ps, h0, R⟩, fun m σ H hW => ?_⟩
  obtain ⟨s1, Hd, ps, hi, R⟩ := hW
  refine hs m s1 hi σ H tv tl Hd ps R _ fun c H1 s2 Hd1 ps1 h1 R1 => ?_
  cases c with
  | true =>
    refine ⟨fun σ H => ∃ m', m' < m ∧ ∃ s1 Hd ps, I m' s1 ∧ Rp K b s1 σ H tv tl Hd ps, fun σ' H' q => q, ?_⟩
    exact h1.1 rfl _ σ H1 tv tl Hd1 ps1 R1 ⟨fun σ H s3 Hd ps ⟨m', l, q⟩ R => ⟨m', l, s3, Hd, ps, q, R⟩, k.rt, k.nx, fun σ H s3 Hd ps ⟨m', l, q⟩ R => ⟨m', l, s3, Hd, ps, q, R⟩⟩
  | false => exact k.nx σ H1 s2 Hd1 ps1 (h1.2 rfl) R1
/-! methods of lists -/
theorem ev_bmL {rm : V → List V → Hp → VK → Prop} (h : EV K b te s fun x s1 => (∃ n ds, x = .o n ∧ s1.os[n]? = some (.lst ds)) ∧ EA K b t s1 fun as s2 => VM K b rm x as s2 Φ) : EV K b (tBM K "list" rm te t) s Φ := fun σ H tv tl Hd ps R Q k =>
  h σ H tv tl Hd ps R _ fun v H1 x s1 Hd1 ps1 h1 R1 a1 => by
    obtain ⟨⟨n, ds, rfl, hn⟩, h1⟩ := h1
    refine ⟨?_, h1 σ H1 (v :: tv) (.o n :: tl) Hd1 ps1 (R1.push a1) _ fun vs H2 as s2 Hd2 ps2 h2 R2 a2 => h2 σ H2 tv tl Hd2 ps2 v vs R2.pop.1 R2.pop.2 a2 Q k⟩
    obtain ⟨p, hp, rfl⟩ := a1
    obtain ⟨_, vs, hv, ha⟩ := R1.cl n _ p hn hp
    exact .inl ⟨rfl, vs, .inl (.inl hv)⟩
theorem ev_bmL0 {rm : V → List V → Hp → VK → Prop} (h : EV K b te s fun x s1 => (∃ n ds, x = .o n ∧ s1.os[n]? = some (.lst ds)) ∧ VM K b rm x [] s1 Φ) : EV K b (tBM0 K "list" rm te) s Φ := fun σ H tv tl Hd ps R Q k =>
  h σ H tv tl Hd ps R _ fun v H1 x s1 Hd1 ps1 h1 R1 a1 => by
    obtain ⟨⟨n, ds, rfl, hn⟩, h1⟩ := h1
    refine ⟨?_, h1 σ H1 tv tl Hd1 ps1 v [] R1 a1 .nil Q k⟩
    obtain ⟨p, hp, rfl⟩ := a1
    obtain ⟨_, vs, hv, ha⟩ := R1.cl n _ p hn hp
    exact .inl ⟨rfl, vs, .inl (.inl hv)⟩
theorem vm_append {n : Nat} {ds : List PyData} {z : PyData} (h : s.os[n]? = some (.lst ds)) (hl : ds.length < sizeLine) (q : Φ (.d .none) (s.put n (.lst (ds ++ [z])))) : VM K b rAppend (.o n) [.d z] s Φ := fun σ H tv tl Hd ps v vs R a1 a2 Q k => by
  cases a2 with
  | @cons w _ _ _ c1 c2 =>
  cases c2
  obtain ⟨p, hp, rfl⟩ := a1
  obtain ⟨hn, ws, hw, ha⟩ := R.cl n _ p h hp
  refine ⟨p, ws, w, rfl, rfl, hw, by rw [pair_len (da_paired ha)]; exact hl, ?_⟩
  exact k _ _ _ _ _ _ q (R.put h hp (fun z => nomatch z) ⟨hn, _, upd_same, paired_da (pair_app (da_paired ha) (.cons c1 .nil))⟩) .non
theorem vm_pop {n : Nat} {ds : List PyData} {z : PyData} (h : s.os[n]? = some (.lst ds)) (hz : ds[ds.length - 1]? = some z) (q : Φ (.d z) (s.put n (.lst ds.dropLast))) : VM K b rPop (.o n) [] s Φ := fun σ H tv tl Hd ps v vs R a1 a2 Q k => by
  cases a2
  obtain ⟨p, hp, rfl⟩ := a1
  obtain ⟨hn, ws, hw, ha⟩ := R.cl n _ p h hp
  have hlen := pair_len (da_paired ha)
  obtain ⟨w, hw1, hw2⟩ := pair_get (da_paired ha) hz
  refine ⟨p, ws, w, rfl, rfl, hw, by rw [hlen]; exact hw1, ?_⟩
  refine k _ _ _ _ _ _ q (R.put h hp (fun z => nomatch z) ⟨hn, _, upd_same, ?_⟩) hw2
  rw [List.dropLast_eq_take, List.dropLast_eq_take, hlen]
  exact paired_da (pair_take _ (da_paired ha))
theorem pair_erase {α β : Type} {G : α → β → Prop} : ∀ {xs : List α} {ys : List β} (n : Nat), Paired G xs ys → Paired G (xs.eraseIdx n) (ys.eraseIdx n)
  | _, _, _, .nil => .nil
  | _, _, 0, .cons _ t => t
  | _, _, n + 1, .cons r t => .cons r (pair_erase n t)
theorem vm_popAt {n : Nat} {ds : List PyData} {z : PyData} {i : Int} {m : Nat} (h : s.os[n]? = some (.lst ds)) (i0 : -(2 ^ 63) ≤ i) (i1 : i < 2 ^ 63) (hm : seqIndex? i ds.length = some m) (hz : ds[m]? = some z) (q : Φ (.d z) (s.put n (.lst (ds.eraseIdx m)))) :
    VM K b rPopAt (.o n) [.d (.int i)] s Φ := fun σ H tv tl Hd ps v vs R a1 a2 Q k => by
  cases a2 with
  | @cons w _ _ _ c1 c2 =>
  cases c2
  cases c1
  obtain ⟨p, hp, rfl⟩ := a1
  obtain ⟨hn, ws, hw, ha⟩ := R.cl n _ p h hp
  obtain ⟨u, hw1, hw2⟩ := pair_get (da_paired ha) hz
  refine ⟨p, ws, i, m, u, rfl, rfl, hw, i0, i1, by rw [pair_len (da_paired ha)]; exact hm, hw1, ?_⟩
  exact k _ _ _ _ _ _ q (R.put h hp (fun z => nomatch z) ⟨hn, _, upd_same, paired_da (pair_erase m (da_paired ha))⟩) hw2
theorem vm_clear {n : Nat} {ds : List PyData} (h : s.os[n]? = some (.lst ds)) (q : Φ (.d .none) (s.put n (.lst []))) : VM K b rClear (.o n) [] s Φ := fun σ H tv tl Hd ps v vs R a1 a2 Q k => by
  cases a2
  obtain ⟨p, hp, rfl⟩ := a1
  obtain ⟨hn, ws, hw, ha⟩ := R.cl n _ p h hp
  exact ⟨p, ws, rfl, rfl, hw, k _ _ _ _ _ _ q (R.put h hp (fun z => nomatch z) ⟨hn, _, upd_same, .nil⟩) .non⟩
/-! slices -/
theorem eo_none {Φ : Option Int → S → Prop} (q : Φ none s) : EO K b tNoPart s Φ := fun σ H tv tl Hd ps R Q k => k none H s Hd ps q R
theorem eo_some {Φ : Option Int → S → Prop} (h : EV K b te s fun a s1 => ∃ i, a = .d (.int i) ∧ Φ (some i) s1) : EO K b (tPart te) s Φ := fun σ H tv tl Hd ps R Q k =>
  h σ H tv tl Hd ps R _ fun v H1 a s1 Hd1 ps1 h1 R1 a1 => by
    obtain ⟨i, rfl, q⟩ := h1
    cases a1
    exact ⟨i, rfl, k _ H1 s1 Hd1 ps1 q R1⟩
def cutD (xs : List PyData) (lo hi : Option Int) : List PyData := (xs.drop (HT.sIx xs.length 0 lo)).take (HT.sIx xs.length xs.length hi - HT.sIx xs.length 0 lo)
theorem da_cut {H : Hp} {vs : List V} {ds : List PyData} (h : DrA K H vs ds) (lo hi : Option Int) : DrA K H (cutV vs lo hi) (cutD ds lo hi) := by
  unfold cutV cutD
  rw [pair_len (da_paired h)]
  exact paired_da (pair_take _ (pair_drop _ (da_paired h)))
theorem ev_slL {tlo thi : TO} (h : EV K b te s fun x s1 => EO K b tlo s1 fun lo s2 => EO K b thi s2 fun hi s3 => ∃ ds, Vw s3 x (.list ds) ∧ Φ (.d (.list (cutD ds lo hi))) s3) : EV K b (tSl (rSlL K) te tlo thi) s Φ := fun σ H tv tl Hd ps R Q k =>
  h σ H tv tl Hd ps R _ fun v H1 x s1 Hd1 ps1 h1 R1 a1 => h1 σ H1 (v :: tv) (x :: tl) Hd1 ps1 (R1.push a1) _ fun lo H2 s2 Hd2 ps2 h2 R2 => h2 σ H2 (v :: tv) (x :: tl) Hd2 ps2 R2 _ fun hi H3 s3 Hd3 ps3 h3 R3 => by
    obtain ⟨ds, e, q⟩ := h3
    obtain ⟨R4, a4⟩ := R3.pop
    obtain ⟨p, vs, rfl, hv, ha⟩ := vw_lst R4 a4 e
    refine ⟨p, vs, rfl, .inl (.inl hv), fun l hn => ?_⟩
    obtain ⟨R5, a5⟩ := R4.newLst hn (ars_of_da (da_cut ha lo hi))
    exact k _ _ _ _ _ _ q R5 a5
theorem ev_slLO {tlo thi : TO} (h : EV K b te s fun x s1 => EO K b tlo s1 fun lo s2 => EO K b thi s2 fun hi s3 => ∃ ds, Vw s3 x (.list ds) ∧ Φ (.o s3.os.length) (s3.add (.lst (cutD ds lo hi)))) : EV K b (tSl (rSlL K) te tlo thi) s Φ := fun σ H tv tl Hd ps R Q k =>
  h σ H tv tl Hd ps R _ fun v H1 x s1 Hd1 ps1 h1 R1 a1 => h1 σ H1 (v :: tv) (x :: tl) Hd1 ps1 (R1.push a1) _ fun lo H2 s2 Hd2 ps2 h2 R2 => h2 σ H2 (v :: tv) (x :: tl) Hd2 ps2 R2 _ fun hi H3 s3 Hd3 ps3 h3 R3 => by
    obtain ⟨ds, e, q⟩ := h3
    obtain ⟨R4, a4⟩ := R3.pop
    obtain ⟨p, vs, rfl, hv, ha⟩ := vw_lst R4 a4 e
    refine ⟨p, vs, rfl, .inl (.inl hv), fun l hn => ?_⟩
    obtain ⟨R5, a5⟩ := R4.new (c := .lst (cutD ds lo hi)) (o := .lst (cutV vs lo hi)) hn ⟨none_of_same R4.e1 hn, _, upd_same, da_cut ha lo hi⟩
    exact k _ _ _ _ _ _ q R5 a5
end
/-! ### what is walked -/
/-- the walk J yields ds, as long as Pc holds; tx, ax: the temporary that keeps it -/
structure Jok (K : PySem.W.Frag) (J : It) (ds : List PyData) (Pc : List C → Prop) (tx : V) (ax : A) : Prop where
  go : ∀ b s σ H tv ta Hd ps i x, Rp K b s σ H (tx :: tv) (ax :: ta) Hd ps → Pc s.os → ds[i]? = some x → J.go i H ∧ ∀ v H', J.yld i H v H' → ∃ Hd', Rp K b s σ H' (tx :: tv) (ax :: ta) Hd' ps ∧ AR K Hd' ps v (.d x)
  stop : ∀ b s σ H tv ta Hd ps, Rp K b s σ H (tx :: tv) (ax :: ta) Hd ps → Pc s.os → J.stop ds.length H
def EI (K : PySem.W.Frag) (b : B) (wi : TI) (s : S) (Φ : List PyData → (List C → Prop) → S → Prop) : Prop := ∀ σ H tv ta Hd ps, Rp K b s σ H tv ta Hd ps → ∀ R : It → Hp → Prop,
  (∀ J H' ds Pc s' Hd' ps' tx ax, Φ ds Pc s' → Rp K b s' σ H' (tx :: tv) (ax :: ta) Hd' ps' → Jok K J ds Pc tx ax → R J H') → wi σ H R
section
variable {K : PySem.W.Frag} {b : B} {s s1 : S} {te ta tb tc : TE} {tt tu : TT} {t : TA} {x y : A} {Φ Ψ : A → S → Prop} {r r' : R2} {tx ty : TS} {N : EE} {g : TG} {Ξ : List PyData → (List C → Prop) → S → Prop}
theorem ei_list (h : EV K b te s fun a s1 => ∃ ds Pc, (a = .d (.list ds) ∨ ∃ n, a = .o n ∧ ∀ o, Pc o → o[n]? = some (.lst ds)) ∧ Pc s1.os ∧ Ξ ds Pc s1) : EI K b (iList K te) s Ξ := fun σ H tv tl Hd ps R Q k =>
  h σ H tv tl Hd ps R _ fun v H1 a s1 Hd1 ps1 h1 R1 a1 => by
    obtain ⟨ds, Pc, hc, hp, q⟩ := h1
    have key : ∀ b s σ H tv ta Hd ps, Rp K b s σ H (v :: tv) (a :: ta) Hd ps → Pc s.os → ∃ p vs, v = .ref p ∧ H p = some (.lst vs) ∧ DrA K Hd vs ds := fun b s σ H tv ta Hd ps R h => by
      obtain ⟨R, a2⟩ := R.pop
      rcases hc with rfl | ⟨n, rfl, hn⟩
      · exact vw_lst R a2 rfl
      · exact vw_lst R a2 ⟨ds, hn _ h, rfl⟩
    obtain ⟨p, vs, rfl, hv, ha⟩ := key b s1 σ H1 tv tl Hd1 ps1 (R1.push a1) hp
    refine ⟨p, rfl, ⟨vs, .inl (.inl hv)⟩, k _ H1 ds Pc s1 Hd1 ps1 _ _ q (R1.push a1) ⟨fun b s σ H tv ta Hd ps i x R h hx => ?_, fun b s σ H tv ta Hd ps R h => ?_⟩⟩
    · obtain ⟨p', ws, e, hw, hb⟩ := key b s σ H tv ta Hd ps R h
      cases e
      obtain ⟨w, hw1, hw2⟩ := pair_get (da_paired hb) hx
      have hq : SqL K H p ws := .inl (.inl hw)
      refine ⟨⟨ws, w, hq, hw1⟩, fun u H' hy => ?_⟩
      obtain ⟨rfl, hu⟩ := hy
      have e : u = w := Option.some.inj ((hu ws hq).symm.trans hw1)
      subst e
      exact ⟨Hd, R, hw2⟩
    · obtain ⟨p', ws, e, hw, hb⟩ := key b s σ H tv ta Hd ps R h
      cases e
      exact ⟨ws, .inl (.inl hw), by rw [pair_len (da_paired hb)]; exact Nat.le_refl _⟩
theorem ei_tup (h : EV K b te s fun a s1 => ∃ ds, a = .d (.tuple ds) ∧ Ξ ds (fun _ => True) s1) : EI K b (iTup K te) s Ξ := fun σ H tv tl Hd ps R Q k =>
  h σ H tv tl Hd ps R _ fun v H1 a s1 Hd1 ps1 h1 R1 a1 => by
    obtain ⟨ds, rfl, q⟩ := h1
    have key : ∀ b s σ H tv ta Hd ps, Rp K b s σ H (v :: tv) (.d (.tuple ds) :: ta) Hd ps → ∃ p vs, v = .ref p ∧ SqT K H p vs ∧ DrA K Hd vs ds := fun b s σ H tv ta Hd ps R => by
      obtain ⟨R, a2⟩ := R.pop
      cases a2 with
      | tup hv ha => exact ⟨_, _, rfl, st_up R.e1 hv, ha⟩
    obtain ⟨p, vs, rfl, hv, ha⟩ := key b s1 σ H1 tv tl Hd1 ps1 (R1.push a1)
    refine ⟨p, rfl, ⟨vs, hv⟩, k _ H1 ds _ s1 Hd1 ps1 _ _ q (R1.push a1) ⟨fun b s σ H tv ta Hd ps i x R h hx => ?_, fun b s σ H tv ta Hd ps R h => ?_⟩⟩
    · obtain ⟨p', ws, e, hw, hb⟩ := key b s σ H tv ta Hd ps R
      cases e
      obtain ⟨w, hw1, hw2⟩ := pair_get (da_paired hb) hx
      refine ⟨⟨ws, w, hw, hw1⟩, fun u H' hy => ?_⟩
      obtain ⟨rfl, hu⟩ := hy
      have e : u = w := Option.some.inj ((hu ws hw).symm.trans hw1)
      subst e
      exact ⟨Hd, R, hw2⟩
    · obtain ⟨p', ws, e, hw, hb⟩ := key b s σ H tv ta Hd ps R
      cases e
      exact ⟨ws, hw, by rw [pair_len (da_paired hb)]; exact Nat.le_refl _⟩
def rngD (lo : Int) (n : Nat) : List PyData := (List.range n).map fun (i : Nat) => .int (lo + (i : Int))
theorem rngD_len (lo : Int) (n : Nat) : (rngD lo n).length = n := by simp [rngD]
theorem rngD_get {lo : Int} {n i : Nat} {x : PyData} (h : (rngD lo n)[i]? = some x) : i < n ∧ x = .int (lo + i) := by
  have hl : i < n := by
    have := (List.getElem?_eq_some_iff.mp h).1
    rw [rngD_len] at this
    exact this
  refine ⟨hl, ?_⟩
  simp [rngD, hl] at h
  exact h.symm
theorem jok_rng {lo : Int} {n : Nat} : Jok K (Itr lo n) (rngD lo n) (fun _ => True) .non (.d .none) :=
  ⟨fun b s σ H tv ta Hd ps i x R _ hx => by
    obtain ⟨hl, rfl⟩ := rngD_get hx
    refine ⟨hl, fun v H' hy => ?_⟩
    obtain ⟨rfl, rfl⟩ := hy
    exact ⟨Hd, R, .int _⟩, fun b s σ H tv ta Hd ps R _ => by rw [rngD_len]; exact Nat.le_refl n⟩
theorem ei_r1 (h : EA K b t s fun as s1 => ∃ n : Int, as = [.d (.int n)] ∧ -(2 ^ 62) ≤ n ∧ n < 2 ^ 62 ∧ Ξ (rngD 0 n.toNat) (fun _ => True) s1) : EI K b (iRng1 t) s Ξ := fun σ H tv tl Hd ps R Q k =>
  h σ H tv tl Hd ps R _ fun vs H1 as s1 Hd1 ps1 h1 R1 a1 => by
    obtain ⟨n, rfl, n1, n2, q⟩ := h1
    cases a1 with
    | cons c1 c2 =>
    cases c2
    cases c1
    exact ⟨n, rfl, n1, n2, k _ H1 _ _ s1 Hd1 ps1 .non (.d .none) q (R1.push (a := .d .none) Dr.non) jok_rng⟩
theorem ei_r2 (h : EA K b t s fun as s1 => ∃ lo n : Int, as = [.d (.int lo), .d (.int n)] ∧ (-(2 ^ 62) ≤ lo ∧ lo < 2 ^ 62 ∧ -(2 ^ 62) ≤ n ∧ n < 2 ^ 62) ∧ Ξ (rngD lo (n - lo).toNat) (fun _ => True) s1) : EI K b (iRng2 t) s Ξ := fun σ H tv tl Hd ps R Q k =>
  h σ H tv tl Hd ps R _ fun vs H1 as s1 Hd1 ps1 h1 R1 a1 => by
    obtain ⟨lo, n, rfl, n1, q⟩ := h1
    cases a1 with
    | cons c1 c2 =>
    cases c2 with
    | cons c2 c3 =>
    cases c3
    cases c1
    cases c2
    exact ⟨lo, n, rfl, n1, k _ H1 _ _ s1 Hd1 ps1 .non (.d .none) q (R1.push (a := .d .none) Dr.non) jok_rng⟩
def enumD (ds : List PyData) : List PyData := ds.mapIdx fun i x => .tuple [.int (i : Nat), x]
theorem ei_enum (h : EA K b t s fun as s1 => ∃ a ds Pc, as = [a] ∧ (a = .d (.list ds) ∨ ∃ n, a = .o n ∧ ∀ o, Pc o → o[n]? = some (.lst ds)) ∧ Pc s1.os ∧ Ξ (enumD ds) Pc s1) : EI K b (iEnum K t) s Ξ := fun σ H tv tl Hd ps R Q k =>
  h σ H tv tl Hd ps R _ fun vs H1 as s1 Hd1 ps1 h1 R1 a1 => by
    obtain ⟨a, ds, Pc, rfl, hc, hp, q⟩ := h1
    cases a1 with
    | @cons v _ _ _ c1 c2 =>
    cases c2
    have key : ∀ b s σ H tv ta Hd ps, Rp K b s σ H (v :: tv) (a :: ta) Hd ps → Pc s.os → ∃ p vs, v = .ref p ∧ H p = some (.lst vs) ∧ DrA K Hd vs ds := fun b s σ H tv ta Hd ps R h => by
      obtain ⟨R, a2⟩ := R.pop
      rcases hc with rfl | ⟨n, rfl, hn⟩
      · exact vw_lst R a2 rfl
      · exact vw_lst R a2 ⟨ds, hn _ h, rfl⟩
    obtain ⟨p, vs, rfl, hv, ha⟩ := key b s1 σ H1 tv tl Hd1 ps1 (R1.push c1) hp
    refine ⟨p, vs, rfl, .inl (.inl hv), k _ H1 _ Pc s1 Hd1 ps1 _ _ q (R1.push c1) ⟨fun b s σ H tv ta Hd ps i x R h hx => ?_, fun b s σ H tv ta Hd ps R h => ?_⟩⟩
    · obtain ⟨p', ws, e, hw, hb⟩ := key b s σ H tv ta Hd ps R h
      cases e
      have hi : i < ds.length := by
        have := (List.getElem?_eq_some_iff.mp hx).1
        rw [enumD, List.length_mapIdx] at this
        exact this
      have hx' : x = .tuple [.int (i : Nat), ds[i]] := by
        rw [enumD, List.getElem?_mapIdx, List.getElem?_eq_getElem hi] at hx
        exact (Option.some.inj hx).symm
      obtain ⟨w, hw1, hw2⟩ := pair_get (da_paired hb) (show ds[i]? = some ds[i] from List.getElem?_eq_getElem hi)
      have hq : SqL K H p ws := .inl (.inl hw)
      refine ⟨⟨ws, w, hq, hw1⟩, fun u H' hy => ?_⟩
      obtain ⟨T, z, rfl, hT, rfl, hz⟩ := hy
      have e : z = w := Option.some.inj ((hz ws hq).symm.trans hw1)
      subst e
      obtain ⟨R2, a2⟩ := R.newTup hT (vs := [.int (i : Nat), z]) (xs := [.int (i : Nat), ds[i]]) (.cons (Dr.int _) (.cons hw2 .nil))
      exact ⟨_, R2, by rw [hx']; exact a2⟩
    · obtain ⟨p', ws, e, hw, hb⟩ := key b s σ H tv ta Hd ps R h
      cases e
      exact ⟨ws, .inl (.inl hw), by rw [pair_len (da_paired hb), enumD, List.length_mapIdx]; exact Nat.le_refl _⟩
def signsD (t : Str) : List PyData := t.cps.toList.map fun c => .str ⟨#[c]⟩
theorem ei_str (h : EV K b te s fun a s1 => ∃ t, a = .d (.str t) ∧ Ξ (signsD t) (fun _ => True) s1) : EI K b (iStr te) s Ξ := fun σ H tv tl Hd ps R Q k =>
  h σ H tv tl Hd ps R _ fun v H1 a s1 Hd1 ps1 h1 R1 a1 => by
    obtain ⟨t, rfl, q⟩ := h1
    cases a1
    refine ⟨t, rfl, k _ H1 _ _ s1 Hd1 ps1 .non (.d .none) q (R1.push (a := .d .none) Dr.non) ⟨fun b s σ H tv ta Hd ps i x R _ hx => ?_, fun b s σ H tv ta Hd ps R _ => ?_⟩⟩
    · have hi : i < t.cps.size := by
        have := (List.getElem?_eq_some_iff.mp hx).1
        simpa [signsD] using this
      refine ⟨hi, fun u H' hy => ?_⟩
      obtain ⟨rfl, c, hc, rfl⟩ := hy
      have e : x = .str ⟨#[c]⟩ := by
        simp [signsD] at hx
        obtain ⟨c', h1, h2⟩ := hx
        rw [hc] at h1
        cases h1
        exact h2.symm
      exact ⟨Hd, R, by rw [e]; exact Dr.str _⟩
    · show t.cps.size ≤ _
      simp [signsD]
/-- for: I holds ahead of turn i -/
theorem go_for {wi : TI} (h : EI K b wi s fun ds Pc s1 => ∃ I : Nat → S → Prop, I 0 s1 ∧ (∀ i s2, i ≤ ds.length → I i s2 → Pc s2.os) ∧
      (∀ i x s2, ds[i]? = some x → I i s2 → GT K b g (.d x) s2 fun s3 => GO K b tx s3 ⟨I (i + 1), N.rt, N.nx, I (i + 1)⟩) ∧ ∀ s2, I ds.length s2 → N.nx s2) : GO K b (tFor wi g tx) s N := fun D σ H tv tl Hd ps R k =>
  h σ H tv tl Hd ps R _ fun J H1 ds Pc s1 Hd1 ps1 tx' ax h1 R1 jk => by
    obtain ⟨I, h0, hp, hs, hd⟩ := h1
    refine ⟨fun i m σ H => m = ds.length - i ∧ i ≤ ds.length ∧ ∃ s2 Hd2 ps2, I i s2 ∧ Rp K b s2 σ H (tx' :: tv) (ax :: tl) Hd2 ps2, ⟨ds.length, by simp, Nat.zero_le _, s1, Hd1, ps1, h0, R1⟩, fun i m σ H hW => ?_⟩
    obtain ⟨rfl, hi, s2, Hd2, ps2, q, R2⟩ := hW
    by_cases hlt : i < ds.length
    · have hx : ds[i]? = some ds[i] := List.getElem?_eq_getElem hlt
      obtain ⟨g1, g2⟩ := jk.go b s2 σ H tv tl Hd2 ps2 i _ R2 (hp i s2 hi q) hx
      refine .inr ⟨g1, fun σ H => ∃ s2 Hd2 ps2, I (i + 1) s2 ∧ Rp K b s2 σ H (tx' :: tv) (ax :: tl) Hd2 ps2, fun σ' H' q' => ⟨ds.length - (i + 1), by omega, rfl, hlt, q'⟩, fun v H' hy => ?_⟩
      obtain ⟨Hd3, R3, a3⟩ := g2 v H' hy
      refine hs i _ s2 hx q σ H' (tx' :: tv) (ax :: tl) Hd3 ps2 v R3 a3 _ fun σ' H' s' Hd' ps' g R' => ?_
      exact g _ σ' H' _ _ Hd' ps' R' ⟨fun σ H s Hd ps q R => ⟨s, Hd, ps, q, R⟩, fun v σ H a s Hd ps q R ha => k.rt v σ H a s Hd ps q R.pop.1 ha, fun σ H s Hd ps q R => k.nx σ H s Hd ps q R.pop.1, fun σ H s Hd ps q R => ⟨s, Hd, ps, q, R⟩⟩
    · have e : i = ds.length := by omega
      subst e
      exact .inl ⟨jk.stop b s2 σ H tv tl Hd2 ps2 R2 (hp _ s2 hi q), k.nx σ H s2 Hd2 ps2 (hd s2 q) R2.pop.1⟩
/-! comprehensions -/
def Tg (js : List Nat) (g : TG) : Prop := ∀ v σ H Q, g v σ H Q → g v σ H fun σ' H' => Q σ' H' ∧ σ'.length = σ.length ∧ ∀ i, i ∉ js → σ'[i]? = σ[i]?
def Tgs (js : List Nat) (g : TGs) : Prop := ∀ v σ H Q, g v σ H Q → g v σ H fun σ' H' => Q σ' H' ∧ σ'.length = σ.length ∧ ∀ i, i ∉ js → σ'[i]? = σ[i]?
theorem tg_name {js : List Nat} {j : Nat} (h : j ∈ js) : Tg js (gName j) := fun v σ H Q q => ⟨q, List.length_set, fun i hi => List.getElem?_set_ne (fun e => hi (by rw [← e]; exact h))⟩
theorem tg_nil {js : List Nat} : Tgs js gNil := fun v σ H Q q => ⟨q.1, q.2, rfl, fun _ _ => rfl⟩
theorem Tg.mono {js : List Nat} {g : TG} (h : Tg js g) (m : ∀ v σ H (Q Q' : L2.St → Hp → Prop), (∀ σ H, Q σ H → Q' σ H) → g v σ H Q → g v σ H Q') : True := trivial
def Mg (g : TG) : Prop := ∀ v σ H (Q Q' : L2.St → Hp → Prop), (∀ σ H, Q σ H → Q' σ H) → g v σ H Q → g v σ H Q'
def Mgs (g : TGs) : Prop := ∀ v σ H (Q Q' : L2.St → Hp → Prop), (∀ σ H, Q σ H → Q' σ H) → g v σ H Q → g v σ H Q'
theorem mg_name {j : Nat} : Mg (gName j) := fun _ _ _ _ _ m q => m _ _ q
theorem mg_nil : Mgs gNil := fun _ _ _ _ _ m q => ⟨q.1, m _ _ q.2⟩
theorem mg_cons {g : TG} {u : TGs} (h1 : Mg g) (h2 : Mgs u) : Mgs (gCons g u) := fun v σ H Q Q' m ⟨x, r, e, q⟩ => ⟨x, r, e, h1 _ _ _ _ _ (fun σ H q => h2 _ _ _ _ _ m q) q⟩
theorem mg_tup {n : Nat} {u : TGs} (h : Mgs u) : Mg (gTup K n u) := fun v σ H Q Q' m ⟨a, xs, e, h1, h2, q⟩ => ⟨a, xs, e, h1, h2, h _ _ _ _ _ m q⟩
theorem tg_cons {js : List Nat} {g : TG} {u : TGs} (m1 : Mg g) (m2 : Mgs u) (h1 : Tg js g) (h2 : Tgs js u) : Tgs js (gCons g u) := fun v σ H Q ⟨x, r, e, q⟩ =>
  ⟨x, r, e, m1 _ _ _ _ _ (fun σ' H' ⟨q, l, z⟩ => m2 _ _ _ _ _ (fun σ2 H2 ⟨q2, l2, z2⟩ => ⟨q2, l2.trans l, fun i hi => (z2 i hi).trans (z i hi)⟩) (h2 r σ' H' Q q)) (h1 x σ H _ q)⟩
theorem tg_tup {js : List Nat} {n : Nat} {u : TGs} (h : Tgs js u) : Tg js (gTup K n u) := fun v σ H Q ⟨a, xs, e, h1, h2, q⟩ => ⟨a, xs, e, h1, h2, h _ _ _ _ q⟩
theorem wipe_out {σ : L2.St} {i : Nat} : ∀ {vs : List Nat}, i ∉ vs → (wipe σ vs)[i]? = σ[i]?
  | [], _ => rfl
  | v :: vs, h => by
    unfold wipe
    rw [List.getElem?_set_ne (fun e => h (by rw [← e]; exact List.mem_cons_self))]
    exact wipe_out fun z => h (List.mem_cons_of_mem _ z)
theorem wipe_in {σ : L2.St} {i : Nat} : ∀ {vs : List Nat}, i ∈ vs → i < σ.length → (wipe σ vs)[i]? = some none
  | v :: vs, h, hl => by
    unfold wipe
    by_cases e : v = i
    · subst e
      exact List.getElem?_set_self (by rw [wipe_length]; exact hl)
    · rw [List.getElem?_set_ne e]
      exact wipe_in (List.mem_of_ne_of_mem (fun q => e q.symm) h) hl
theorem wipe_eq {σ σ' : L2.St} {vs : List Nat} (hl : σ'.length = σ.length) (h : ∀ i, i ∉ vs → σ'[i]? = σ[i]?) : wipe σ' vs = wipe σ vs := by
  apply List.ext_getElem?
  intro i
  by_cases hi : i ∈ vs
  · by_cases hlt : i < σ.length
    · rw [wipe_in hi hlt, wipe_in hi (by rw [hl]; exact hlt)]
    · rw [List.getElem?_eq_none (by rw [wipe_length]; omega), List.getElem?_eq_none (by rw [wipe_length]; omega)]
  · rw [wipe_out hi, wipe_out hi, h i hi]
theorem wp_some {s : S} {i : Nat} {a : A} : ∀ {vs : List Nat}, (s.wp vs).ss[i]? = some (some a) → s.ss[i]? = some (some a) ∧ i ∉ vs
  | [], h => ⟨h, by simp⟩
  | v :: vs, h => by
    have h' : ((s.wp vs).ss.set v none)[i]? = some (some a) := h
    by_cases e : v = i
    · subst e
      by_cases hv : v < (s.wp vs).ss.length
      · rw [List.getElem?_set_self hv] at h'; cases h'
      · rw [List.getElem?_eq_none (by rw [List.length_set]; omega)] at h'; cases h'
    · rw [List.getElem?_set_ne e] at h'
      obtain ⟨h1, h2⟩ := wp_some h'
      exact ⟨h1, by simp only [List.mem_cons, not_or]; exact ⟨fun q => e q.symm, h2⟩⟩
theorem wp_len {s : S} : ∀ {vs : List Nat}, (s.wp vs).ss.length = s.ss.length
  | [] => rfl
  | v :: vs => by
    show ((s.wp vs).ss.set v none).length = _
    rw [List.length_set]
    exact wp_len
theorem Rp.wipe {b : B} {σ : L2.St} {H Hd : Hp} {tv : List V} {ta : List A} {ps : List Addr} (R : Rp K b s σ H tv ta Hd ps) (vs : List Nat) : Rp K b (s.wp vs) (wipe σ vs) H tv ta Hd ps :=
  ⟨R.e0, R.e1, R.e2, R.nw, R.pl, R.nd, R.p0, R.fr, R.ex, R.cl, fun i a hi => by
    obtain ⟨h1, h2⟩ := wp_some hi
    obtain ⟨v, hv, ha⟩ := R.sl i a h1
    exact ⟨v, by rw [wipe_out h2]; exact hv, ha⟩, by rw [wipe_length, wp_len, R.ln], R.tm⟩
theorem Rp.unwipe {b : B} {σ σ' : L2.St} {H Hd : Hp} {tv : List V} {ta : List A} {ps : List Addr} (R : Rp K b s σ' H tv ta Hd ps) {vs : List Nat} (e : L2.wipe σ' vs = L2.wipe σ vs) : Rp K b (s.wp vs) σ H tv ta Hd ps :=
  ⟨R.e0, R.e1, R.e2, R.nw, R.pl, R.nd, R.p0, R.fr, R.ex, R.cl, fun i a hi => by
    obtain ⟨h1, h2⟩ := wp_some hi
    obtain ⟨v, hv, ha⟩ := R.sl i a h1
    exact ⟨v, by rw [← wipe_out h2, ← e, wipe_out h2]; exact hv, ha⟩, by
    have := congrArg List.length e
    rw [wipe_length, wipe_length] at this
    rw [wp_len, ← R.ln, this], R.tm⟩
/-- [elt for g in wi if tt]: the new list is the own cell n -/
theorem ev_lc {wi : TI} {vs : List Nat} (htg : Tg vs g) (hmg : Mg g) (h : EI K b wi s fun ds Pc s1 => ∃ I : Nat → List PyData → S → Prop, I 0 [] ((s1.add (.lst [])).wp vs) ∧
      (∀ i acc s2, i ≤ ds.length → I i acc s2 → Pc s2.os ∧ s2.os[s1.os.length]? = some (.lst acc)) ∧
      (∀ i x acc s2, ds[i]? = some x → I i acc s2 → GT K b g (.d x) (s2.wp vs) fun s3 => ET K b tt s3 fun k s4 =>
        (k = true → EV K b te s4 fun y s5 => ∃ z, y = .d z ∧ s5.os[s1.os.length]? = some (.lst acc) ∧ acc.length < sizeLine ∧ I (i + 1) (acc ++ [z]) ((s5.put s1.os.length (.lst (acc ++ [z]))).wp vs)) ∧
        (k = false → I (i + 1) acc (s4.wp vs))) ∧
      ∀ acc s2, I ds.length acc s2 → Φ (.o s1.os.length) s2) : EV K b (tLc wi g tt te vs) s Φ := fun σ H tv tl Hd ps R Q k =>
  h σ H tv tl Hd ps R _ fun J H1 ds Pc s1 Hd1 ps1 tx' ax h1 R1 jk => by
    obtain ⟨I, h0, hp, hs, hd⟩ := h1
    intro D hD
    obtain ⟨R2, a2⟩ := R1.new (c := .lst []) (o := .lst []) hD ⟨none_of_same R1.e1 hD, [], upd_same, .nil⟩
    have R2' : Rp K b ((s1.add (.lst [])).wp vs) σ _ _ _ Hd1 _ := R2.unwipe rfl
    have a2' : AR K Hd1 (ps1 ++ [D]) (.ref D) (.o s1.os.length) := a2
    refine ⟨fun i m H => m = ds.length - i ∧ i ≤ ds.length ∧ ∃ acc s2 Hd2 ps2, I i acc s2 ∧ Rp K b s2 σ H (tx' :: .ref D :: tv) (ax :: .o s1.os.length :: tl) Hd2 ps2, ⟨ds.length, by simp, Nat.zero_le _, [], _, Hd1, _, h0, (R2'.pop.1.push a2').push R2'.pop.2⟩, fun i m H hW => ?_⟩
    obtain ⟨rfl, hi, acc, s2, Hd2, ps2, q, R3⟩ := hW
    obtain ⟨hPc, hOs⟩ := hp i acc s2 hi q
    by_cases hlt : i < ds.length
    · have hx : ds[i]? = some ds[i] := List.getElem?_eq_getElem hlt
      have g1 := (jk.go b s2 σ H _ _ Hd2 ps2 i _ R3 hPc hx).1
      have g2 := (jk.go b (s2.wp vs) (L2.wipe σ vs) H _ _ Hd2 ps2 i _ (R3.wipe vs) hPc hx).2
      refine .inr ⟨g1, fun H => ∃ acc s2 Hd2 ps2, I (i + 1) acc s2 ∧ Rp K b s2 σ H (tx' :: .ref D :: tv) (ax :: .o s1.os.length :: tl) Hd2 ps2, fun H' q' => ⟨ds.length - (i + 1), by omega, rfl, hlt, q'⟩, fun v H' hy => ?_⟩
      obtain ⟨Hd3, R5, a5⟩ := g2 v H' hy
      refine hmg _ _ _ _ _ (fun σ2 H2 q => ⟨(wipe_eq q.2.1 q.2.2).trans (wipe_eq (wipe_length _ _) fun i hi => wipe_out hi), q.1 ((wipe_eq q.2.1 q.2.2).trans (wipe_eq (wipe_length _ _) fun i hi => wipe_out hi))⟩)
        (htg v (L2.wipe σ vs) H' (fun σ2 H2 => L2.wipe σ2 vs = L2.wipe σ vs → tt σ2 H2 fun b H3 => if b = true then te σ2 H3 fun y H4 => ∃ acc, H4 D = some (.lst acc) ∧ acc.length < sizeLine ∧
          ∃ acc' s2 Hd2 ps2, I (i + 1) acc' s2 ∧ Rp K _ s2 σ (upd H4 D (.lst (acc ++ [y]))) (tx' :: .ref D :: tv) (ax :: .o s1.os.length :: tl) Hd2 ps2 else ∃ acc s2 Hd2 ps2, I (i + 1) acc s2 ∧ Rp K _ s2 σ H3 (tx' :: .ref D :: tv) (ax :: .o s1.os.length :: tl) Hd2 ps2)
          (hs i _ acc s2 hx q (L2.wipe σ vs) H' _ _ Hd3 ps2 v R5 a5 _ fun σ2 H2 s3 Hd4 ps4 g R6 he => ?_))
      refine g σ2 H2 _ _ Hd4 ps4 R6 _ fun kk H3 s4 Hd5 ps5 g R7 => ?_
      cases kk with
      | false => exact ⟨acc, _, Hd5, ps5, g.2 rfl, R7.unwipe he⟩
      | true =>
        refine g.1 rfl σ2 H3 _ _ Hd5 ps5 R7 _ fun y H4 a s5 Hd6 ps6 g R8 a8 => ?_
        obtain ⟨z, rfl, ho, hl, hI⟩ := g
        obtain ⟨p, hpp, e⟩ := R8.pop.1.pop.2
        cases e
        obtain ⟨hn, ws, hw, ha⟩ := R8.cl _ _ D ho hpp
        refine ⟨ws, hw, by rw [pair_len (da_paired ha)]; exact hl, acc ++ [z], _, Hd6, ps6, hI, ?_⟩
        exact (R8.put (c := .lst (acc ++ [z])) ho hpp (fun z => nomatch z) ⟨hn, _, upd_same, paired_da (pair_app (da_paired ha) (.cons (show Dr K Hd6 y z from a8) .nil))⟩).unwipe he
    · have e : i = ds.length := by omega
      subst e
      exact .inl ⟨jk.stop b s2 σ H _ _ Hd2 ps2 R3 hPc, k _ _ _ _ _ _ (hd acc s2 q) R3.pop.1.pop.1 R3.pop.1.pop.2⟩
end
/-! ### defs -/
inductive Rv where
  | val (x : PyData)
  | new (c : C)
  | pv (φ : Hp → V → Prop) (m : ∀ H H' v, Same H H' → φ H v → φ H' v)
def RvR (K : PySem.W.Frag) (H Hd' H' : Hp) (v : V) : Rv → Prop
  | .val x => Dr K Hd' v x
  | .new c => ∃ p, v = .ref p ∧ H p = none ∧ c ≠ .dead ∧ CRp K Hd' H' p c
  | .pv φ _ => φ Hd' v
/-- an exception: its class, its own dict's fields if it has one -/
structure Xv where
  cls : Value
  fs : Option (List (Str × PyData))
structure Spc where
  I : Type
  args : I → List A
  cells : I → List C
  pre : I → Prop
  post : I → Rv → List C → Prop
  xpost : I → Xv → List C → Prop := fun _ _ _ => False
def XvR (K : PySem.W.Frag) (Hd' : Hp) (d : Option Addr) : Option (List (Str × PyData)) → Prop
  | none => d = none
  | some fs => ∃ a ws, d = some a ∧ Hd' a = some (.xd ws) ∧ Paired (fun (w : Str × V) f => w.1 = f.1 ∧ Dr K Hd' w.2 f.2) ws fs
/-- the end of a call: what stood stands, but for the cells ps; the data has grown -/
structure Fin' (K : PySem.W.Frag) (H Hd : Hp) (ps : List Addr) (n : Nat) (Hd' H' : Hp) (os' : List C) : Prop where
  e1 : Same Hd Hd'
  e2 : Same Hd' H'
  e3 : ∀ a o, a ∉ ps → H a = some o → H' a = some o
  e4 : ∀ a, a ∉ ps → H a ≠ none → Hd a = none → Hd' a = none
  e5 : ∀ p, p ∈ ps → H' p ≠ none
  e6 : os'.length = n
  e7 : ∀ (k : Nat) cc p, os'[k]? = some cc → ps[k]? = some p → CRp K Hd' H' p cc
/-- what a def promises -/
def SpB (K : PySem.W.Frag) (f : Spc) : Sp := fun vs H Q E => ∃ Hd ps i, Same Hd H ∧ ps.Nodup ∧ ps.length = (f.cells i).length ∧ (∀ p, p ∈ ps → H p ≠ none) ∧ (∀ (k : Nat) cc p, (f.cells i)[k]? = some cc → ps[k]? = some p → CRp K Hd H p cc) ∧ Paired (AR K Hd ps) vs (f.args i) ∧
  f.pre i ∧ (∀ r os', f.post i r os' → ∀ v Hd' H', Fin' K H Hd ps (f.cells i).length Hd' H' os' → RvR K H Hd' H' v r → Q v H') ∧
    ∀ x os', f.xpost i x os' → ∀ d Hd' H', Fin' K H Hd ps (f.cells i).length Hd' H' os' → XvR K Hd' d x.fs → E x.cls d H'
def RTn (n : Nat) (Φ : Rv → List C → Prop) (a : A) (s' : S) : Prop := match a with
  | .d x => Φ (.val x) (s'.os.take n)
  | .o k => ∃ c, n ≤ k ∧ s'.os[k]? = some c ∧ c ≠ .dead ∧ Φ (.new c) (s'.os.take n)
  | .p φ m => Φ (.pv φ m) (s'.os.take n)
def RTE (n : Nat) (Φ : Rv → List C → Prop) : EE := ⟨fun s' => RTn n Φ (.d .none) s', fun a s' => RTn n Φ a s', fun _ => False, fun _ => False⟩
def s0 (m : Nat) (as : List A) (os : List C) : S := ⟨as.map some ++ List.replicate (m - as.length) none, os⟩
section
variable {K : PySem.W.Frag} {b : B} {s s1 : S} {te ta tb tc : TE} {tt tu : TT} {t : TA} {x y : A} {Φ Ψ : A → S → Prop} {r r' : R2} {tx ty : TS} {N : EE} {g : TG} {f : Spc}
theorem go_fn {vs : List V} {H : Hp} {Q : VK} {E : XK} {L : List Str} (h : SpB K f vs H Q E)
    (body : ∀ b i, f.pre i → (∀ x d σ H s tv ta Hd ps, f.xpost i x (s.os.take (f.cells i).length) → Rp K b s σ H tv ta Hd ps → XvR K Hd d x.fs → E x.cls d H) → GO K b tx (s0 L.length (f.args i) (f.cells i)) (RTE (f.cells i).length (f.post i))) : tx { nx := fun _ H' => Q .non H', rt := Q } (L2.start L vs) H := by
  obtain ⟨Hd, ps, i, e1, nd, pl, ex, cl, ha, hpre, hf, hx⟩ := h
  have hb := fun b => body b i hpre
  generalize f.args i = as at ha hb
  generalize f.cells i = os at pl cl hf hb hx
  have hlen := pair_len ha
  obtain ⟨F, hF⟩ : ∃ F : Hp, F = fun a => if a ∈ ps then none else H a := ⟨_, rfl⟩
  have F1 : ∀ p, p ∈ ps → F p = none := fun p hp => by rw [hF]; exact if_pos hp
  have F2 : ∀ p, p ∉ ps → F p = H p := fun p hp => by rw [hF]; exact if_neg hp
  have R : Rp K ⟨Hd, F, ps⟩ (s0 L.length as os) (L2.start L vs) H [] [] Hd ps := by
    refine ⟨Same.refl _, e1, fun a o e => ?_, fun a _ z => z, pl, nd, ⟨[], by simp⟩, F1, ex, cl, fun i a hi => ?_, ?_, .nil⟩
    · by_cases z : a ∈ ps
      · rw [show (B.F ⟨Hd, F, ps⟩) a = F a from rfl, F1 a z] at e; cases e
      · rw [← F2 a z]; exact e
    · have hi' : (as.map some ++ List.replicate (L.length - as.length) none)[i]? = some (some a) := hi
      by_cases hl : i < as.length
      · rw [List.getElem?_append_left (by simpa using hl), List.getElem?_map] at hi'
        cases q : as[i]? with
        | none => rw [q] at hi'; cases hi'
        | some a' =>
          rw [q] at hi'
          have e : a' = a := by simpa using hi'
          subst e
          obtain ⟨v, hv, hr⟩ := pair_get ha q
          refine ⟨v, ?_, hr⟩
          unfold L2.start
          rw [List.getElem?_append_left (by simpa [hlen] using hl), List.getElem?_map, hv]
          rfl
      · rw [List.getElem?_append_right (by simpa using hl)] at hi'
        have := List.mem_of_getElem? hi'
        have := List.eq_of_mem_replicate this
        cases this
    · unfold L2.start
      show _ = (as.map some ++ _).length
      simp [hlen]
  have F3 : ∀ {σ H' s' tv ta Hd' ps'}, Rp K ⟨Hd, F, ps⟩ s' σ H' tv ta Hd' ps' → Fin' K H Hd ps os.length Hd' H' (s'.os.take os.length) ∧ ∃ more, ps' = ps ++ more := by
    intro σ H' s' tv ta Hd' ps' R'
    obtain ⟨more, hm⟩ := R'.p0
    have hm' : ps' = ps ++ more := hm
    have hle : os.length ≤ s'.os.length := by rw [← R'.pl, hm', List.length_append, pl]; omega
    refine ⟨⟨R'.e0, R'.e1, fun a o z e => R'.e2 a o (by show F a = some o; rw [F2 a z]; exact e), fun a z e e2 => R'.nw a (by show F a ≠ none; rw [F2 a z]; exact e) e2,
      fun p hp => R'.ex p (by rw [hm']; exact List.mem_append_left _ hp), by rw [List.length_take]; omega, fun k cc p hk hp => ?_⟩, more, hm'⟩
    have hkl : k < ps.length := (List.getElem?_eq_some_iff.mp hp).1
    refine R'.cl k cc p ?_ ?_
    · rw [List.getElem?_take, if_pos (by rw [← pl]; exact hkl)] at hk
      exact hk
    · rw [hm', List.getElem?_append_left hkl]
      exact hp
  have fin : ∀ v σ H' a s' Hd' ps', RTn os.length (f.post i) a s' → Rp K ⟨Hd, F, ps⟩ s' σ H' [] [] Hd' ps' → AR K Hd' ps' v a → Q v H' := by
    intro v σ H' a s' Hd' ps' q R' har
    obtain ⟨g, more, hm'⟩ := F3 R'
    cases a with
    | d x => exact hf _ _ q v Hd' H' g har
    | p φ m => exact hf _ _ q v Hd' H' g har
    | o k =>
      obtain ⟨c, hk, ho, hcd, q⟩ := q
      obtain ⟨p, hp, e⟩ := har
      refine hf _ _ q v Hd' H' g ⟨p, e, ?_, hcd, R'.cl k _ p ho hp⟩
      have hnp : p ∉ ps := by
        intro hm2
        obtain ⟨j, hj⟩ := List.getElem?_of_mem hm2
        have hjl : j < ps.length := (List.getElem?_eq_some_iff.mp hj).1
        have hj' : ps'[j]? = some p := by rw [hm', List.getElem?_append_left hjl]; exact hj
        exact nd_ne R'.nd hj' hp (by omega) rfl
      rw [← F2 p hnp]
      exact R'.fr p (List.mem_of_getElem? hp)
  refine hb ⟨Hd, F, ps⟩ (fun x d σ H' s' tv ta Hd' ps' q R' hd => hx x _ q d Hd' H' (F3 R').1 hd) _ _ H [] [] Hd ps R ⟨fun σ H' s' Hd' ps' q R' => ?_, fun v σ H' a s' Hd' ps' q R' har => ?_, fun _ _ _ _ _ z => z.elim, fun _ _ _ _ _ z => z.elim⟩
  · exact fin .non σ H' (.d .none) s' Hd' ps' q R' Dr.non
  · exact fin v σ H' a s' Hd' ps' q R' har
theorem spB_len {vs : List V} {H : Hp} {Q : VK} {E : XK} {n : Nat} (h : SpB K f vs H Q E) (hn : ∀ i, (f.args i).length = n) : vs.length = n := by
  obtain ⟨Hd, ps, i, e1, nd, pl, ex, cl, ha, hf⟩ := h
  rw [pair_len ha]
  exact hn _
/-- what a call leaves -/
def aft (s1 : S) (Φ : A → S → Prop) : Rv → Prop
  | .val x => Φ (.d x) s1
  | .new c => Φ (.o s1.os.length) (s1.add c)
  | .pv φ m => Φ (.p φ m) s1
theorem Rp.adopt {b : B} {σ : L2.St} {H Hd : Hp} {tv : List V} {ta : List A} {ps : List Addr} (R : Rp K b s σ H tv ta Hd ps) {p : Addr} {c : C} (h1 : p ∉ ps) (h2 : b.F p = none) (h3 : H p ≠ none) (hn : CRp K Hd H p c) :
    Rp K b (s.add c) σ H tv ta Hd (ps ++ [p]) ∧ AR K Hd (ps ++ [p]) (.ref p) (.o s.os.length) := by
  refine ⟨⟨R.e0, R.e1, R.e2, R.nw, ?_, ?_, ?_, ?_, ?_, ?_, ?_, R.ln, pair_mono (fun _ _ q => ar_more q) R.tm⟩, p, ?_, rfl⟩
  · show (ps ++ [p]).length = (s.os ++ [c]).length
    rw [List.length_append, List.length_append, R.pl]
    rfl
  · refine List.nodup_append.mpr ⟨R.nd, List.pairwise_singleton _ _, fun a ha c hc e => ?_⟩
    rw [List.mem_singleton.mp hc] at e
    exact h1 (by rw [← e]; exact ha)
  · obtain ⟨more, e⟩ := R.p0
    exact ⟨more ++ [p], by rw [e, List.append_assoc]⟩
  · intro q hq
    rcases List.mem_append.mp hq with hq | hq
    · exact R.fr q hq
    · rw [List.mem_singleton.mp hq]
      exact h2
  · intro q hq
    rcases List.mem_append.mp hq with hq | hq
    · exact R.ex q hq
    · rw [List.mem_singleton.mp hq]
      exact h3
  · intro k cc q hk hq
    by_cases hl : k < s.os.length
    · have hk' : s.os[k]? = some cc := by rw [show (s.add c).os = s.os ++ [c] from rfl, List.getElem?_append_left hl] at hk; exact hk
      have hq' : ps[k]? = some q := by rw [List.getElem?_append_left (by rw [R.pl]; exact hl)] at hq; exact hq
      exact R.cl k cc q hk' hq'
    · have e : k = s.os.length := by
        have := (List.getElem?_eq_some_iff.mp hk).1
        rw [show (s.add c).os = s.os ++ [c] from rfl, List.length_append, List.length_singleton] at this
        omega
      subst e
      rw [show (s.add c).os = s.os ++ [c] from rfl, List.getElem?_concat_length] at hk
      cases hk
      rw [← R.pl, List.getElem?_concat_length] at hq
      cases hq
      exact hn
  · intro i a hi
    obtain ⟨v, hv, ha⟩ := R.sl i a hi
    exact ⟨v, hv, ar_more ha⟩
  · rw [← R.pl, List.getElem?_concat_length]
/-- one own cell has changed, the heap has grown -/
theorem Rp.ext1 {b : B} {σ : L2.St} {H H' Hd Hd' : Hp} {tv : List V} {ta : List A} {ps : List Addr} (R : Rp K b s σ H tv ta Hd ps) {k : Nat} {p : Addr} {c c' : C} (hk : s.os[k]? = some c) (hp : ps[k]? = some p) (hc : c ≠ .dead)
    (e1 : Same Hd Hd') (e2 : Same Hd' H') (e3 : ∀ a o, a ≠ p → H a = some o → H' a = some o) (e4 : ∀ a, a ≠ p → H a ≠ none → Hd a = none → Hd' a = none) (e5 : H' p ≠ none) (hn : CRp K Hd' H' p c') : Rp K b (s.put k c') σ H' tv ta Hd' ps where
  e0 := R.e0.trans e1
  e1 := e2
  e2 := fun a o h => e3 a o (ne_of_none h (R.fr p (List.mem_of_getElem? hp))) (R.e2 a o h)
  nw := fun a ha hd => by
    have z : a ≠ p := fun e => ha (by rw [e]; exact R.fr p (List.mem_of_getElem? hp))
    refine e4 a z (fun q => ha ?_) (R.nw a ha hd)
    exact none_of_same R.e2 q
  pl := by rw [R.pl]; show _ = (s.os.set k c').length; rw [List.length_set]
  nd := R.nd
  p0 := R.p0
  fr := R.fr
  ex := fun q hq z => by
    by_cases e : q = p
    · exact e5 (by rw [← e]; exact z)
    · cases h : H q with
      | none => exact R.ex q hq h
      | some o => rw [e3 q o e h] at z; cases z
  cl := fun j cj q hj hq => by
    by_cases e : j = k
    · subst e
      rw [hp] at hq
      cases hq
      have : (s.os.set j c')[j]? = some c' := List.getElem?_set_self (List.getElem?_eq_some_iff.mp hk).1
      rw [show (s.put j c').os = s.os.set j c' from rfl, this] at hj
      cases hj
      exact hn
    · have hj' : s.os[j]? = some cj := by
        rw [show (s.put k c').os = s.os.set k c' from rfl, List.getElem?_set_ne (Ne.symm e)] at hj
        exact hj
      have z : q ≠ p := nd_ne R.nd hq hp e
      exact cr_up e1 (R.cl j cj q hj' hq) (fun x => e4 q z (R.ex q (List.mem_of_getElem? hq)) x) fun _ o' ho => e3 q o' z ho
  sl := fun i a hi => by
    obtain ⟨v, hv, ha⟩ := R.sl i a hi
    exact ⟨v, hv, ar_up e1 ha⟩
  ln := R.ln
  tm := pair_mono (fun _ _ q => ar_up e1 q) R.tm
theorem cr_some {Hd H : Hp} {p : Addr} {c : C} (h : CRp K Hd H p c) (hc : c ≠ .dead) : H p ≠ none := by
  cases c with
  | dead => exact absurd rfl hc
  | lst xs => rw [h.2.choose_spec.1]; exact fun z => nomatch z
  | dK kvs => rw [h.2.choose_spec.1]; exact fun z => nomatch z
/-- an exception of a callee is what is wished for here -/
def XOK1 (K : PySem.W.Frag) (b : B) (x : Xv) (s1 : S) (E : XK) : Prop := ∀ d σ H' tv ta Hd' ps', Rp K b s1 σ H' tv ta Hd' ps' → XvR K Hd' d x.fs → E x.cls d H'
def XOK (K : PySem.W.Frag) (b : B) (f : Spc) (i : f.I) (s1 : S) (E : XK) : Prop := ∀ x os', f.xpost i x os' → XOK1 K b x s1 E
/-- a call with data alone -/
theorem ev_call0 {E : XK} (h : EA K b t s fun as s1 => ∃ i, as = f.args i ∧ f.cells i = [] ∧ noO as = true ∧ f.pre i ∧ (∀ r os', f.post i r os' → aft s1 Φ r) ∧ XOK K b f i s1 E) : EV K b (tCall (SpB K f) [] E t) s Φ := fun σ H tv tl Hd ps R Q k =>
  h σ H tv tl Hd ps R _ fun vs H1 as s1 Hd1 ps1 h1 R1 a1 => by
    obtain ⟨i, ei, ec, hno, hpre, hf, hx⟩ := h1
    have hno := noO_ok hno
    have ha : Paired (AR K Hd1 []) vs as := by
      have : ∀ {vs as}, Paired (AR K Hd1 ps1) vs as → (∀ a, a ∈ as → ∀ k, a ≠ .o k) → Paired (AR K Hd1 []) vs as := by
        intro vs as h
        induction h with
        | nil => intro _; exact .nil
        | @cons v a vs as h1 _ ih =>
          intro hno
          refine .cons ?_ (ih fun a ha => hno a (List.mem_cons_of_mem _ ha))
          cases a with
          | d x => exact h1
          | p φ m => exact h1
          | o k => exact absurd rfl (hno _ List.mem_cons_self k)
      exact this a1 hno
    rw [List.append_nil]
    refine ⟨Hd1, [], i, R1.e1, .nil, by rw [ec]; rfl, fun p hp => by simp at hp, fun k cc p hk hp => by simp at hp, by rw [← ei]; exact ha, hpre, fun r os' hr v Hd' H' ⟨e1, e2, e3, e4, _, _, _⟩ hv => ?_, fun x os' hr d Hd' H' ⟨e1, e2, e3, e4, _, _, _⟩ hv => hx x os' hr d _ H' _ _ _ _ (R1.ext e1 e2 (fun a o h => e3 a o (by simp) h) fun a h1 h2 => e4 a (by simp) h1 h2) hv⟩
    have R2 : Rp K b s1 σ H' tv tl Hd' ps1 := R1.ext e1 e2 (fun a o h => e3 a o (by simp) h) fun a h1 h2 => e4 a (by simp) h1 h2
    have q := hf r os' hr
    cases r with
    | val x => exact k v H' _ s1 Hd' ps1 q R2 hv
    | pv φ m => exact k v H' _ s1 Hd' ps1 q R2 hv
    | new xs =>
      obtain ⟨p, rfl, hn, hcd, hc⟩ := hv
      obtain ⟨R3, a3⟩ := R2.adopt (c := xs) (fun hm => R1.ex p hm hn) (none_of_same R1.e2 hn) (cr_some hc hcd) hc
      exact k _ H' _ _ Hd' _ q R3 a3
theorem ars_sub {Hd : Hp} {ps ps' : List Addr} : ∀ {vs : List V} {as : List A}, Paired (AR K Hd ps) vs as → (∀ a, a ∈ as → ∀ k, a ≠ .o k) → Paired (AR K Hd ps') vs as
  | _, _, .nil, _ => .nil
  | _, _, .cons (b := a) h1 h2, hno => .cons (by
      cases a with
      | d x => exact h1
      | p φ m => exact h1
      | o k => exact absurd rfl (hno _ List.mem_cons_self k)) (ars_sub h2 fun a ha => hno a (List.mem_cons_of_mem _ ha))
/-- a call whose first argument is the own cell n, which it may change -/
theorem ev_call1 {E : XK} (n : Nat) (h : EA K b t s fun as s1 => ∃ i c rest, as = .o n :: rest ∧ f.args i = .o 0 :: rest ∧ f.cells i = [c] ∧ s1.os[n]? = some c ∧ c ≠ .dead ∧ noO rest = true ∧ f.pre i ∧ (∀ r c', f.post i r [c'] → aft (s1.put n c') Φ r) ∧ ∀ x c', f.xpost i x [c'] → XOK1 K b x (s1.put n c') E) :
    EV K b (tCall (SpB K f) [] E t) s Φ := fun σ H tv tl Hd ps R Q k =>
  h σ H tv tl Hd ps R _ fun vs H1 as s1 Hd1 ps1 h1 R1 a1 => by
    obtain ⟨i, c, rest, rfl, ea, ec, ho, hc, hno, hpre, hf, hx⟩ := h1
    have hno := noO_ok hno
    rw [List.append_nil]
    cases a1 with
    | @cons v _ vs _ h1 h2 =>
    obtain ⟨p, hp, rfl⟩ := h1
    have hcell := R1.cl n c p ho hp
    refine ⟨Hd1, [p], i, R1.e1, List.pairwise_singleton _ _, by rw [ec]; rfl, fun q hq => by rw [List.mem_singleton.mp hq]; exact R1.ex p (List.mem_of_getElem? hp), fun j cc q hj hq => ?_, by rw [ea]; exact .cons ⟨p, rfl, rfl⟩ (ars_sub h2 hno), hpre, fun r os' hr v Hd' H' ⟨e1, e2, e3, e4, e5, e6, e7⟩ hv => ?_, fun x os' hr d Hd' H' ⟨e1, e2, e3, e4, e5, e6, e7⟩ hv => ?_⟩
    · rw [ec] at hj
      cases j with
      | zero =>
        cases hj
        cases hq
        exact hcell
      | succ j => cases hj
    · rw [ec] at e6
      obtain ⟨c', rfl⟩ : ∃ c', os' = [c'] := by
        cases os' with
        | nil => cases e6
        | cons c' l => cases l with
          | nil => exact ⟨c', rfl⟩
          | cons _ _ => cases e6
      have R2 : Rp K b (s1.put n c') σ H' tv tl Hd' ps1 := R1.ext1 ho hp hc e1 e2 (fun a o z h => e3 a o (by simpa using z) h) (fun a z h h' => e4 a (by simpa using z) h h') (e5 p (List.mem_singleton.mpr rfl)) (e7 0 c' p rfl rfl)
      have q := hf r c' hr
      cases r with
      | val x => exact k v H' _ _ Hd' ps1 q R2 hv
      | pv φ m => exact k v H' _ _ Hd' ps1 q R2 hv
      | new xs =>
        obtain ⟨p', rfl, hn, hcd, hc'⟩ := hv
        obtain ⟨R3, a3⟩ := R2.adopt (c := xs) (fun hm => R1.ex p' hm hn) (none_of_same R1.e2 hn) (cr_some hc' hcd) hc'
        exact k _ H' _ _ Hd' _ q R3 a3
    · rw [ec] at e6
      obtain ⟨c', rfl⟩ : ∃ c', os' = [c'] := by
        cases os' with
        | nil => cases e6
        | cons c' l => cases l with
          | nil => exact ⟨c', rfl⟩
          | cons _ _ => cases e6
      have R2 : Rp K b (s1.put n c') σ H' tv tl Hd' ps1 := R1.ext1 ho hp hc e1 e2 (fun a o z h => e3 a o (by simpa using z) h) (fun a z h h' => e4 a (by simpa using z) h h') (e5 p (List.mem_singleton.mpr rfl)) (e7 0 c' p rfl rfl)
      exact hx x c' hr d _ H' _ _ _ _ R2 hv
def flatD : PyData → Bool
  | .none | .bool _ | .int _ | .str _ => true
  | _ => false
theorem dr_flat {Hd Hd' : Hp} {v : V} : ∀ {d : PyData}, flatD d = true → Dr K Hd v d → Dr K Hd' v d
  | .none, _, h => by cases h; exact .non
  | .bool b, _, h => by cases h; exact .bl b
  | .int b, _, h => by cases h; exact .int b
  | .str b, _, h => by cases h; exact .str b
theorem vws_da {b : B} {σ : L2.St} {H Hd : Hp} {tv : List V} {ta : List A} {ps : List Addr} (R : Rp K b s σ H tv ta Hd ps) : ∀ {vs : List V} {as : List A} {xs : List PyData}, Paired (AR K Hd ps) vs as → Paired (Vw s) as xs → DrA K H vs xs
  | _, _, _, .nil, .nil => .nil
  | _, _, _, .cons h1 h2, .cons q1 q2 => .cons (vw_dr R h1 q1) (vws_da R h2 q2)
/-- a call that reads, own lists among what it reads, and answers with a flat thing -/
theorem ev_callS {E : XK} (h : EA K b t s fun as s1 => ∃ i xs, Paired (Vw s1) as xs ∧ f.args i = xs.map A.d ∧ f.cells i = [] ∧ f.pre i ∧ (∀ r os', f.post i r os' → ∃ x, r = .val x ∧ flatD x = true ∧ Φ (.d x) s1) ∧ (∀ x os', f.xpost i x os' → x.fs = none) ∧ XOK K b f i s1 E) : EV K b (tCall (SpB K f) [] E t) s Φ := fun σ H tv tl Hd ps R Q k =>
  h σ H tv tl Hd ps R _ fun vs H1 as s1 Hd1 ps1 h1 R1 a1 => by
    obtain ⟨i, xs, hw, ea, ec, hpre, hf, hn, hx⟩ := h1
    rw [List.append_nil]
    refine ⟨H1, [], i, Same.refl _, .nil, by rw [ec]; rfl, fun p hp => by simp at hp, fun k cc p hk hp => by simp at hp, by rw [ea]; exact ars_of_da (vws_da R1 a1 hw), hpre, fun r os' hr v Hd' H' ⟨e1, e2, e3, e4, _, _, _⟩ hv => ?_, fun x os' hr d Hd' H' ⟨e1, e2, e3, e4, _, _, _⟩ hv => ?_⟩
    · obtain ⟨x, rfl, fx, q⟩ := hf r os' hr
      have s1' : Same H1 H' := fun a o h => e3 a o (by simp) h
      exact k v H' _ s1 Hd1 ps1 q (R1.ext (Same.refl _) (R1.e1.trans s1') s1' fun a _ z => z) (dr_flat fx hv)
    · have s1' : Same H1 H' := fun a o h => e3 a o (by simp) h
      have en := hn x os' hr
      rw [en] at hv
      exact hx x os' hr d _ H' _ _ _ _ (R1.ext (Same.refl _) (R1.e1.trans s1') s1' fun a _ z => z) (by rw [en]; exact hv)
theorem xok_no {f : Spc} {i : f.I} {s1 : S} {E : XK} (h : ∀ x os', ¬ f.xpost i x os' := by intro _ _ h; exact h) : XOK K b f i s1 E := fun x os' q => absurd q (h x os')
/-- a statement that raises -/
theorem go_rz {t : TS} (h : ∀ D σ H tv ta Hd ps, Rp K b s σ H tv ta Hd ps → t D σ H) : GO K b t s N := fun D σ H tv ta Hd ps R _ => h D σ H tv ta Hd ps R
/-- an own list that an expression hands over is from now on data -/
theorem ev_dat (h : EV K b te s fun a s1 => ∃ n xs, a = .o n ∧ s1.os[n]? = some (.lst xs) ∧ Φ (.d (.list xs)) (s1.frz n xs)) : EV K b te s Φ := fun σ H tv tl Hd ps R Q k =>
  h σ H tv tl Hd ps R _ fun v H1 a s1 Hd1 ps1 h1 R1 a1 => by
    obtain ⟨n, xs, rfl, ho, q⟩ := h1
    obtain ⟨Hd', _, R', h'⟩ := R1.frz ho
    exact k v H1 _ _ Hd' ps1 q R' (h' v a1)
/-- truth -/
def Tru (s : S) (a : A) (k : Bool) : Prop := match a with
  | .d (.bool c) => k = c
  | .d .none => k = false
  | .d (.int i) => k = (i != 0)
  | .d (.list ds) => k = !ds.isEmpty
  | .d (.tuple ds) => k = !ds.isEmpty
  | .d (.str t) => t.length ≤ sizeLine ∧ k = ((t.length : Int) != 0)
  | .o n => ∃ ds, s.os[n]? = some (.lst ds) ∧ k = !ds.isEmpty
  | _ => False
theorem tru_of {b : B} {σ : L2.St} {H Hd : Hp} {tv : List V} {ta : List A} {ps : List Addr} (R : Rp K b s σ H tv ta Hd ps) {v : V} {k : Bool} : ∀ {a : A}, AR K Hd ps v a → Tru s a k → TruV K v H k := by
  have nil_iff : ∀ {vs : List V} {ds : List PyData} {H : Hp}, DrA K H vs ds → vs.isEmpty = ds.isEmpty := fun h => by cases h <;> rfl
  intro a h e
  cases a with
  | d x =>
    cases h with
    | non => exact e
    | bl c => exact e
    | int i => exact e
    | str t => exact e
    | lst hv ha => exact .inl ⟨_, .inl (.inl (R.e1 _ _ hv)), by rw [nil_iff ha]; exact e⟩
    | tup hv ha => exact .inr (.inl ⟨_, st_up R.e1 hv, by rw [nil_iff ha]; exact e⟩)
  | o n =>
    obtain ⟨ds, hn, e⟩ := e
    obtain ⟨p, hp, rfl⟩ := h
    obtain ⟨_, vs, hv, ha⟩ := R.cl n _ p hn hp
    exact .inl ⟨vs, .inl (.inl hv), by rw [nil_iff ha]; exact e⟩
  | p φ m => exact e.elim
theorem et_truth {Φ : Bool → S → Prop} (h : EV K b te s fun a s1 => ∃ k, Tru s1 a k ∧ Φ k s1) : ET K b (fun σ H Q => te σ H fun x H' => ∃ k, TruV K x H' k ∧ Q k H') s Φ := fun σ H tv tl Hd ps R Q k =>
  h σ H tv tl Hd ps R _ fun v H1 a s1 Hd1 ps1 h1 R1 a1 => by
    obtain ⟨c, hc, q⟩ := h1
    exact ⟨c, tru_of R1 a1 hc, k c H1 s1 Hd1 ps1 q R1⟩
theorem ev_notT (h : EV K b te s fun a s1 => ∃ k, Tru s1 a k ∧ Φ (.d (.bool (!k))) s1) : EV K b (tNotT K te) s Φ := fun σ H tv tl Hd ps R Q k =>
  h σ H tv tl Hd ps R _ fun v H1 a s1 Hd1 ps1 h1 R1 a1 => by
    obtain ⟨c, hc, q⟩ := h1
    exact ⟨c, tru_of R1 a1 hc, k _ H1 _ s1 Hd1 ps1 q R1 (.bl _)⟩
end
/-! ### operators of any kind of value -/
section
variable {X : L2.Cx}
def rAddS : R2 := fun x y H Q => ∃ i j, x = .str i ∧ y = .str j ∧ i.length + j.length ≤ sizeLine ∧ Q (.str (i ++ j)) H
def rAddA (K : PySem.W.Frag) : R2 := fun x y H Q => (rI0 fun i j => .int (i + j)) x y H Q ∨ (fun x y H Q => rAddS x y H Q ∨ (fun x y H Q => rCat x y H Q ∨ rCatA K x y H Q) x y H Q) x y H Q
theorem op_addA : OpR X (binaryOp .Add) (rAddA X.K) := op_add.or (op_add_str.or (op_cat.or op_catA))
def rMulA : R2 := fun x y H Q => (rI CMulW fun i j => .int (i * j)) x y H Q ∨ (fun x y H Q => rRep x y H Q ∨ (rI CMul fun i j => .int (i * j)) x y H Q) x y H Q
theorem op_mulA : OpR X (binaryOp .Mult) rMulA := op_mulW.or (op_rep.or op_mul)
def rLtA : R2 := fun x y H Q => (rI0 fun i j => .bl (decide (i < j))) x y H Q ∨ (fun x y H Q => ∃ i j, x = .str i ∧ y = .str j ∧ Q (.bl (decide (i.cps.toList < j.cps.toList))) H) x y H Q
def rLeA : R2 := fun x y H Q => (rI0 fun i j => .bl (decide (i ≤ j))) x y H Q ∨ (fun x y H Q => ∃ i j, x = .str i ∧ y = .str j ∧ Q (.bl (!decide (j.cps.toList < i.cps.toList))) H) x y H Q
def rGtA : R2 := fun x y H Q => (rI0 fun i j => .bl (decide (j < i))) x y H Q ∨ (fun x y H Q => ∃ i j, x = .str i ∧ y = .str j ∧ Q (.bl (decide (j.cps.toList < i.cps.toList))) H) x y H Q
def rGeA : R2 := fun x y H Q => (rI0 fun i j => .bl (decide (j ≤ i))) x y H Q ∨ (fun x y H Q => ∃ i j, x = .str i ∧ y = .str j ∧ Q (.bl (!decide (i.cps.toList < j.cps.toList))) H) x y H Q
theorem op_ltA : OpR X (compareOp .Lt) rLtA := op_lt.or op_lt_str
theorem op_leA : OpR X (compareOp .LtE) rLeA := op_le.or op_le_str
theorem op_gtA : OpR X (compareOp .Gt) rGtA := op_gt.or op_gt_str
theorem op_geA : OpR X (compareOp .GtE) rGeA := op_ge.or op_ge_str
def rIsA : R2 := fun x y H Q => (fun x y H Q => y = .non ∧ Q (.bl (decide (x = .non))) H : R2) x y H Q ∨ rIsB x y H Q
def rNotA : R2 := fun x y H Q => (fun x y H Q => y = .non ∧ Q (.bl (!decide (x = .non))) H : R2) x y H Q ∨ rNotB x y H Q
theorem op_isA : OpR X (compareOp .Is) rIsA := op_isN.or op_isBl
theorem op_notA : OpR X (compareOp .IsNot) rNotA := op_notN.or op_notBl
abbrev R3 := V → Option Int → Option Int → Hp → VK → Prop
def rSlAny (K : PySem.W.Frag) : R3 := fun x lo hi H Q => rSlL K x lo hi H Q ∨ (fun x lo hi H Q => rSlS x lo hi H Q ∨ rSlA K x lo hi H Q) x lo hi H Q
theorem sl_any : SlR X (rSlAny X.K) := sl_list.or (sl_str.or sl_tupA)
def iAny (K : PySem.W.Frag) (te : TE) : TI := fun σ H R => iList K te σ H R ∨ (iTup K te σ H R ∨ iStr te σ H R)
theorem pi_any {tg e : Expr} {te : TE} (he : PE X e te) : PI X tg e (iAny X.K te) := ⟨fun pins s σ H R I h => by
  rcases h with h | h | h
  · exact (pi_list he).run pins s σ H R I h
  · exact (pi_tup he).run pins s σ H R I h
  · exact (pi_str he).run pins s σ H R I h⟩
theorem pg_tup2 {K : PySem.W.Frag} (hK : X.K = K) {i j : Nat} {x y : Str} {p1 p2 pos : Pos} {k : Nat} (hc : X.calm = true) (hN : X.N.Nodup) (hi : X.N[i]? = some x) (hj : X.N[j]? = some y) (hx : Loc X.env.scope x) (hy : Loc X.env.scope y)
    (hfx : X.fn x = true ∨ X.env.scope.names.lookup x = some .local) (hfy : X.fn y = true ∨ X.env.scope.names.lookup y = some .local) : PG X (.Tuple [.Name x p1, .Name y p2] k pos) (gTup K 2 (gCons (gName i) (gCons (gName j) gNil))) := by
  subst hK
  exact pg_tup hc (pgs_cons (pg_name hN hi hx hfx) (pgs_cons (pg_name hN hj hy hfy) pgs_nil))
theorem pg_tup3 {K : PySem.W.Frag} (hK : X.K = K) {i j l : Nat} {x y z : Str} {p1 p2 p3 pos : Pos} {k : Nat} (hc : X.calm = true) (hN : X.N.Nodup) (hi : X.N[i]? = some x) (hj : X.N[j]? = some y) (hl : X.N[l]? = some z) (hx : Loc X.env.scope x) (hy : Loc X.env.scope y) (hz : Loc X.env.scope z)
    (hfx : X.fn x = true ∨ X.env.scope.names.lookup x = some .local) (hfy : X.fn y = true ∨ X.env.scope.names.lookup y = some .local) (hfz : X.fn z = true ∨ X.env.scope.names.lookup z = some .local) :
    PG X (.Tuple [.Name x p1, .Name y p2, .Name z p3] k pos) (gTup K 3 (gCons (gName i) (gCons (gName j) (gCons (gName l) gNil)))) := by
  subst hK
  exact pg_tup hc (pgs_cons (pg_name hN hi hx hfx) (pgs_cons (pg_name hN hj hy hfy) (pgs_cons (pg_name hN hl hz hfz) pgs_nil)))
/-! the same, K named (within a comprehension) -/
section
variable {K : PySem.W.Frag} {a b : Expr} {ta tb : TE} {pos : Pos}
theorem op_addAK (hK : X.K = K) : OpR X (binaryOp .Add) (rAddA K) := by subst hK; exact op_addA
theorem op_eqDK (hK : X.K = K) (hu : X.A.units + 64 < cLine) : OpR X (compareOp .Eq) (rEqD K) := by subst hK; exact op_eqD hu
theorem op_neDK (hK : X.K = K) (hu : X.A.units + 64 < cLine) : OpR X (compareOp .NotEq) (rNeD K) := by subst hK; exact op_neD hu
theorem ix_seqK (hK : X.K = K) : IxR X (rIx K) := by subst hK; exact ix_seq
theorem sl_anyK (hK : X.K = K) : SlR X (rSlAny K) := by subst hK; exact sl_any
theorem call_lenK (hK : X.K = K) : CallR X (.builtin "len") (fun xs H Q => ∃ x n, xs = [x] ∧ LenV K x H n ∧ Q (.int n) H) := by subst hK; exact call_len
theorem pt_truthK (hK : X.K = K) (ha : PE X a ta) (he : ∀ whole, isTrue a X.env whole = (do let v ← whole; standAt a.pos; holding [v] (truthy v))) : PT X a (fun σ H Q => ta σ H fun x H' => ∃ k, TruV K x H' k ∧ Q k H') := by subst hK; exact pt_truth ha he
theorem pe_notTK (hK : X.K = K) (ha : PE X a ta) : PE X (.UnaryOp .Not a pos) (tNotT K ta) := by subst hK; exact pe_notT ha
end
theorem Room_units65 {A : Around} {k : Nat} (hr : Room k A) : A.units + 65 < cLine := by have := hr.un; omega
end
theorem L2.Room.units65 {A : Around} {k : Nat} (hr : Room k A) : A.units + 65 < cLine := by have := hr.un; omega
section
variable {K : PySem.W.Frag} {b : B} {s s1 : S} {te ta tb tc : TE} {tt tu : TT} {t : TA} {x y : A} {Φ Ψ : A → S → Prop} {r r' : R2} {tx ty : TS} {N : EE} {g : TG} {Ξ : List PyData → (List C → Prop) → S → Prop}
theorem v2_addI {i j : Int} (q : Φ (.d (.int (i + j))) s) : V2 K b (rAddA K) (.d (.int i)) (.d (.int j)) s Φ := v2_l (v2_ii q)
theorem v2_addT {i j : Str} (hl : i.length + j.length ≤ sizeLine) (q : Φ (.d (.str (i ++ j))) s) : V2 K b (rAddA K) (.d (.str i)) (.d (.str j)) s Φ := v2_r (v2_l (v2_addS hl q))
theorem v2_addL {xs ys : List PyData} (h1 : Vw s x (.list xs)) (h2 : Vw s y (.list ys)) (hl : xs.length + ys.length ≤ sizeLine) (q : Φ (.d (.list (xs ++ ys))) s) : V2 K b (rAddA K) x y s Φ := v2_r (v2_r (v2_l (v2_cat h1 h2 hl q)))
theorem v2_addLO {xs ys : List PyData} (h1 : Vw s x (.list xs)) (h2 : Vw s y (.list ys)) (hl : xs.length + ys.length ≤ sizeLine) (q : Φ (.o s.os.length) (s.add (.lst (xs ++ ys)))) : V2 K b (rAddA K) x y s Φ := v2_r (v2_r (v2_l (v2_catO h1 h2 hl q)))
theorem v2_catT {xs ys : List PyData} (hl : xs.length + ys.length ≤ sizeLine) (q : Φ (.d (.tuple (xs ++ ys))) s) : V2 K b (rCatA K) (.d (.tuple xs)) (.d (.tuple ys)) s Φ := fun σ H tv tl Hd ps v w R a1 a2 Q k => by
  cases id a1 with
  | @tup p vs _ hv ha =>
  cases id a2 with
  | @tup p' ws _ hw hb =>
  have l1 := pair_len (da_paired ha)
  have l2 := pair_len (da_paired hb)
  refine ⟨p, p', vs, ws, rfl, rfl, st_up R.e1 hv, st_up R.e1 hw, by rw [l1, l2]; exact hl, fun e => ?_, fun _ e => ?_, fun _ _ l hn => ?_⟩
  · have e' : xs = [] := List.length_eq_zero_iff.mp (by rw [← l1, e]; rfl)
    subst e'
    exact k _ H _ s Hd ps q R a2
  · have e' : ys = [] := List.length_eq_zero_iff.mp (by rw [← l2, e]; rfl)
    subst e'
    rw [List.append_nil] at q
    exact k _ H _ s Hd ps q R a1
  · obtain ⟨R2, h2⟩ := R.newTup hn (vs := vs ++ ws) (xs := xs ++ ys) (by rw [List.map_append]; exact pair_app (ars_of_da ha) (ars_of_da hb))
    exact k _ _ _ _ _ _ q R2 h2
theorem v2_addU {xs ys : List PyData} (hl : xs.length + ys.length ≤ sizeLine) (q : Φ (.d (.tuple (xs ++ ys))) s) : V2 K b (rAddA K) (.d (.tuple xs)) (.d (.tuple ys)) s Φ := v2_r (v2_r (v2_r (v2_catT hl q)))
theorem v2_mulI {i j : Int} (c : CMulW i j) (q : Φ (.d (.int (i * j))) s) : V2 K b rMulA (.d (.int i)) (.d (.int j)) s Φ := v2_l (v2_ic c q)
theorem v2_mulL {xs : List PyData} {n : Int} (h1 : Vw s x (.list xs)) (h0 : -(2 ^ 63) ≤ n) (h2 : n < 2 ^ 63) (hl : xs.length * n.toNat ≤ sizeLine) (q : Φ (.o s.os.length) (s.add (.lst (List.replicate n.toNat xs).flatten))) : V2 K b rMulA x (.d (.int n)) s Φ := v2_r (v2_l (v2_rep h1 h0 h2 hl q))
theorem v2_mulJ {i j : Int} (c : CMul i j) (q : Φ (.d (.int (i * j))) s) : V2 K b rMulA (.d (.int i)) (.d (.int j)) s Φ := v2_r (v2_r (v2_ic c q))
theorem v2_ltI {i j : Int} (q : Φ (.d (.bool (decide (i < j)))) s) : V2 K b rLtA (.d (.int i)) (.d (.int j)) s Φ := v2_l (v2_ib (f := fun i j => decide (i < j)) q)
theorem v2_leI {i j : Int} (q : Φ (.d (.bool (decide (i ≤ j)))) s) : V2 K b rLeA (.d (.int i)) (.d (.int j)) s Φ := v2_l (v2_ib (f := fun i j => decide (i ≤ j)) q)
theorem v2_gtI {i j : Int} (q : Φ (.d (.bool (decide (j < i)))) s) : V2 K b rGtA (.d (.int i)) (.d (.int j)) s Φ := v2_l (v2_ib (f := fun i j => decide (j < i)) q)
theorem v2_geI {i j : Int} (q : Φ (.d (.bool (decide (j ≤ i)))) s) : V2 K b rGeA (.d (.int i)) (.d (.int j)) s Φ := v2_l (v2_ib (f := fun i j => decide (j ≤ i)) q)
theorem v2_isNA (n : ∀ φ m, x ≠ .p φ m) (q : Φ (.d (.bool (isNo x))) s) : V2 K b rIsA x (.d .none) s Φ := v2_l (v2_isN n q)
theorem v2_notNA (n : ∀ φ m, x ≠ .p φ m) (q : Φ (.d (.bool (!isNo x))) s) : V2 K b rNotA x (.d .none) s Φ := v2_l (v2_notN n q)
/-! slices of any kind -/
def VS (K : PySem.W.Frag) (b : B) (r : R3) (x : A) (lo hi : Option Int) (s : S) (Φ : A → S → Prop) : Prop := ∀ σ H tv ta Hd ps v, Rp K b s σ H tv ta Hd ps → AR K Hd ps v x → ∀ Q : VK,
  (∀ u H' a s' Hd' ps', Φ a s' → Rp K b s' σ H' tv ta Hd' ps' → AR K Hd' ps' u a → Q u H') → r v lo hi H Q
theorem ev_sl {r : R3} {tlo thi : TO} (h : EV K b te s fun x s1 => EO K b tlo s1 fun lo s2 => EO K b thi s2 fun hi s3 => VS K b r x lo hi s3 Φ) : EV K b (tSl r te tlo thi) s Φ := fun σ H tv tl Hd ps R Q k =>
  h σ H tv tl Hd ps R _ fun v H1 x s1 Hd1 ps1 h1 R1 a1 => h1 σ H1 (v :: tv) (x :: tl) Hd1 ps1 (R1.push a1) _ fun lo H2 s2 Hd2 ps2 h2 R2 => h2 σ H2 (v :: tv) (x :: tl) Hd2 ps2 R2 _ fun hi H3 s3 Hd3 ps3 h3 R3 =>
    h3 σ H3 tv tl Hd3 ps3 v R3.pop.1 R3.pop.2 Q k
theorem vs_list {lo hi : Option Int} {ds : List PyData} (e : Vw s x (.list ds)) (q : Φ (.d (.list (cutD ds lo hi))) s) : VS K b (rSlAny K) x lo hi s Φ := fun σ H tv tl Hd ps v R a Q k => by
  obtain ⟨p, vs, rfl, hv, ha⟩ := vw_lst R a e
  refine .inl ⟨p, vs, rfl, .inl (.inl hv), fun l hn => ?_⟩
  obtain ⟨R5, a5⟩ := R.newLst hn (ars_of_da (da_cut ha lo hi))
  exact k _ _ _ _ _ _ q R5 a5
theorem vs_listO {lo hi : Option Int} {ds : List PyData} (e : Vw s x (.list ds)) (q : Φ (.o s.os.length) (s.add (.lst (cutD ds lo hi)))) : VS K b (rSlAny K) x lo hi s Φ := fun σ H tv tl Hd ps v R a Q k => by
  obtain ⟨p, vs, rfl, hv, ha⟩ := vw_lst R a e
  refine .inl ⟨p, vs, rfl, .inl (.inl hv), fun l hn => ?_⟩
  obtain ⟨R5, a5⟩ := R.new (c := .lst (cutD ds lo hi)) (o := .lst (cutV vs lo hi)) hn ⟨none_of_same R.e1 hn, _, upd_same, da_cut ha lo hi⟩
  exact k _ _ _ _ _ _ q R5 a5
theorem vs_str {lo hi : Option Int} {t : Str} (hl : t.length ≤ sizeLine) (q : Φ (.d (.str (cutS t lo hi))) s) : VS K b (rSlAny K) (.d (.str t)) lo hi s Φ := fun σ H tv tl Hd ps v R a Q k => by
  cases a
  exact .inr (.inl ⟨t, rfl, hl, k _ H _ s Hd ps q R (.str _)⟩)
theorem cutD_all {ds : List PyData} {lo hi : Option Int} (h : HT.sIx ds.length 0 lo = 0 ∧ HT.sIx ds.length ds.length hi = ds.length) : cutD ds lo hi = ds := by
  unfold cutD
  rw [h.1, h.2]
  simp
theorem vs_tup {lo hi : Option Int} {ds : List PyData} (q : Φ (.d (.tuple (cutD ds lo hi))) s) : VS K b (rSlAny K) (.d (.tuple ds)) lo hi s Φ := fun σ H tv tl Hd ps v R a Q k => by
  cases id a with
  | @tup p vs _ hv ha =>
  have hl := pair_len (da_paired ha)
  refine .inr (.inr ⟨p, vs, rfl, st_up R.e1 hv, fun e => ?_, fun _ l hn => ?_⟩)
  · rw [hl] at e
    rw [cutD_all e] at q
    exact k _ H _ s Hd ps q R a
  · obtain ⟨R5, a5⟩ := R.newTup hn (ars_of_da (da_cut ha lo hi))
    exact k _ _ _ _ _ _ q R5 a5
/-- the script -/
def scrP (K : PySem.W.Frag) (ns : List Int) : A := .p (fun H v => ∃ a, v = .ref a ∧ SqL K H a (ns.map V.int)) fun _ _ _ e ⟨a, h1, h2⟩ => ⟨a, h1, sl_up e h2⟩
theorem da_ints {H : Hp} : ∀ ns : List Int, DrA K H (ns.map V.int) (ns.map PyData.int)
  | [] => .nil
  | n :: ns => .cons (.int n) (da_ints ns)
theorem vs_scr {lo hi : Option Int} {ns : List Int} (q : Φ (.d (.list (cutD (ns.map .int) lo hi))) s) : VS K b (rSlAny K) (scrP K ns) lo hi s Φ := fun σ H tv tl Hd ps v R a Q k => by
  obtain ⟨p, rfl, hs⟩ := a
  refine .inl ⟨p, _, rfl, sl_up R.e1 hs, fun l hn => ?_⟩
  obtain ⟨R5, a5⟩ := R.newLst hn (ars_of_da (da_cut (da_ints ns) lo hi))
  exact k _ _ _ _ _ _ q R5 a5
/-! walks of any kind -/
theorem ei_anyL (h : EI K b (iList K te) s Ξ) : EI K b (iAny K te) s Ξ := fun σ H tv tl Hd ps R Q k => .inl (h σ H tv tl Hd ps R Q k)
theorem ei_anyT (h : EI K b (iTup K te) s Ξ) : EI K b (iAny K te) s Ξ := fun σ H tv tl Hd ps R Q k => .inr (.inl (h σ H tv tl Hd ps R Q k))
theorem ei_anyS (h : EI K b (iStr te) s Ξ) : EI K b (iAny K te) s Ξ := fun σ H tv tl Hd ps R Q k => .inr (.inr (h σ H tv tl Hd ps R Q k))
theorem vm_insert {n : Nat} {ds : List PyData} {z : PyData} {i : Int} (h : s.os[n]? = some (.lst ds)) (hl : ds.length < sizeLine) (i0 : 0 ≤ i) (i1 : i < 2 ^ 63) (q : Φ (.d .none) (s.put n (.lst (ds.take i.toNat ++ [z] ++ ds.drop i.toNat)))) :
    VM K b (fun x vs H Q => ∃ (l : Addr) (xs : List V) (i : Int) (y : V), x = .ref l ∧ vs = [.int i, y] ∧ H l = some (.lst xs) ∧ xs.length < sizeLine ∧ 0 ≤ i ∧ i < 2 ^ 63 ∧ Q .non (upd H l (.lst (xs.take i.toNat ++ [y] ++ xs.drop i.toNat)))) (.o n) [.d (.int i), .d z] s Φ := fun σ H tv tl Hd ps v vs R a1 a2 Q k => by
  cases a2 with
  | @cons w _ _ _ c1 c2 =>
  cases c2 with
  | @cons w2 _ _ _ c2 c3 =>
  cases c3
  cases c1
  obtain ⟨p, hp, rfl⟩ := a1
  obtain ⟨hn, ws, hw, ha⟩ := R.cl n _ p h hp
  refine ⟨p, ws, i, w2, rfl, rfl, hw, by rw [pair_len (da_paired ha)]; exact hl, i0, i1, ?_⟩
  exact k _ _ _ _ _ _ q (R.put h hp (fun z => nomatch z) ⟨hn, _, upd_same, paired_da (pair_app (pair_app (pair_take _ (da_paired ha)) (.cons c2 .nil)) (pair_drop _ (da_paired ha)))⟩) .non
theorem vc_gcd {i j : Int} (q : Φ (.d (.int ((Nat.gcd i.natAbs j.natAbs : Nat) : Int))) s) : VC K b rGcd [.d (.int i), .d (.int j)] s Φ := fun σ H tv tl Hd ps vs R a Q k => by
  cases a with
  | @cons v _ _ _ a1 t =>
    cases t with
    | @cons v _ _ _ a2 t =>
      cases t
      cases a1; cases a2
      exact ⟨i, j, rfl, k _ H _ s Hd ps q R (.int _)⟩
/-! ### dicts of one's own -/
def keyD : Key → PyData
  | .inl i => .int i
  | .inr x => .str x
def lkD (kvs : List (Key × PyData)) (k : Key) : Option PyData := (kvs.find? fun kv => decide (kv.1 = k)).map (·.2)
def putD (kvs : List (Key × PyData)) (k : Key) (v : PyData) : List (Key × PyData) := if (kvs.any fun kv => decide (kv.1 = k)) = true then kvs.map (fun kv => if kv.1 = k then (kv.1, v) else kv) else kvs ++ [(k, v)]
abbrev KVR (K : PySem.W.Frag) (Hd : Hp) : List (Key × V) → List (Key × PyData) → Prop := Paired fun a b => a.1 = b.1 ∧ Dr K Hd a.2 b.2
theorem kv_look {Hd : Hp} {k : Key} : ∀ {ws : List (Key × V)} {kvs : List (Key × PyData)}, KVR K Hd ws kvs → (lkD kvs k = none → valV ws k = none) ∧ ∀ z, lkD kvs k = some z → ∃ v, valV ws k = some v ∧ Dr K Hd v z
  | _, _, .nil => ⟨fun _ => rfl, fun z h => by cases h⟩
  | w :: ws, kv :: kvs, .cons h t => by
    obtain ⟨i1, i2⟩ := kv_look (k := k) t
    by_cases e : kv.1 = k
    · have e' : w.1 = k := h.1.trans e
      have l1 : lkD (kv :: kvs) k = some kv.2 := by simp [lkD, List.find?_cons, e]
      rw [l1, valV_pos e']
      refine ⟨fun q => (nomatch q), fun z hz => ?_⟩
      cases hz
      exact ⟨w.2, rfl, h.2⟩
    · have e' : ¬ w.1 = k := fun q => e (h.1.symm.trans q)
      have l1 : lkD (kv :: kvs) k = lkD kvs k := by simp [lkD, List.find?_cons, e]
      rw [l1, valV_neg e']
      exact ⟨i1, i2⟩
theorem kv_isSome {Hd : Hp} {k : Key} {ws : List (Key × V)} {kvs : List (Key × PyData)} (ha : KVR K Hd ws kvs) : (valV ws k).isSome = (lkD kvs k).isSome := by
  obtain ⟨h1, h2⟩ := kv_look (k := k) ha
  cases q : lkD kvs k with
  | none => rw [h1 q]; rfl
  | some z =>
    obtain ⟨u, hu, _⟩ := h2 z q
    rw [hu]
    rfl
theorem kv_any {Hd : Hp} {k : Key} : ∀ {ws : List (Key × V)} {kvs : List (Key × PyData)}, KVR K Hd ws kvs → (ws.any fun kv => decide (kv.1 = k)) = kvs.any fun kv => decide (kv.1 = k)
  | _, _, .nil => rfl
  | w :: ws, kv :: kvs, .cons h t => by rw [List.any_cons, List.any_cons, h.1, kv_any t]
theorem kv_map {Hd : Hp} {k : Key} {v : V} {z : PyData} (hv : Dr K Hd v z) : ∀ {ws : List (Key × V)} {kvs : List (Key × PyData)}, KVR K Hd ws kvs → KVR K Hd (ws.map fun kv => if kv.1 = k then (kv.1, v) else kv) (kvs.map fun kv => if kv.1 = k then (kv.1, z) else kv)
  | _, _, .nil => .nil
  | w :: ws, kv :: kvs, .cons h t => by
    refine .cons ?_ (kv_map hv t)
    dsimp only
    by_cases e : kv.1 = k
    · rw [if_pos e, if_pos (h.1.trans e)]
      exact ⟨h.1, hv⟩
    · rw [if_neg e, if_neg (fun q => e (h.1.symm.trans q))]
      exact h
theorem kv_put {Hd : Hp} {k : Key} {v : V} {z : PyData} (hv : Dr K Hd v z) {ws : List (Key × V)} {kvs : List (Key × PyData)} (h : KVR K Hd ws kvs) : KVR K Hd (putK ws k v) (putD kvs k z) := by
  unfold putK putD
  rw [kv_any h]
  split
  · exact kv_map hv h
  · exact pair_app h (.cons ⟨rfl, hv⟩ .nil)
theorem keyD_V {Hd : Hp} {v : V} {key : Key} (h : Dr K Hd v (keyD key)) : v = kV key := by
  cases key with
  | inl i => cases h; rfl
  | inr x => cases h; rfl
theorem ev_dget {td ty : TE} (h : EV K b td s fun x s1 => EV K b ty s1 fun y s2 => ∃ n kvs key z, x = .o n ∧ s2.os[n]? = some (.dK kvs) ∧ y = .d (keyD key) ∧ lkD kvs key = some z ∧ Φ (.d z) s2) : EV K b (tDGet td ty) s Φ := fun σ H tv tl Hd ps R Q k =>
  h σ H tv tl Hd ps R _ fun v H1 x s1 Hd1 ps1 h1 R1 a1 => h1 σ H1 (v :: tv) (x :: tl) Hd1 ps1 (R1.push a1) _ fun w H2 y s2 Hd2 ps2 h2 R2 a2 => by
    obtain ⟨n, kvs, key, z, rfl, hn, rfl, hl, q⟩ := h2
    obtain ⟨R3, p, hp, rfl⟩ := R2.pop
    obtain ⟨_, ws, hw, ha⟩ := R3.cl n _ p hn hp
    obtain ⟨u, hu, hz⟩ := (kv_look ha).2 z hl
    rw [keyD_V a2]
    exact ⟨p, u, rfl, by rw [← hu]; exact DGet.k hw, k _ H2 _ s2 Hd2 ps2 q R3 hz⟩
theorem ev_din {td ty : TE} (h : EV K b ty s fun y s1 => EV K b td s1 fun x s2 => ∃ n kvs key, x = .o n ∧ s2.os[n]? = some (.dK kvs) ∧ y = .d (keyD key) ∧ Φ (.d (.bool (lkD kvs key).isSome)) s2) : EV K b (tDIn ty td) s Φ := fun σ H tv tl Hd ps R Q k =>
  h σ H tv tl Hd ps R _ fun v H1 y s1 Hd1 ps1 h1 R1 a1 => h1 σ H1 (v :: tv) (y :: tl) Hd1 ps1 (R1.push a1) _ fun w H2 x s2 Hd2 ps2 h2 R2 a2 => by
    obtain ⟨n, kvs, key, rfl, hn, rfl, q⟩ := h2
    obtain ⟨R3, a3⟩ := R2.pop
    obtain ⟨p, hp, rfl⟩ := a2
    obtain ⟨_, ws, hw, ha⟩ := R3.cl n _ p hn hp
    rw [keyD_V a3]
    refine ⟨p, _, rfl, DGet.k hw, ?_⟩
    rw [kv_isSome ha]
    exact k _ H2 _ s2 Hd2 ps2 q R3 (.bl _)
theorem ev_dnin {td ty : TE} (h : EV K b ty s fun y s1 => EV K b td s1 fun x s2 => ∃ n kvs key, x = .o n ∧ s2.os[n]? = some (.dK kvs) ∧ y = .d (keyD key) ∧ Φ (.d (.bool (!(lkD kvs key).isSome))) s2) : EV K b (tDNotIn ty td) s Φ := fun σ H tv tl Hd ps R Q k =>
  h σ H tv tl Hd ps R _ fun v H1 y s1 Hd1 ps1 h1 R1 a1 => h1 σ H1 (v :: tv) (y :: tl) Hd1 ps1 (R1.push a1) _ fun w H2 x s2 Hd2 ps2 h2 R2 a2 => by
    obtain ⟨n, kvs, key, rfl, hn, rfl, q⟩ := h2
    obtain ⟨R3, a3⟩ := R2.pop
    obtain ⟨p, hp, rfl⟩ := a2
    obtain ⟨_, ws, hw, ha⟩ := R3.cl n _ p hn hp
    rw [keyD_V a3]
    refine ⟨p, _, rfl, DGet.k hw, ?_⟩
    rw [kv_isSome ha]
    exact k _ H2 _ s2 Hd2 ps2 q R3 (.bl _)
theorem go_dput {td ty tv' : TE} (h : EV K b tv' s fun z s1 => EV K b td s1 fun x s2 => EV K b ty s2 fun y s3 => ∃ n kvs key d, z = .d d ∧ x = .o n ∧ s3.os[n]? = some (.dK kvs) ∧ y = .d (keyD key) ∧ kvs.length < sizeLine ∧ N.nx (s3.put n (.dK (putD kvs key d)))) : GO K b (sDPut td ty tv') s N := fun D σ H tv tl Hd ps R k =>
  h σ H tv tl Hd ps R _ fun u H1 z s1 Hd1 ps1 h1 R1 a1 => h1 σ H1 (u :: tv) (z :: tl) Hd1 ps1 (R1.push a1) _ fun v H2 x s2 Hd2 ps2 h2 R2 a2 => h2 σ H2 (v :: u :: tv) (x :: z :: tl) Hd2 ps2 (R2.push a2) _ fun w H3 y s3 Hd3 ps3 h3 R3 a3 => by
    obtain ⟨n, kvs, key, d, rfl, rfl, hn, rfl, hl, q⟩ := h3
    obtain ⟨R4, p, hp, rfl⟩ := R3.pop
    obtain ⟨R5, a5⟩ := R4.pop
    obtain ⟨h0, ws, hw, ha⟩ := R5.cl n _ p hn hp
    rw [keyD_V a3]
    refine ⟨p, _, rfl, DPut.k hw (by rw [pair_len ha]; exact hl), ?_⟩
    exact k.nx _ _ _ _ _ q (R5.put hn hp (fun z => nomatch z) ⟨h0, _, upd_same, kv_put a5 ha⟩)
theorem ev_dnew (q : Φ (.o s.os.length) (s.add (.dK []))) : EV K b tDNewK s Φ := fun σ H tv tl Hd ps R Q k p hn => by
  obtain ⟨R2, a2⟩ := R.new (c := .dK []) (o := .dK []) hn ⟨none_of_same R.e1 hn, [], upd_same, .nil⟩
  exact k _ _ _ _ _ _ q R2 a2
/-- a written dict -/
def EPs (K : PySem.W.Frag) (b : B) : List (TE × TE) → S → (List (Key × PyData) → S → Prop) → Prop
  | [], s, Φ => Φ [] s
  | (tk, tv) :: r, s, Φ => EV K b tk s fun x s1 => EV K b tv s1 fun y s2 => ∃ key z, x = .d (keyD key) ∧ y = .d z ∧ EPs K b r s2 fun l s3 => Φ ((key, z) :: l) s3
theorem eps_ok {b : B} : ∀ {trs : List (TE × TE)} {s : S} {Φ : List (Key × PyData) → S → Prop} {σ : L2.St} {H Hd : Hp} {tv : List V} {tl : List A} {ps : List Addr}, EPs K b trs s Φ → Rp K b s σ H tv tl Hd ps → ∀ Q : List (V × V) → Hp → Prop,
    (∀ l H' s' Hd' ps' ws, Φ l s' → Rp K b s' σ H' tv tl Hd' ps' → KVR K Hd' ws l → Q (ws.map fun w => (kV w.1, w.2)) H') → tPairs trs σ H Q
  | [], s, Φ, σ, H, Hd, tv, tl, ps, h, R, Q, k => k [] H s Hd ps [] h R .nil
  | (tk, tv') :: r, s, Φ, σ, H, Hd, tv, tl, ps, h, R, Q, k =>
    h σ H tv tl Hd ps R _ fun u H1 x s1 Hd1 ps1 h1 R1 a1 => h1 σ H1 (u :: tv) (x :: tl) Hd1 ps1 (R1.push a1) _ fun v H2 y s2 Hd2 ps2 h2 R2 a2 => by
      obtain ⟨key, z, rfl, rfl, h3⟩ := h2
      refine eps_ok h3 (R2.push a2) _ fun l H3 s3 Hd3 ps3 ws h4 R3 a3 => ?_
      obtain ⟨R4, a4⟩ := R3.pop
      obtain ⟨R5, a5⟩ := R4.pop
      have := k ((key, z) :: l) H3 s3 Hd3 ps3 ((key, v) :: ws) h4 R5 (.cons ⟨rfl, a4⟩ a3)
      rw [keyD_V a5]
      exact this
def mergeD (kvs more : List (Key × PyData)) : List (Key × PyData) := more.foldl (fun acc kv => putD acc kv.1 kv.2) kvs
theorem kv_merge {Hd : Hp} : ∀ {more : List (Key × V)} {mores : List (Key × PyData)} {ws : List (Key × V)} {kvs : List (Key × PyData)}, KVR K Hd more mores → KVR K Hd ws kvs → KVR K Hd (mergeK ws more) (mergeD kvs mores)
  | _, _, _, _, .nil, h => h
  | w :: more, kv :: mores, ws, kvs, .cons h t, q => by
    have e : w.1 = kv.1 := h.1
    show KVR K Hd (mergeK (putK ws w.1 w.2) more) (mergeD (putD kvs kv.1 kv.2) mores)
    rw [e]
    exact kv_merge t (kv_put h.2 q)
theorem ev_disp {trs : List (TE × TE)} (h : EPs K b trs (s.add (.dK [])) fun l s1 => s1.os[s.os.length]? = some (.dK []) ∧ l.length ≤ 15 ∧ Φ (.o s.os.length) (s1.put s.os.length (.dK (mergeD [] l)))) : EV K b (tDisp trs) s Φ := fun σ H tv tl Hd ps R Q k p hn => by
  obtain ⟨R2, a2⟩ := R.new (c := .dK []) (o := .dK []) hn ⟨none_of_same R.e1 hn, [], upd_same, .nil⟩
  refine eps_ok h (R2.push a2) _ fun l H3 s3 Hd3 ps3 ws h4 R3 a3 => ?_
  obtain ⟨ho, hl, q⟩ := h4
  obtain ⟨R4, p', hp, e⟩ := R3.pop
  cases e
  obtain ⟨h0, ws0, hw, ha⟩ := R4.cl _ _ p ho hp
  cases ha
  refine ⟨hw, ws, rfl, by rw [pair_len a3]; exact hl, ?_⟩
  exact k _ _ _ _ _ _ q (R4.put (c := .dK (mergeD [] l)) ho hp (fun z => nomatch z) ⟨h0, _, upd_same, kv_merge a3 .nil⟩) ⟨p, hp, rfl⟩
/-! ### isinstance of data -/
def tyN : PyData → String
  | .none => "NoneType"
  | .bool _ => "bool"
  | .int _ => "int"
  | .str _ => "str"
  | .list _ => "list"
  | .tuple _ => "tuple"
  | .dict _ => "dict"
def isTy (n : String) (d : PyData) : Bool := tyN d == n || (tyN d == "bool" && n == "int")
theorem tyx_of {H : Hp} {v : V} : ∀ {d : PyData}, Dr K H v d → TyX K H v (.type (tyN d))
  | .none, h => by cases h; exact .base .non
  | .bool b, h => by cases h; exact .base (.bl b)
  | .int b, h => by cases h; exact .base (.int b)
  | .str b, h => by cases h; exact .base (.str b)
  | .list ds, h => by
    cases h with
    | lst hv ha => exact .base (.lst hv)
  | .tuple ds, h => by
    cases h with
    | tup hv ha =>
      rcases hv with (hv | ⟨o, hv⟩) | ⟨o, its, n, hk, hc, _⟩
      · exact .base (.tup hv)
      · exact .fTuple hv
      · exact .kTuple hk hc
  | .dict _, h => by cases h
theorem kit_isTy {n : String} (hn : n = "int" ∨ n = "bool" ∨ n = "str" ∨ n = "list" ∨ n = "tuple") (d : PyData) (hd : ∀ kvs, d ≠ .dict kvs) : PySem.W.kitOne K (.type (tyN d)) (.type n) = some (isTy n d) := by
  have ht : tyN d = "NoneType" ∨ tyN d = "bool" ∨ tyN d = "int" ∨ tyN d = "str" ∨ tyN d = "list" ∨ tyN d = "tuple" := by
    cases d with
    | none => exact .inl rfl
    | bool b => exact .inr (.inl rfl)
    | int b => exact .inr (.inr (.inl rfl))
    | str b => exact .inr (.inr (.inr (.inl rfl)))
    | list b => exact .inr (.inr (.inr (.inr (.inl rfl))))
    | tuple b => exact .inr (.inr (.inr (.inr (.inr rfl))))
    | dict b => exact absurd rfl (hd b)
  unfold isTy
  generalize tyN d = m at ht
  rcases hn with rfl | rfl | rfl | rfl | rfl <;> rcases ht with rfl | rfl | rfl | rfl | rfl | rfl <;> exact kit_ty (by decide +kernel)
theorem ev_isi {n : String} (hn : n = "int" ∨ n = "bool" ∨ n = "str" ∨ n = "list" ∨ n = "tuple") (h : EV K b te s fun a s1 => ∃ d, Vw s1 a d ∧ Φ (.d (.bool (isTy n d))) s1) : EV K b (tCB (rIsi K) (tCons te (tCons (tC (.ty n)) tNil))) s Φ := fun σ H tv tl Hd ps R Q k =>
  h σ H tv tl Hd ps R _ fun v H1 a s1 Hd1 ps1 h1 R1 a1 => by
    obtain ⟨d, hv, q⟩ := h1
    have hd := vw_dr R1 a1 hv
    exact ⟨v, .ty n, _, _, isTy n d, rfl, .ty n, tyx_of hd, kit_isTy hn d (fun kvs e => by subst e; cases hd), k _ H1 _ s1 Hd1 ps1 q R1 (.bl _)⟩
end
section
variable {K : PySem.W.Frag} {b : B} {s s1 : S} {te ta tb tc : TE} {tt tu : TT} {t : TA} {x y : A} {Φ Ψ : A → S → Prop} {r r' : R2} {tx ty : TS} {N : EE} {g : TG} {f : Spc}
/-- some own cells have changed, the heap has grown -/
theorem Rp.extN {b : B} {σ : L2.St} {H H' Hd Hd' : Hp} {tv : List V} {ta : List A} {ps : List Addr} (R : Rp K b s σ H tv ta Hd ps) (P : Addr → Prop) (hP : ∀ p, P p → p ∈ ps) {os2 : List C} (hl : os2.length = s.os.length)
    (hc : ∀ (k : Nat) c p, os2[k]? = some c → ps[k]? = some p → (¬ P p ∧ s.os[k]? = some c) ∨ (P p ∧ CRp K Hd' H' p c))
    (e1 : Same Hd Hd') (e2 : Same Hd' H') (e3 : ∀ a o, ¬ P a → H a = some o → H' a = some o) (e4 : ∀ a, ¬ P a → H a ≠ none → Hd a = none → Hd' a = none) (e5 : ∀ p, P p → H' p ≠ none) : Rp K b ⟨s.ss, os2⟩ σ H' tv ta Hd' ps where
  e0 := R.e0.trans e1
  e1 := e2
  e2 := fun a o h => e3 a o (fun hp => by rw [R.fr a (hP a hp)] at h; cases h) (R.e2 a o h)
  nw := fun a ha hd => by
    refine e4 a (fun hp => ha (R.fr a (hP a hp))) (fun q => ha ?_) (R.nw a ha hd)
    exact none_of_same R.e2 q
  pl := by rw [R.pl]; exact hl.symm
  nd := R.nd
  p0 := R.p0
  fr := R.fr
  ex := fun q hq z => by
    by_cases e : P q
    · exact e5 q e z
    · cases h : H q with
      | none => exact R.ex q hq h
      | some o => rw [e3 q o e h] at z; cases z
  cl := fun j cj q hj hq => by
    rcases hc j cj q hj hq with ⟨n, h⟩ | ⟨_, h⟩
    · exact cr_up e1 (R.cl j cj q h hq) (fun x => e4 q n (R.ex q (List.mem_of_getElem? hq)) x) fun _ o' ho => e3 q o' n ho
    · exact h
  sl := fun i a hi => by
    obtain ⟨v, hv, ha⟩ := R.sl i a hi
    exact ⟨v, hv, ar_up e1 ha⟩
  ln := R.ln
  tm := pair_mono (fun _ _ q => ar_up e1 q) R.tm
/-- a call whose first two arguments are the own cells n and m -/
theorem ev_call2 {E : XK} (n m : Nat) (hnm : n ≠ m) (h : EA K b t s fun as s1 => ∃ i c c2 rest, as = .o n :: .o m :: rest ∧ f.args i = .o 0 :: .o 1 :: rest ∧ f.cells i = [c, c2] ∧ s1.os[n]? = some c ∧ s1.os[m]? = some c2 ∧ c ≠ .dead ∧ c2 ≠ .dead ∧ noO rest = true ∧ f.pre i ∧
      (∀ r c' c2', f.post i r [c', c2'] → aft ((s1.put n c').put m c2') Φ r) ∧ ∀ x os', ¬ f.xpost i x os') :
    EV K b (tCall (SpB K f) [] E t) s Φ := fun σ H tv tl Hd ps R Q k =>
  h σ H tv tl Hd ps R _ fun vs H1 as s1 Hd1 ps1 h1 R1 a1 => by
    obtain ⟨i, c, c2, rest, rfl, ea, ec, ho, ho2, hc, hc2, hno, hpre, hf, hx⟩ := h1
    have hno := noO_ok hno
    rw [List.append_nil]
    cases a1 with
    | @cons v _ vs _ h1 h2 =>
    cases h2 with
    | @cons v2 _ vs _ h2 h3 =>
    obtain ⟨p, hp, rfl⟩ := h1
    obtain ⟨p2, hp2, rfl⟩ := h2
    have hne : p ≠ p2 := nd_ne R1.nd hp hp2 hnm
    have hcell := R1.cl n c p ho hp
    have hcell2 := R1.cl m c2 p2 ho2 hp2
    refine ⟨Hd1, [p, p2], i, R1.e1, ?_, by rw [ec]; rfl, fun q hq => ?_, fun j cc q hj hq => ?_, by rw [ea]; exact .cons ⟨p, rfl, rfl⟩ (.cons ⟨p2, rfl, rfl⟩ (ars_sub h3 hno)), hpre, fun r os' hr v Hd' H' ⟨e1, e2, e3, e4, e5, e6, e7⟩ hv => ?_, fun x os' hr => absurd hr (hx x os')⟩
    · exact List.nodup_cons.mpr ⟨by simpa using hne, List.pairwise_singleton _ _⟩
    · rcases List.mem_cons.mp hq with e | hq
      · rw [e]; exact R1.ex p (List.mem_of_getElem? hp)
      · rw [List.mem_singleton.mp hq]; exact R1.ex p2 (List.mem_of_getElem? hp2)
    · rw [ec] at hj
      match j, hj, hq with
      | 0, hj, hq => cases hj; cases hq; exact hcell
      | 1, hj, hq => cases hj; cases hq; exact hcell2
    · rw [ec] at e6
      obtain ⟨c', c2', rfl⟩ : ∃ c' c2', os' = [c', c2'] := by
        match os', e6 with
        | [c', c2'], _ => exact ⟨c', c2', rfl⟩
      have R2 : Rp K b ((s1.put n c').put m c2') σ H' tv tl Hd' ps1 := by
        refine R1.extN (fun a => a = p ∨ a = p2) (fun q hq => ?_) (os2 := (s1.os.set n c').set m c2') (by rw [List.length_set, List.length_set]) (fun k cc q hk hq => ?_) e1 e2 (fun a o z h => e3 a o (by simpa using z) h) (fun a z h h' => e4 a (by simpa using z) h h') (fun q hq => e5 q (by simpa using hq))
        · rcases hq with rfl | rfl
          · exact List.mem_of_getElem? hp
          · exact List.mem_of_getElem? hp2
        · by_cases e : k = m
          · subst e
            rw [hp2] at hq
            cases hq
            rw [List.getElem?_set_self (by rw [List.length_set]; exact (List.getElem?_eq_some_iff.mp ho2).1)] at hk
            cases hk
            exact .inr ⟨.inr rfl, e7 1 _ _ rfl rfl⟩
          · rw [List.getElem?_set_ne (Ne.symm e)] at hk
            by_cases e2 : k = n
            · subst e2
              rw [hp] at hq
              cases hq
              rw [List.getElem?_set_self (List.getElem?_eq_some_iff.mp ho).1] at hk
              cases hk
              exact .inr ⟨.inl rfl, e7 0 _ _ rfl rfl⟩
            · rw [List.getElem?_set_ne (Ne.symm e2)] at hk
              refine .inl ⟨fun z => ?_, hk⟩
              rcases z with z | z
              · exact nd_ne R1.nd hq hp e2 z
              · exact nd_ne R1.nd hq hp2 e z
      have q := hf r c' c2' hr
      cases r with
      | val x => exact k v H' _ _ Hd' ps1 q R2 hv
      | pv φ m => exact k v H' _ _ Hd' ps1 q R2 hv
      | new xs =>
        obtain ⟨p', rfl, hn, hcd, hc'⟩ := hv
        obtain ⟨R3, a3⟩ := R2.adopt (c := xs) (fun hm => R1.ex p' hm hn) (none_of_same R1.e2 hn) (cr_some hc' hcd) hc'
        exact k _ H' _ _ Hd' _ q R3 a3
/-- products -/
def Sm (x : Int) : Prop := x.natAbs < 2 ^ 4000
theorem cmS {i j : Int} (hi : Sm i) (hj : Sm j) : CMulW i j := wide_mul hi hj (by decide) (by decide) (by decide)
theorem cm64 {i j : Int} (hi : -(2 ^ 63) ≤ i ∧ i < 2 ^ 63) (hj : -(2 ^ 63) ≤ j ∧ j < 2 ^ 63) : CMulW i j :=
  wide_mul (a := 64) (b := 64) (by omega) (by omega) (by decide) (by decide) (by decide)
theorem fd64 {i j : Int} (hi : 0 < j ∧ j < 2 ^ 63) : CDivW i j := wide_div (b := 64) hi.1 (by omega) (by decide) (by decide)
theorem fdS {i j : Int} (h0 : 0 < j) (hj : Sm j) : CDivW i j := wide_div h0 hj (by decide) (by decide)
theorem sm64 {i : Int} (hi : -(2 ^ 63) ≤ i ∧ i < 2 ^ 63) : Sm i := by
  have : i.natAbs < 2 ^ 64 := by omega
  exact Nat.lt_trans this (Nat.pow_lt_pow_right (by decide) (by decide))
end
section
variable {K : PySem.W.Frag} {b : B} {s s1 : S} {te ta tb tc : TE} {tt tu : TT} {t : TA} {x y : A} {Φ Ψ : A → S → Prop} {r r' : R2} {tx ty : TS} {N : EE} {g : TG} {f : Spc}
theorem gts_consD {g : TG} {u : TGs} {d : PyData} {ds : List PyData} {N : S → Prop} (h : GT K b g (.d d) s fun s1 => GTs K b u (ds.map A.d) s1 N) : GTs K b (gCons g u) ((d :: ds).map A.d) s N := gts_cons h
theorem gts_nilD {N : S → Prop} (q : N s) : GTs K b gNil (([] : List PyData).map A.d) s N := gts_nil q
theorem rt_val {n : Nat} {Φ : Rv → List C → Prop} {z : PyData} (q : Φ (.val z) (s.os.take n)) : (RTE n Φ).rt (.d z) s := q
theorem rt_new {n k : Nat} {Φ : Rv → List C → Prop} {c : C} (h1 : n ≤ k) (h2 : s.os[k]? = some c) (h3 : c ≠ .dead) (q : Φ (.new c) (s.os.take n)) : (RTE n Φ).rt (.o k) s := ⟨c, h1, h2, h3, q⟩
/-- a call that reads data and answers with the datum z -/
theorem ev_callV {E : XK} (h : EA K b t s fun as s1 => ∃ i z, as = f.args i ∧ f.cells i = [] ∧ noO as = true ∧ f.pre i ∧ (∀ r os', f.post i r os' → r = .val z) ∧ (∀ x os', ¬ f.xpost i x os') ∧ Φ (.d z) s1) : EV K b (tCall (SpB K f) [] E t) s Φ :=
  ev_call0 fun σ H tv tl Hd ps R Q k => h σ H tv tl Hd ps R Q fun vs H' as s' Hd' ps' ⟨i, z, e1, e2, e3, e4, e5, e6, e7⟩ => k vs H' as s' Hd' ps' ⟨i, e1, e2, e3, e4, fun r os' q => by rw [e5 r os' q]; exact e7, xok_no e6⟩
theorem go_sAsg (h : EV K b te s fun a s1 => GT K b g a s1 fun s2 => GO K b ty s2 N) : GO K b (tSeq (tAsg te g) ty) s N := go_seq (go_asg h)
theorem go_sDrop (h : EV K b te s fun _ s1 => GO K b ty s1 N) : GO K b (tSeq (tDrop te) ty) s N := go_seq (go_drop h)
theorem go_sAug {i : Nat} {f : Int → Int → Int} {m : Int} (hi : s.ss[i]? = some (some (.d (.int m)))) (h : EV K b te s fun a s1 => ∃ n, a = .d (.int n) ∧ GO K b ty (s1.set i (.d (.int (f m n)))) N) : GO K b (tSeq (tAug i te (ipI f)) ty) s N := go_seq (go_aug hi h)
/-- a statement, then the rest, with a word between them -/
theorem go_mid (M : S → Prop) (h : GO K b tx s { N with nx := M }) (k : ∀ s1, M s1 → GO K b ty s1 N) : GO K b (tSeq tx ty) s N := go_seq (go_mono h k (fun _ _ q => q) (fun _ q => q) (fun _ q => q))
theorem ev_const {v : V} {d : PyData} (hv : ∀ H, Dr K H v d) (q : Φ (.d d) s) : EV K b (tC v) s Φ := fun σ H tv tl Hd ps R Q k => k v H _ s Hd ps q R (hv Hd)
theorem put_same {k : Nat} {c : C} (h : s.os[k]? = some c) : s.put k c = s := by
  obtain ⟨hl, e⟩ := List.getElem?_eq_some_iff.mp h
  show S.mk s.ss (s.os.set k c) = s
  rw [← e, List.set_getElem_self]
/-- an argument that is an own list or data -/
def vA (o : Bool) (k : Nat) (xs : List PyData) : A := if o then .o k else .d (.list xs)
theorem ev_callA {E : XK} {o : Bool} {n m : Nat} {xs ys : List PyData} {i : f.I} (hi : f.args i = [vA o 0 xs, vA o 1 ys]) (hc : f.cells i = if o then [.lst xs, .lst ys] else []) (hp : f.pre i) (hx : ∀ x os', ¬ f.xpost i x os') (hq : ∀ r os', f.post i r os' → os' = f.cells i) (hnm : n ≠ m)
    (h : EA K b t s fun as s1 => as = [vA o n xs, vA o m ys] ∧ (o = true → s1.os[n]? = some (.lst xs) ∧ s1.os[m]? = some (.lst ys)) ∧ ∀ r os', f.post i r os' → aft s1 Φ r) : EV K b (tCall (SpB K f) [] E t) s Φ := by
  cases o with
  | false =>
    refine ev_call0 fun σ H tv tl Hd ps R Q k => h σ H tv tl Hd ps R Q fun vs H' as s' Hd' ps' g => k vs H' as s' Hd' ps' ?_
    obtain ⟨rfl, _, g⟩ := g
    exact ⟨i, by rw [hi]; rfl, by rw [hc]; rfl, rfl, hp, g, xok_no hx⟩
  | true =>
    refine ev_call2 n m hnm fun σ H tv tl Hd ps R Q k => h σ H tv tl Hd ps R Q fun vs H' as s' Hd' ps' g => k vs H' as s' Hd' ps' ?_
    obtain ⟨rfl, g1, g⟩ := g
    obtain ⟨g2, g3⟩ := g1 rfl
    refine ⟨i, .lst xs, .lst ys, [], rfl, by rw [hi]; rfl, by rw [hc]; rfl, g2, g3, (fun z => nomatch z), (fun z => nomatch z), rfl, hp, fun r c c' hr => ?_, hx⟩
    have e := hq r _ hr
    rw [hc] at e
    cases e
    rw [put_same g2, put_same g3]
    exact g r _ hr
theorem ev_callA1 {E : XK} {o : Bool} {n : Nat} {xs : List PyData} {i : f.I} (hi : f.args i = [vA o 0 xs]) (hc : f.cells i = if o then [.lst xs] else []) (hp : f.pre i) (hx : ∀ x os', ¬ f.xpost i x os') (hq : ∀ r os', f.post i r os' → os' = f.cells i)
    (h : EA K b t s fun as s1 => as = [vA o n xs] ∧ (o = true → s1.os[n]? = some (.lst xs)) ∧ ∀ r os', f.post i r os' → aft s1 Φ r) : EV K b (tCall (SpB K f) [] E t) s Φ := by
  cases o with
  | false =>
    refine ev_call0 fun σ H tv tl Hd ps R Q k => h σ H tv tl Hd ps R Q fun vs H' as s' Hd' ps' g => k vs H' as s' Hd' ps' ?_
    obtain ⟨rfl, _, g⟩ := g
    exact ⟨i, by rw [hi]; rfl, by rw [hc]; rfl, rfl, hp, g, xok_no hx⟩
  | true =>
    refine ev_call1 n fun σ H tv tl Hd ps R Q k => h σ H tv tl Hd ps R Q fun vs H' as s' Hd' ps' g => k vs H' as s' Hd' ps' ?_
    obtain ⟨rfl, g1, g⟩ := g
    have g2 := g1 rfl
    refine ⟨i, .lst xs, [], rfl, by rw [hi]; rfl, by rw [hc]; rfl, g2, (fun z => nomatch z), rfl, hp, fun r c hr => ?_, fun x c' q => absurd q (hx x _)⟩
    have e := hq r _ hr
    rw [hc] at e
    cases e
    rw [put_same g2]
    exact g r _ hr
theorem put_last {ss : List (Option A)} {cs : List C} {c c' : C} : (S.mk ss (cs ++ [c])).put cs.length c' = S.mk ss (cs ++ [c']) := by
  show S.mk ss ((cs ++ [c]).set cs.length c') = _
  rw [List.set_append_right _ _ (Nat.le_refl _), Nat.sub_self]
  rfl
theorem vm_appL {ss : List (Option A)} {cs : List C} {ds : List PyData} {z : PyData} (hl : ds.length ≤ 100000) (q : Φ (.d .none) ⟨ss, cs ++ [.lst (ds ++ [z])]⟩) : VM K b rAppend (.o cs.length) [.d z] ⟨ss, cs ++ [.lst ds]⟩ Φ :=
  vm_append List.getElem?_concat_length (Nat.lt_of_le_of_lt hl (by decide)) (by rw [put_last]; exact q)
theorem vm_popL {ss : List (Option A)} {cs : List C} {ds : List PyData} {z : PyData} (q : Φ (.d z) ⟨ss, cs ++ [.lst ds]⟩) : VM K b rPop (.o cs.length) [] ⟨ss, cs ++ [.lst (ds ++ [z])]⟩ Φ :=
  vm_pop List.getElem?_concat_length (by rw [List.length_append, List.length_singleton, Nat.add_sub_cancel, List.getElem?_append_right (Nat.le_refl _), Nat.sub_self]; rfl) (by rw [put_last, List.dropLast_concat]; exact q)
theorem get_last {cs : List C} {c : C} : (cs ++ [c])[cs.length]? = some c := List.getElem?_concat_length
theorem sh_int {i : Int} : SeqAt.shaped (.int i) = true := rfl
theorem sh_bool {i : Bool} : SeqAt.shaped (.bool i) = true := rfl
theorem v2_eqI {i j : Int} (q : Φ (.d (.bool (decide (i = j)))) s) : V2 K b (rEqD K) (.d (.int i)) (.d (.int j)) s Φ := v2_eq rfl rfl rfl rfl q
theorem v2_neI {i j : Int} (q : Φ (.d (.bool (!decide (i = j)))) s) : V2 K b (rNeD K) (.d (.int i)) (.d (.int j)) s Φ := v2_ne rfl rfl rfl rfl q
theorem v2_eqB {i j : Bool} (q : Φ (.d (.bool (i == j))) s) : V2 K b (rEqD K) (.d (.bool i)) (.d (.bool j)) s Φ := v2_eq rfl rfl rfl rfl q
theorem v2_neB {i j : Bool} (q : Φ (.d (.bool (!(i == j)))) s) : V2 K b (rNeD K) (.d (.bool i)) (.d (.bool j)) s Φ := v2_ne rfl rfl rfl rfl q
theorem v2_eqS {i j : Str} (z1 : SeqAt.shaped (.str i) = true) (z2 : SeqAt.shaped (.str j) = true) (q : Φ (.d (.bool (i == j))) s) : V2 K b (rEqD K) (.d (.str i)) (.d (.str j)) s Φ := v2_eq rfl rfl z1 z2 q
theorem v2_neS {i j : Str} (z1 : SeqAt.shaped (.str i) = true) (z2 : SeqAt.shaped (.str j) = true) (q : Φ (.d (.bool (!(i == j)))) s) : V2 K b (rNeD K) (.d (.str i)) (.d (.str j)) s Φ := v2_ne rfl rfl z1 z2 q
theorem v2_ixV {ds : List PyData} {i : Int} {z : PyData} (h : Vw s x (.list ds)) (e : atI ds i = some z) (q : Φ (.d z) s) : V2 K b (rIx K) x (.d (.int i)) s Φ := by
  cases x with
  | d d => cases h; exact v2_ixL e q
  | o k =>
    obtain ⟨xs, hk, e2⟩ := h
    cases e2
    exact v2_ixO hk e q
  | p _ _ => exact h.elim
theorem atI_n {α : Type} {xs : List α} {i : Nat} {z : α} (h : xs[i]? = some z) : atI xs (i : Int) = some z := atI_nat h
theorem vc_lenV {ds : List PyData} (h : Vw s x (.list ds)) (q : Φ (.d (.int ds.length)) s) : VC K b (fun xs H Q => ∃ x n, xs = [x] ∧ LenV K x H n ∧ Q (.int n) H) [x] s Φ := vc_len (.inl h) q
theorem vc_lenT {ds : List PyData} (q : Φ (.d (.int ds.length)) s) : VC K b (fun xs H Q => ∃ x n, xs = [x] ∧ LenV K x H n ∧ Q (.int n) H) [.d (.tuple ds)] s Φ := vc_len (.inr rfl) q
theorem v2_isBA {i j : Bool} (q : Φ (.d (.bool (decide (i = j)))) s) : V2 K b rIsA (.d (.bool i)) (.d (.bool j)) s Φ := fun σ H tv tl Hd ps v w R a1 a2 Q k => by
  cases a1; cases a2
  exact .inr ⟨i, j, rfl, rfl, k _ H _ s Hd ps q R (.bl _)⟩
theorem v2_notBA {i j : Bool} (q : Φ (.d (.bool (!decide (i = j)))) s) : V2 K b rNotA (.d (.bool i)) (.d (.bool j)) s Φ := fun σ H tv tl Hd ps v w R a1 a2 Q k => by
  cases a1; cases a2
  exact .inr ⟨i, j, rfl, rfl, k _ H _ s Hd ps q R (.bl _)⟩
def SmC (a : Int × Int) : Prop := Sm a.1 ∧ Sm a.2
end
end Dw

namespace K39
open PySem L2 Dw
/-! ### index pairs -/
abbrev PQ := Nat × Nat
def Can (a : Nat) : List PQ → Prop
  | [] => True
  | (p, q) :: l => a ≤ p ∧ p < q ∧ Can (q + 1) l
def Top (N : Nat) (l : List PQ) : Prop := ∀ x, x ∈ l → x.2 ≤ N
def Has (l : List PQ) (c : Nat) : Prop := ∃ x, x ∈ l ∧ x.1 ≤ c ∧ c < x.2
theorem Can.mono {a b : Nat} (h : b ≤ a) : ∀ {l : List PQ}, Can a l → Can b l
  | [], _ => trivial
  | (p, q) :: l, ⟨h1, h2, h3⟩ => ⟨Nat.le_trans h h1, h2, h3⟩
theorem Can.low {a : Nat} : ∀ {l : List PQ} {c : Nat}, Can a l → Has l c → a ≤ c
  | [], c, _, ⟨x, hx, _⟩ => by cases hx
  | (p, q) :: l, c, ⟨h1, h2, h3⟩, ⟨x, hx, h4, h5⟩ => by
    rcases List.mem_cons.mp hx with e | hx
    · subst e
      exact Nat.le_trans h1 h4
    · have := Can.low h3 ⟨x, hx, h4, h5⟩
      omega
theorem has_nil {c : Nat} : ¬ Has [] c := fun ⟨x, hx, _⟩ => by cases hx
theorem has_cons {p q c : Nat} {l : List PQ} : Has ((p, q) :: l) c ↔ (p ≤ c ∧ c < q) ∨ Has l c := by
  constructor
  · rintro ⟨x, hx, h1, h2⟩
    rcases List.mem_cons.mp hx with e | hx
    · subst e; exact .inl ⟨h1, h2⟩
    · exact .inr ⟨x, hx, h1, h2⟩
  · rintro (⟨h1, h2⟩ | ⟨x, hx, h⟩)
    · exact ⟨_, List.mem_cons_self, h1, h2⟩
    · exact ⟨x, List.mem_cons_of_mem _ hx, h⟩
theorem has_app {c : Nat} {l m : List PQ} : Has (l ++ m) c ↔ Has l c ∨ Has m c := by
  constructor
  · rintro ⟨x, hx, h⟩
    rcases List.mem_append.mp hx with hx | hx
    · exact .inl ⟨x, hx, h⟩
    · exact .inr ⟨x, hx, h⟩
  · rintro (⟨x, hx, h⟩ | ⟨x, hx, h⟩)
    · exact ⟨x, List.mem_append_left _ hx, h⟩
    · exact ⟨x, List.mem_append_right _ hx, h⟩
/-- two canonical lists with the same cells are one -/
theorem can_unique : ∀ {l m : List PQ} {a b : Nat}, Can a l → Can b m → (∀ c, Has l c ↔ Has m c) → l = m
  | [], [], _, _, _, _, _ => rfl
  | [], (p, q) :: m, _, _, _, ⟨_, h2, _⟩, e => absurd ((e p).mpr (has_cons.mpr (.inl ⟨Nat.le_refl p, h2⟩))) has_nil
  | (p, q) :: l, [], _, _, ⟨_, h2, _⟩, _, e => absurd ((e p).mp (has_cons.mpr (.inl ⟨Nat.le_refl p, h2⟩))) has_nil
  | (p, q) :: l, (p', q') :: m, a, b, ⟨h1, h2, h3⟩, ⟨g1, g2, g3⟩, e => by
    have lo : ∀ {p q : Nat} {l : List PQ} {c : Nat}, Can (q + 1) l → p < q → Has ((p, q) :: l) c → p ≤ c := fun h hl hc => by
      rcases has_cons.mp hc with ⟨h, _⟩ | hc
      · exact h
      · have := Can.low h hc; omega
    have ep : p = p' := by
      have e1 := lo g3 g2 ((e p).mp (has_cons.mpr (.inl ⟨Nat.le_refl p, h2⟩)))
      have e2 := lo h3 h2 ((e p').mpr (has_cons.mpr (.inl ⟨Nat.le_refl p', g2⟩)))
      omega
    subst ep
    have nq : ∀ {p q : Nat} {l : List PQ}, Can (q + 1) l → ¬ Has ((p, q) :: l) q := fun h hc => by
      rcases has_cons.mp hc with ⟨_, h⟩ | hc
      · omega
      · have := Can.low h hc; omega
    have eq : q = q' := by
      rcases Nat.lt_trichotomy q q' with h | h | h
      · exact absurd ((e q).mpr (has_cons.mpr (.inl ⟨by omega, h⟩))) (nq h3)
      · exact h
      · exact absurd ((e q').mp (has_cons.mpr (.inl ⟨by omega, h⟩))) (nq g3)
    subst eq
    have : l = m := can_unique h3 g3 fun c => by
      have ec := e c
      rw [has_cons, has_cons] at ec
      constructor
      · intro hc
        have := Can.low h3 hc
        rcases ec.mp (.inr hc) with h | h
        · omega
        · exact h
      · intro hc
        have := Can.low g3 hc
        rcases ec.mpr (.inr hc) with h | h
        · omega
        · exact h
    rw [this]
/-! ### the four operations on index pairs -/
def meetP : List PQ → List PQ → List PQ
  | (p, q) :: l, (p', q') :: m => (if max p p' < min q q' then [(max p p', min q q')] else []) ++ if q < q' then meetP l ((p', q') :: m) else meetP ((p, q) :: l) m
  | [], _ => []
  | _ :: _, [] => []
termination_by l m => l.length + m.length
theorem meetP_cons {p q p' q' : Nat} {l m : List PQ} : meetP ((p, q) :: l) ((p', q') :: m) = (if max p p' < min q q' then [(max p p', min q q')] else []) ++ if q < q' then meetP l ((p', q') :: m) else meetP ((p, q) :: l) m := by
  rw [meetP]
theorem meetP_nil1 {m : List PQ} : meetP [] m = [] := by rw [meetP]
theorem meetP_nil2 {l : List PQ} : meetP l [] = [] := by
  cases l with
  | nil => rw [meetP]
  | cons x l => rw [meetP]
theorem can_if {a x y : Nat} {l : List PQ} (h1 : a ≤ x) (h2 : Can (y + 1) l) (h3 : Can a l) : Can a ((if x < y then [(x, y)] else []) ++ l) := by
  split
  · rename_i h
    exact ⟨h1, h, h2⟩
  · exact h3
theorem meet_can : ∀ {l m : List PQ} {a b : Nat}, Can a l → Can b m → Can (max a b) (meetP l m)
  | [], m, a, b, _, _ => by rw [meetP_nil1]; trivial
  | _ :: _, [], a, b, _, _ => by rw [meetP_nil2]; trivial
  | (p, q) :: l, (p', q') :: m, a, b, ⟨h1, h2, h3⟩, ⟨g1, g2, g3⟩ => by
    rw [meetP_cons]
    by_cases e : q < q'
    · rw [if_pos e]
      have ih := meet_can (l := l) (m := (p', q') :: m) h3 (show Can b _ from ⟨g1, g2, g3⟩)
      exact can_if (by omega) (ih.mono (by omega)) (ih.mono (by omega))
    · rw [if_neg e]
      have ih := meet_can (l := (p, q) :: l) (m := m) (show Can a _ from ⟨h1, h2, h3⟩) g3
      exact can_if (by omega) (ih.mono (by omega)) (ih.mono (by omega))
termination_by l m => l.length + m.length
theorem has_if {x y c : Nat} {l : List PQ} : Has ((if x < y then [(x, y)] else []) ++ l) c ↔ (x ≤ c ∧ c < y) ∨ Has l c := by
  split
  · exact has_cons
  · rename_i h
    constructor
    · exact .inr
    · rintro (h' | h')
      · omega
      · exact h'
theorem meet_has : ∀ {l m : List PQ} {a b : Nat} {c : Nat}, Can a l → Can b m → (Has (meetP l m) c ↔ Has l c ∧ Has m c)
  | [], m, a, b, c, _, _ => by rw [meetP_nil1]; exact ⟨fun h => absurd h has_nil, fun h => absurd h.1 has_nil⟩
  | _ :: _, [], a, b, c, _, _ => by rw [meetP_nil2]; exact ⟨fun h => absurd h has_nil, fun h => absurd h.2 has_nil⟩
  | (p, q) :: l, (p', q') :: m, a, b, c, ⟨h1, h2, h3⟩, ⟨g1, g2, g3⟩ => by
    rw [meetP_cons]
    by_cases e : q < q'
    · rw [if_pos e, has_if, meet_has h3 (show Can b ((p', q') :: m) from ⟨g1, g2, g3⟩), has_cons, has_cons]
      constructor
      · rintro (h | ⟨h, h'⟩)
        · exact ⟨.inl (by omega), .inl (by omega)⟩
        · exact ⟨.inr h, h'⟩
      · rintro ⟨h | h, h'⟩
        · rcases h' with h' | h'
          · exact .inl (by omega)
          · have := Can.low g3 h'; omega
        · exact .inr ⟨h, h'⟩
    · rw [if_neg e, has_if, meet_has (show Can a ((p, q) :: l) from ⟨h1, h2, h3⟩) g3, has_cons, has_cons]
      constructor
      · rintro (h | ⟨h, h'⟩)
        · exact ⟨.inl (by omega), .inl (by omega)⟩
        · exact ⟨h, .inr h'⟩
      · rintro ⟨h, h' | h'⟩
        · rcases h with h | h
          · exact .inl (by omega)
          · have := Can.low h3 h; omega
        · exact .inr ⟨h, h'⟩
termination_by l m => l.length + m.length
/-- in_order -/
def mergeP : List PQ → List PQ → List PQ
  | x :: l, y :: m => if y.1 < x.1 then y :: mergeP (x :: l) m else x :: mergeP l (y :: m)
  | [], m => m
  | x :: l, [] => x :: l
termination_by l m => l.length + m.length
theorem mergeP_cons {x y : PQ} {l m : List PQ} : mergeP (x :: l) (y :: m) = if y.1 < x.1 then y :: mergeP (x :: l) m else x :: mergeP l (y :: m) := by rw [mergeP]
theorem mergeP_nil1 {m : List PQ} : mergeP [] m = m := by rw [mergeP]
theorem mergeP_nil2 {l : List PQ} : mergeP l [] = l := by
  cases l with
  | nil => rw [mergeP]
  | cons x l => rw [mergeP]
/-- sorted by the lows, no empty pair -/
def Srt (a : Nat) : List PQ → Prop
  | [] => True
  | (p, q) :: l => a ≤ p ∧ p < q ∧ Srt p l
theorem Srt.mono {a b : Nat} (h : b ≤ a) : ∀ {l : List PQ}, Srt a l → Srt b l
  | [], _ => trivial
  | (p, q) :: l, ⟨h1, h2, h3⟩ => ⟨Nat.le_trans h h1, h2, h3⟩
theorem Can.srt : ∀ {l : List PQ} {a : Nat}, Can a l → Srt a l
  | [], _, _ => trivial
  | (p, q) :: l, a, ⟨h1, h2, h3⟩ => ⟨h1, h2, (Can.srt h3).mono (by omega)⟩
theorem merge_srt : ∀ {l m : List PQ} {a : Nat}, Srt a l → Srt a m → Srt a (mergeP l m)
  | [], m, a, _, h => by rw [mergeP_nil1]; exact h
  | _ :: _, [], a, h, _ => by rw [mergeP_nil2]; exact h
  | (p, q) :: l, (p', q') :: m, a, ⟨h1, h2, h3⟩, ⟨g1, g2, g3⟩ => by
    rw [mergeP_cons]
    split
    · rename_i e
      exact ⟨g1, g2, merge_srt (show Srt p' ((p, q) :: l) from ⟨by simp at e; omega, h2, h3⟩) g3⟩
    · rename_i e
      exact ⟨h1, h2, merge_srt h3 (show Srt p ((p', q') :: m) from ⟨by simp at e; omega, g2, g3⟩)⟩
termination_by l m => l.length + m.length
theorem merge_has {c : Nat} : ∀ {l m : List PQ}, Has (mergeP l m) c ↔ Has l c ∨ Has m c
  | [], m => by rw [mergeP_nil1]; exact ⟨.inr, fun h => h.elim (fun h => absurd h has_nil) id⟩
  | x :: l, [] => by rw [mergeP_nil2]; exact ⟨.inl, fun h => h.elim id (fun h => absurd h has_nil)⟩
  | (p, q) :: l, (p', q') :: m => by
    rw [mergeP_cons]
    split
    · rw [has_cons, merge_has, has_cons (l := m)]
      constructor
      · rintro (h | h | h)
        · exact .inr (.inl h)
        · exact .inl h
        · exact .inr (.inr h)
      · rintro (h | h | h)
        · exact .inr (.inl h)
        · exact .inl h
        · exact .inr (.inr h)
    · rw [has_cons, merge_has, has_cons (l := l), or_assoc]
termination_by l m => l.length + m.length
theorem merge_top {N : Nat} : ∀ {l m : List PQ}, Top N l → Top N m → Top N (mergeP l m)
  | [], m, _, h => by rw [mergeP_nil1]; exact h
  | x :: l, [], h, _ => by rw [mergeP_nil2]; exact h
  | x :: l, y :: m, h, g => by
    rw [mergeP_cons]
    have h' : Top N l := fun z hz => h z (List.mem_cons_of_mem _ hz)
    have g' : Top N m := fun z hz => g z (List.mem_cons_of_mem _ hz)
    split
    · intro z hz
      rcases List.mem_cons.mp hz with e | hz
      · rw [e]; exact g y List.mem_cons_self
      · exact merge_top h g' z hz
    · intro z hz
      rcases List.mem_cons.mp hz with e | hz
      · rw [e]; exact h x List.mem_cons_self
      · exact merge_top h' g z hz
termination_by l m => l.length + m.length
/-- the loop of join: the last pair is kept apart -/
def joinF (s e : Nat) : List PQ → List PQ
  | [] => [(s, e)]
  | (p, q) :: l => if e < p then (s, e) :: joinF p q l else joinF s (max e q) l
def joinP (l m : List PQ) : List PQ := match mergeP l m with
  | [] => []
  | (p, q) :: r => joinF p q r
theorem joinF_can : ∀ {l : List PQ} {s e a : Nat}, a ≤ s → s < e → Srt s l → Can a (joinF s e l)
  | [], s, e, a, h, h1, _ => ⟨h, h1, trivial⟩
  | (p, q) :: l, s, e, a, h, h1, ⟨g1, g2, g3⟩ => by
    unfold joinF
    split
    · rename_i hp
      exact ⟨h, h1, joinF_can hp g2 g3⟩
    · exact joinF_can h (by omega) (g3.mono g1)
theorem joinF_has {c : Nat} : ∀ {l : List PQ} {s e : Nat}, Srt s l → s < e → (Has (joinF s e l) c ↔ (s ≤ c ∧ c < e) ∨ Has l c)
  | [], s, e, _, _ => by unfold joinF; rw [has_cons]
  | (p, q) :: l, s, e, ⟨g1, g2, g3⟩, h1 => by
    unfold joinF
    split
    · rw [has_cons, joinF_has g3 g2, has_cons]
    · rename_i hp
      rw [joinF_has (g3.mono g1) (by omega), has_cons]
      constructor
      · rintro (h | h)
        · by_cases z : c < e
          · exact .inl ⟨h.1, z⟩
          · exact .inr (.inl (by omega))
        · exact .inr (.inr h)
      · rintro (h | h | h)
        · exact .inl (by omega)
        · exact .inl (by omega)
        · exact .inr h
theorem joinF_top {N : Nat} : ∀ {l : List PQ} {s e : Nat}, e ≤ N → Top N l → Top N (joinF s e l)
  | [], s, e, h, _ => fun x hx => by
    unfold joinF at hx
    rw [List.mem_singleton.mp hx]
    exact h
  | (p, q) :: l, s, e, h, g => by
    have h1 : q ≤ N := g (p, q) List.mem_cons_self
    have h2 : Top N l := fun x hx => g x (List.mem_cons_of_mem _ hx)
    unfold joinF
    split
    · intro x hx
      rcases List.mem_cons.mp hx with e' | hx
      · rw [e']; exact h
      · exact joinF_top h1 h2 x hx
    · exact joinF_top (by omega) h2
theorem join_can {l m : List PQ} (h : Can 0 l) (g : Can 0 m) : Can 0 (joinP l m) := by
  have hs := merge_srt h.srt g.srt
  unfold joinP
  generalize mergeP l m = r at hs
  cases r with
  | nil => trivial
  | cons x r =>
    obtain ⟨p, q⟩ := x
    exact joinF_can hs.1 hs.2.1 hs.2.2
theorem join_has {l m : List PQ} {c : Nat} (h : Can 0 l) (g : Can 0 m) : Has (joinP l m) c ↔ Has l c ∨ Has m c := by
  rw [← merge_has]
  have hs := merge_srt h.srt g.srt
  unfold joinP
  generalize mergeP l m = r at hs
  cases r with
  | nil => exact Iff.rfl
  | cons x r =>
    obtain ⟨p, q⟩ := x
    rw [joinF_has hs.2.2 hs.2.1, has_cons]
theorem join_top {N : Nat} {l m : List PQ} (h : Top N l) (g : Top N m) : Top N (joinP l m) := by
  have hs := merge_top h g
  unfold joinP
  generalize mergeP l m = r at hs
  cases r with
  | nil => exact hs
  | cons x r =>
    obtain ⟨p, q⟩ := x
    exact joinF_top (hs (p, q) List.mem_cons_self) fun x hx => hs x (List.mem_cons_of_mem _ hx)
theorem meet_top {N : Nat} : ∀ {l m : List PQ}, Top N l → Top N m → Top N (meetP l m)
  | [], m, _, _ => by rw [meetP_nil1]; intro x hx; cases hx
  | x :: l, [], _, _ => by rw [meetP_nil2]; intro x hx; cases hx
  | (p, q) :: l, (p', q') :: m, h, g => by
    rw [meetP_cons]
    have h1 : q ≤ N := h (p, q) List.mem_cons_self
    have h' : Top N l := fun z hz => h z (List.mem_cons_of_mem _ hz)
    have g' : Top N m := fun z hz => g z (List.mem_cons_of_mem _ hz)
    intro x hx
    rcases List.mem_append.mp hx with hx | hx
    · split at hx
      · rw [List.mem_singleton.mp hx]
        exact Nat.le_trans (Nat.min_le_left _ _) h1
      · cases hx
    · split at hx
      · exact meet_top h' g x hx
      · exact meet_top h g' x hx
termination_by l m => l.length + m.length
/-- other_stretches from low on; N is the end -/
def otherP (N : Nat) (low : Nat) : List PQ → List PQ
  | [] => if low < N then [(low, N)] else []
  | (p, q) :: l => (if low < p then [(low, p)] else []) ++ otherP N q l
theorem other_can {N : Nat} : ∀ {l : List PQ} {a low : Nat}, a ≤ low → Can low l → Can a (otherP N low l)
  | [], a, low, h, _ => by
    unfold otherP
    split
    · rename_i z
      exact ⟨h, z, trivial⟩
    · trivial
  | (p, q) :: l, a, low, h, ⟨g1, g2, g3⟩ => by
    unfold otherP
    have ih := other_can (N := N) (a := p + 1) (low := q) (by omega) (g3.mono (by omega))
    exact can_if h ih (ih.mono (by omega))
theorem other_has {N c : Nat} : ∀ {l : List PQ} {low : Nat}, Can low l → Top N l → (Has (otherP N low l) c ↔ low ≤ c ∧ c < N ∧ ¬ Has l c)
  | [], low, _, _ => by
    unfold otherP
    rw [show (if low < N then [(low, N)] else []) = (if low < N then [(low, N)] else []) ++ ([] : List PQ) by simp, has_if]
    constructor
    · rintro (h | h)
      · exact ⟨h.1, h.2, has_nil⟩
      · exact absurd h has_nil
    · rintro ⟨h1, h2, _⟩
      exact .inl ⟨h1, h2⟩
  | (p, q) :: l, low, ⟨g1, g2, g3⟩, ht => by
    have h1 : q ≤ N := ht (p, q) List.mem_cons_self
    have h' : Top N l := fun z hz => ht z (List.mem_cons_of_mem _ hz)
    unfold otherP
    rw [has_if, other_has (g3.mono (by omega)) h', has_cons]
    constructor
    · rintro (h | ⟨h, h2, h3⟩)
      · refine ⟨h.1, by omega, fun z => ?_⟩
        rcases z with z | z
        · omega
        · have := Can.low g3 z; omega
      · refine ⟨by omega, h2, fun z => ?_⟩
        rcases z with z | z
        · omega
        · exact h3 z
    · rintro ⟨h, h2, h3⟩
      by_cases z : c < p
      · exact .inl ⟨h, z⟩
      · refine .inr ⟨?_, h2, fun w => h3 (.inr w)⟩
        rcases Nat.lt_or_ge c q with w | w
        · exact absurd (.inl ⟨by omega, w⟩) h3
        · exact w
theorem other_top {N : Nat} : ∀ {l : List PQ} {low : Nat}, Can low l → Top N l → Top N (otherP N low l)
  | [], low, _, _ => by
    unfold otherP
    intro x hx
    split at hx
    · rw [List.mem_singleton.mp hx]; exact Nat.le_refl _
    · cases hx
  | (p, q) :: l, low, ⟨g1, g2, g3⟩, ht => by
    have h1 : q ≤ N := ht (p, q) List.mem_cons_self
    have h' : Top N l := fun z hz => ht z (List.mem_cons_of_mem _ hz)
    unfold otherP
    intro x hx
    rcases List.mem_append.mp hx with hx | hx
    · split at hx
      · rw [List.mem_singleton.mp hx]
        show p ≤ N
        omega
      · cases hx
    · exact other_top (g3.mono (by omega)) h' x hx
/-! ### the law's own form -/
def formF (c : Nat) (low : Option Nat) : List Bool → List PQ
  | [] => match low with
    | none => []
    | some p => [(p, c)]
  | b :: bs => match low with
    | none => if b then formF (c + 1) (some c) bs else formF (c + 1) none bs
    | some p => if b then formF (c + 1) (some p) bs else (p, c) :: formF (c + 1) none bs
def formP (bits : List Bool) : List PQ := formF 0 none bits
theorem formF_can : ∀ {bs : List Bool} {c a : Nat} {low : Option Nat}, (match low with | none => a ≤ c | some p => a ≤ p ∧ p < c) → Can a (formF c low bs)
  | [], c, a, none, _ => trivial
  | [], c, a, some p, h => ⟨h.1, h.2, trivial⟩
  | b :: bs, c, a, none, h => by
    unfold formF
    dsimp only
    split
    · exact formF_can (low := some c) ⟨h, Nat.lt_succ_self c⟩
    · exact formF_can (low := none) (Nat.le_succ_of_le h)
  | b :: bs, c, a, some p, h => by
    unfold formF
    dsimp only
    split
    · exact formF_can (low := some p) ⟨h.1, Nat.lt_succ_of_lt h.2⟩
    · exact ⟨h.1, h.2, formF_can (low := none) (Nat.le_refl _)⟩
theorem formF_has {k : Nat} : ∀ {bs : List Bool} {c : Nat} {low : Option Nat}, (∀ p, low = some p → p < c) → (Has (formF c low bs) k ↔ (∃ p, low = some p ∧ p ≤ k ∧ k < c) ∨ (c ≤ k ∧ bs[k - c]? = some true))
  | [], c, none, _ => by
    unfold formF
    constructor
    · intro h; exact absurd h has_nil
    · rintro (⟨p, h, _⟩ | ⟨_, h⟩)
      · cases h
      · simp at h
  | [], c, some p, h0 => by
    unfold formF
    dsimp only
    rw [has_cons]
    constructor
    · rintro (h | h)
      · exact .inl ⟨p, rfl, h⟩
      · exact absurd h has_nil
    · rintro (⟨p', h, h2⟩ | ⟨_, h⟩)
      · cases h; exact .inl h2
      · simp at h
  | b :: bs, c, none, h0 => by
    unfold formF
    dsimp only
    cases b with
    | true =>
      rw [if_pos rfl, formF_has (low := some c) (fun p h => by cases h; exact Nat.lt_succ_self c)]
      constructor
      · rintro (⟨p, h, h1, h2⟩ | ⟨h, h2⟩)
        · cases h
          have e : k = c := by omega
          subst e
          exact .inr ⟨Nat.le_refl _, by rw [Nat.sub_self]; rfl⟩
        · refine .inr ⟨by omega, ?_⟩
          rw [show k - c = (k - (c + 1)) + 1 by omega]
          exact h2
      · rintro (⟨p, h, _⟩ | ⟨h, h2⟩)
        · cases h
        · by_cases e : k = c
          · exact .inl ⟨c, rfl, by omega, by omega⟩
          · refine .inr ⟨by omega, ?_⟩
            rw [show k - c = (k - (c + 1)) + 1 by omega] at h2
            exact h2
    | false =>
      rw [if_neg Bool.false_ne_true, formF_has (low := none) (fun p h => nomatch h)]
      constructor
      · rintro (⟨p, h, _⟩ | ⟨h, h2⟩)
        · cases h
        · refine .inr ⟨by omega, ?_⟩
          rw [show k - c = (k - (c + 1)) + 1 by omega]
          exact h2
      · rintro (⟨p, h, _⟩ | ⟨h, h2⟩)
        · cases h
        · by_cases e : k = c
          · subst e
            rw [Nat.sub_self] at h2
            cases h2
          · refine .inr ⟨by omega, ?_⟩
            rw [show k - c = (k - (c + 1)) + 1 by omega] at h2
            exact h2
  | b :: bs, c, some p, h0 => by
    have hp := h0 p rfl
    unfold formF
    dsimp only
    cases b with
    | true =>
      rw [if_pos rfl, formF_has (low := some p) (fun p' h => by cases h; exact Nat.lt_succ_of_lt hp)]
      constructor
      · rintro (⟨p', h, h1, h2⟩ | ⟨h, h2⟩)
        · cases h
          by_cases e : k = c
          · subst e
            exact .inr ⟨Nat.le_refl _, by rw [Nat.sub_self]; rfl⟩
          · exact .inl ⟨p, rfl, h1, by omega⟩
        · refine .inr ⟨by omega, ?_⟩
          rw [show k - c = (k - (c + 1)) + 1 by omega]
          exact h2
      · rintro (⟨p', h, h1, h2⟩ | ⟨h, h2⟩)
        · cases h
          exact .inl ⟨p, rfl, h1, by omega⟩
        · by_cases e : k = c
          · exact .inl ⟨p, rfl, by omega, by omega⟩
          · refine .inr ⟨by omega, ?_⟩
            rw [show k - c = (k - (c + 1)) + 1 by omega] at h2
            exact h2
    | false =>
      rw [if_neg Bool.false_ne_true, has_cons, formF_has (low := none) (fun p h => nomatch h)]
      constructor
      · rintro (h | ⟨p', h, _⟩ | ⟨h, h2⟩)
        · exact .inl ⟨p, rfl, h⟩
        · cases h
        · refine .inr ⟨by omega, ?_⟩
          rw [show k - c = (k - (c + 1)) + 1 by omega]
          exact h2
      · rintro (⟨p', h, h1⟩ | ⟨h, h2⟩)
        · cases h
          exact .inl h1
        · by_cases e : k = c
          · subst e
            rw [Nat.sub_self] at h2
            cases h2
          · refine .inr (.inr ⟨by omega, ?_⟩)
            rw [show k - c = (k - (c + 1)) + 1 by omega] at h2
            exact h2
theorem form_can (bits : List Bool) : Can 0 (formP bits) := formF_can (low := none) (Nat.le_refl 0)
theorem form_has {bits : List Bool} {k : Nat} : Has (formP bits) k ↔ bits[k]? = some true := by
  unfold formP
  rw [formF_has (low := none) (fun p h => nomatch h)]
  constructor
  · rintro (⟨p, h, _⟩ | ⟨_, h⟩)
    · cases h
    · exact h
  · intro h
    exact .inr ⟨Nat.zero_le _, h⟩
theorem top_of_has {N : Nat} : ∀ {l : List PQ} {a : Nat}, Can a l → (∀ c, Has l c → c < N) → Top N l
  | [], _, _, _ => by
    intro x hx
    cases hx
  | (p, q) :: l, a, ⟨h1, h2, h3⟩, h => by
    intro x hx
    rcases List.mem_cons.mp hx with e | hx
    · subst e
      have := h (q - 1) (has_cons.mpr (.inl ⟨by omega, by omega⟩))
      show q ≤ N
      omega
    · exact top_of_has h3 (fun c hc => h c (has_cons.mpr (.inr hc))) x hx
theorem form_top (bits : List Bool) : Top bits.length (formP bits) := top_of_has (form_can bits) fun c hc => (List.getElem?_eq_some_iff.mp (form_has.mp hc)).1
/-- the four laws -/
theorem meet_form {a b r : List Bool} (ha : a.length = r.length) (hb : b.length = r.length) (h : ∀ k, k < r.length → (r[k]? = some true ↔ a[k]? = some true ∧ b[k]? = some true)) : meetP (formP a) (formP b) = formP r := by
  refine can_unique ((meet_can (form_can a) (form_can b)).mono (Nat.zero_le _)) (form_can r) fun c => ?_
  rw [meet_has (form_can a) (form_can b), form_has, form_has, form_has]
  by_cases hc : c < r.length
  · exact (h c hc).symm
  · rw [List.getElem?_eq_none (by omega), List.getElem?_eq_none (by omega : r.length ≤ c)]
    simp
theorem join_form {a b r : List Bool} (ha : a.length = r.length) (hb : b.length = r.length) (h : ∀ k, k < r.length → (r[k]? = some true ↔ a[k]? = some true ∨ b[k]? = some true)) : joinP (formP a) (formP b) = formP r := by
  refine can_unique (join_can (form_can a) (form_can b)) (form_can r) fun c => ?_
  rw [join_has (form_can a) (form_can b), form_has, form_has, form_has]
  by_cases hc : c < r.length
  · exact (h c hc).symm
  · rw [List.getElem?_eq_none (by omega), List.getElem?_eq_none (by omega : b.length ≤ c), List.getElem?_eq_none (by omega : r.length ≤ c)]
    simp
theorem other_form {a : List Bool} : otherP a.length 0 (formP a) = formP (a.map (!·)) := by
  refine can_unique (a := 0) (other_can (Nat.le_refl 0) (form_can a)) (form_can _) fun c => ?_
  rw [other_has (form_can a) (form_top a), form_has, form_has, List.getElem?_map]
  constructor
  · rintro ⟨_, h, h2⟩
    rw [List.getElem?_eq_getElem h] at h2 ⊢
    cases e : a[c] with
    | true => exact absurd (by rw [e]) h2
    | false => rfl
  · intro h
    cases e : a[c]? with
    | none => rw [e] at h; cases h
    | some v =>
      rw [e] at h
      refine ⟨Nat.zero_le _, (List.getElem?_eq_some_iff.mp e).1, ?_⟩
      cases v with
      | true => cases h
      | false => intro z; cases z
theorem form_all (n : Nat) (hn : 0 < n) : formP (List.replicate n true) = [(0, n)] := by
  refine can_unique (form_can _) (b := 0) (show Can 0 [(0, n)] from ⟨Nat.le_refl 0, hn, trivial⟩) fun c => ?_
  rw [form_has, has_cons, List.getElem?_replicate]
  constructor
  · intro h
    split at h
    · rename_i z; exact .inl ⟨Nat.zero_le _, z⟩
    · cases h
  · rintro (h | h)
    · rw [if_pos h.2]
    · exact absurd h has_nil
end K39

namespace K39
open PySem L2 Dw
/-! ### ends and cuts -/
abbrev Fr := Int × Int
def Lim : Int := 10 ^ 40
structure Ends (E : List Fr) : Prop where
  pos : ∀ f, f ∈ E → 0 ≤ f.1 ∧ f.1 < Lim ∧ 1 ≤ f.2 ∧ f.2 < Lim
  srt : E.Pairwise fun a b => a.1 * b.2 < b.1 * a.2
  low : ∀ f, f ∈ E → Int.gcd f.1 f.2 = 1
  fst : E[0]? = some (0, 1)
abbrev Cut := Int × Int × Int
def cut (E : List Fr) (p : Nat) : Option Cut := (E[p / 2]?).map fun f => (f.1, f.2, ((p % 2 : Nat) : Int))
def cl : Option Cut → Option Cut → Bool
  | none, _ => false
  | some _, none => true
  | some a, some b => if a.1 * b.2.1 ≠ b.1 * a.2.1 then decide (a.1 * b.2.1 < b.1 * a.2.1) else decide (a.2.2 < b.2.2)
theorem Ends.lt {E : List Fr} (h : Ends E) {i j : Nat} {f g : Fr} (hi : E[i]? = some f) (hj : E[j]? = some g) (l : i < j) : f.1 * g.2 < g.1 * f.2 := by
  obtain ⟨li, ei⟩ := List.getElem?_eq_some_iff.mp hi
  obtain ⟨lj, ej⟩ := List.getElem?_eq_some_iff.mp hj
  have := (List.pairwise_iff_getElem.mp h.srt) i j li lj l
  rw [ei, ej] at this
  exact this
theorem cut_some {E : List Fr} {p : Nat} (h : p < 2 * E.length) : ∃ f, E[p / 2]? = some f ∧ cut E p = some (f.1, f.2, ((p % 2 : Nat) : Int)) := by
  have hl : p / 2 < E.length := by omega
  exact ⟨E[p / 2], List.getElem?_eq_getElem hl, by unfold cut; rw [List.getElem?_eq_getElem hl]; rfl⟩
theorem cut_none {E : List Fr} {p : Nat} (h : 2 * E.length ≤ p) : cut E p = none := by
  unfold cut
  rw [List.getElem?_eq_none (by omega)]
  rfl
theorem cl_cut {E : List Fr} (h : Ends E) {p q : Nat} (hp : p ≤ 2 * E.length) (hq : q ≤ 2 * E.length) : cl (cut E p) (cut E q) = decide (p < q) := by
  by_cases hp2 : p < 2 * E.length
  · obtain ⟨f, hf, ef⟩ := cut_some hp2
    rw [ef]
    by_cases hq2 : q < 2 * E.length
    · obtain ⟨g, hg, eg⟩ := cut_some hq2
      rw [eg]
      show (if f.1 * g.2 ≠ g.1 * f.2 then decide (f.1 * g.2 < g.1 * f.2) else decide (((p % 2 : Nat) : Int) < ((q % 2 : Nat) : Int))) = _
      rcases Nat.lt_trichotomy (p / 2) (q / 2) with l | l | l
      · have := h.lt hf hg l
        rw [if_pos (by omega), decide_eq_true this, decide_eq_true (by omega)]
      · rw [l, hg] at hf
        cases hf
        rw [if_neg (by simp)]
        exact decide_eq_decide.mpr (by omega)
      · have := h.lt hg hf l
        rw [if_pos (by omega), decide_eq_false (by omega), decide_eq_false (by omega)]
    · rw [cut_none (by omega : 2 * E.length ≤ q)]
      exact (decide_eq_true (by omega)).symm
  · rw [cut_none (by omega : 2 * E.length ≤ p)]
    exact (decide_eq_false (by omega)).symm
/-- the value n / d lies in the cell c -/
structure Loc (E : List Fr) (c : Nat) (n d : Int) : Prop where
  hc : c < 2 * E.length
  n0 : 0 ≤ n
  d1 : 1 ≤ d
  sn : Sm n
  sd : Sm d
  bef : ∀ p, p < 2 * E.length → cl (some (n, d, 0)) (cut E p) = decide (c < p)
  aft : ∀ q, q < 2 * E.length → cl (cut E q) (some (n, d, 1)) = decide (q ≤ c)
theorem Ends.posAt {E : List Fr} (h : Ends E) {i : Nat} {f : Fr} (hi : E[i]? = some f) : 0 ≤ f.1 ∧ f.1 < Lim ∧ 1 ≤ f.2 ∧ f.2 < Lim := h.pos f (List.mem_of_getElem? hi)
theorem mul_lt_left {a b c : Int} (h : a < b) (hc : 0 < c) : c * a < c * b := Int.mul_lt_mul_of_pos_left h hc
/-- n/d against an end: by what is known of its neighbours -/
theorem loc_even {E : List Fr} (h : Ends E) {k : Nat} {f : Fr} (hk : E[k]? = some f) {u : Int} (hu : 1 ≤ u) (s1 : Sm (f.1 * u)) (s2 : Sm (f.2 * u)) : Loc E (2 * k) (f.1 * u) (f.2 * u) := by
  have hl := (List.getElem?_eq_some_iff.mp hk).1
  obtain ⟨f0, _, f1, _⟩ := h.posAt hk
  refine ⟨by omega, Int.mul_nonneg f0 (by omega), ?_, s1, s2, fun p hp => ?_, fun p hp => ?_⟩
  · have := Int.mul_pos (show 0 < f.2 by omega) (show 0 < u by omega)
    omega
  · obtain ⟨g, hg, eg⟩ := cut_some hp
    obtain ⟨g0, _, g1, _⟩ := h.posAt hg
    rw [eg]
    show (if f.1 * u * g.2 ≠ g.1 * (f.2 * u) then decide (f.1 * u * g.2 < g.1 * (f.2 * u)) else decide ((0 : Int) < ((p % 2 : Nat) : Int))) = _
    have e1 : f.1 * u * g.2 = u * (f.1 * g.2) := by rw [Int.mul_comm f.1 u, Int.mul_assoc]
    have e2 : g.1 * (f.2 * u) = u * (g.1 * f.2) := by rw [Int.mul_comm f.2 u, ← Int.mul_assoc, Int.mul_comm g.1 u, Int.mul_assoc]
    rw [e1, e2]
    rcases Nat.lt_trichotomy k (p / 2) with l | l | l
    · have := mul_lt_left (c := u) (h.lt hk hg l) (by omega)
      rw [if_pos (by omega), decide_eq_true this, decide_eq_true (by omega)]
    · rw [← l, hk] at hg
      cases hg
      rw [if_neg (by simp)]
      exact decide_eq_decide.mpr (by omega)
    · have := mul_lt_left (c := u) (h.lt hg hk l) (by omega)
      rw [if_pos (by omega), decide_eq_false (by omega), decide_eq_false (by omega)]
  · obtain ⟨g, hg, eg⟩ := cut_some hp
    obtain ⟨g0, _, g1, _⟩ := h.posAt hg
    rw [eg]
    show (if g.1 * (f.2 * u) ≠ f.1 * u * g.2 then decide (g.1 * (f.2 * u) < f.1 * u * g.2) else decide (((p % 2 : Nat) : Int) < 1)) = _
    have e1 : f.1 * u * g.2 = u * (f.1 * g.2) := by rw [Int.mul_comm f.1 u, Int.mul_assoc]
    have e2 : g.1 * (f.2 * u) = u * (g.1 * f.2) := by rw [Int.mul_comm f.2 u, ← Int.mul_assoc, Int.mul_comm g.1 u, Int.mul_assoc]
    rw [e1, e2]
    rcases Nat.lt_trichotomy k (p / 2) with l | l | l
    · have := mul_lt_left (c := u) (h.lt hk hg l) (by omega)
      rw [if_pos (by omega), decide_eq_false (by omega), decide_eq_false (by omega)]
    · rw [← l, hk] at hg
      cases hg
      rw [if_neg (by simp)]
      exact decide_eq_decide.mpr (by omega)
    · have := mul_lt_left (c := u) (h.lt hg hk l) (by omega)
      rw [if_pos (by omega), decide_eq_true (by omega), decide_eq_true (by omega)]
/-- between two ends -/
theorem loc_odd {E : List Fr} (h : Ends E) {k : Nat} {f : Fr} (hk : E[k]? = some f) {n d : Int} (n0 : 0 ≤ n) (d1 : 1 ≤ d) (s1 : Sm n) (s2 : Sm d) (lo : f.1 * d < n * f.2) (hi : ∀ g, E[k + 1]? = some g → n * g.2 < g.1 * d) : Loc E (2 * k + 1) n d := by
  have hl := (List.getElem?_eq_some_iff.mp hk).1
  have tr : ∀ {a b c x y z : Int}, 0 ≤ a → 0 < b → 0 < y → 0 < z → a * y ≤ c * b → c * z < x * y → 0 < b → a * z < x * b := by
    intro a b c x y z h0 hb hy hz h1 h2 _
    have g1 : z * (a * y) ≤ z * (c * b) := Int.mul_le_mul_of_nonneg_left h1 (by omega)
    have g2 : b * (c * z) < b * (x * y) := mul_lt_left h2 hb
    have e1 : z * (c * b) = b * (c * z) := by rw [← Int.mul_assoc, Int.mul_comm z c, Int.mul_comm (c * z) b]
    have e2 : z * (a * y) = y * (a * z) := by rw [← Int.mul_assoc, Int.mul_comm z a, Int.mul_comm (a * z) y]
    have e3 : b * (x * y) = y * (x * b) := by rw [← Int.mul_assoc, Int.mul_comm b x, Int.mul_comm (x * b) y]
    have g3 : y * (a * z) < y * (x * b) := by omega
    exact Int.lt_of_mul_lt_mul_left g3 (by omega)
  have below : ∀ (i : Nat) g, E[i]? = some g → i ≤ k → g.1 * d < n * g.2 := fun i g hg hi => by
    obtain ⟨g0, _, g1, _⟩ := h.posAt hg
    obtain ⟨f0, _, f1, _⟩ := h.posAt hk
    rcases Nat.lt_or_ge i k with l | l
    · have := h.lt hg hk l
      exact tr (a := g.1) (b := g.2) (c := f.1) (x := n) (y := f.2) (z := d) g0 (by omega) (by omega) (by omega) (by omega) lo (by omega)
    · have e : i = k := by omega
      subst e
      rw [hk] at hg
      cases hg
      exact lo
  have above : ∀ (i : Nat) g, E[i]? = some g → k < i → n * g.2 < g.1 * d := fun i g hg hi' => by
    obtain ⟨g0, _, g1, _⟩ := h.posAt hg
    have hl2 : k + 1 < E.length := by have := (List.getElem?_eq_some_iff.mp hg).1; omega
    have hn := hi E[k + 1] (List.getElem?_eq_getElem hl2)
    obtain ⟨q0, _, q1, _⟩ := h.posAt (List.getElem?_eq_getElem hl2)
    rcases Nat.lt_or_ge (k + 1) i with l | l
    · have := h.lt (List.getElem?_eq_getElem hl2) hg l
      exact tr (a := n) (b := d) (c := E[k + 1].1) (x := g.1) (y := E[k + 1].2) (z := g.2) n0 (by omega) (by omega) (by omega) (by omega) this (by omega)
    · have e : i = k + 1 := by omega
      subst e
      rw [List.getElem?_eq_getElem hl2] at hg
      cases hg
      exact hn
  refine ⟨by omega, n0, d1, s1, s2, fun p hp => ?_, fun p hp => ?_⟩
  · obtain ⟨g, hg, eg⟩ := cut_some hp
    rw [eg]
    show (if n * g.2 ≠ g.1 * d then decide (n * g.2 < g.1 * d) else decide ((0 : Int) < ((p % 2 : Nat) : Int))) = _
    rcases Nat.lt_or_ge k (p / 2) with l | l
    · have := above _ g hg l
      rw [if_pos (by omega), decide_eq_true this, decide_eq_true (by omega)]
    · have := below _ g hg l
      rw [if_pos (by omega), decide_eq_false (by omega), decide_eq_false (by omega)]
  · obtain ⟨g, hg, eg⟩ := cut_some hp
    rw [eg]
    show (if g.1 * d ≠ n * g.2 then decide (g.1 * d < n * g.2) else decide (((p % 2 : Nat) : Int) < 1)) = _
    rcases Nat.lt_or_ge k (p / 2) with l | l
    · have := above _ g hg l
      rw [if_pos (by omega), decide_eq_false (by omega), decide_eq_false (by omega)]
    · have := below _ g hg l
      rw [if_pos (by omega), decide_eq_true this, decide_eq_true (by omega)]
/-! ### data -/
abbrev frD (f : Fr) : PyData := .tuple [.int f.1, .int f.2]
abbrev cuD : Option Cut → PyData
  | none => .none
  | some a => .tuple [.int a.1, .int a.2.1, .int a.2.2]
/-- a stretch from the cut p to the cut q -/
abbrev stC (lo : Cut) (hi : Option Cut) : PyData := .tuple [.tuple [.int lo.1, .int lo.2.1], .bool (decide (lo.2.2 = 0)), (match hi with | none => .none | some b => .tuple [.int b.1, .int b.2.1]), .bool (match hi with | none => false | some b => decide (b.2.2 = 1))]
def stD (E : List Fr) (x : PQ) : PyData := stC ((cut E x.1).getD (0, 1, 0)) (cut E x.2)
def lsD (E : List Fr) (l : List PQ) : List PyData := l.map (stD E)
def OkL (E : List Fr) (l : List PQ) : Prop := ∀ x, x ∈ l → x.1 < x.2 ∧ x.2 ≤ 2 * E.length
theorem can_okL {E : List Fr} {l : List PQ} : ∀ {a : Nat}, Can a l → Top (2 * E.length) l → OkL E l := by
  induction l with
  | nil => intro a _ _ x hx; cases hx
  | cons y l ih =>
    intro a hc ht x hx
    obtain ⟨p, q⟩ := y
    obtain ⟨h1, h2, h3⟩ := hc
    rcases List.mem_cons.mp hx with e | hx
    · subst e; exact ⟨h2, ht _ List.mem_cons_self⟩
    · exact ih h3 (fun z hz => ht z (List.mem_cons_of_mem _ hz)) x hx
theorem cut_side {E : List Fr} {p : Nat} {c : Cut} (h : cut E p = some c) : c.2.2 = 0 ∨ c.2.2 = 1 := by
  unfold cut at h
  cases q : E[p / 2]? with
  | none => rw [q] at h; cases h
  | some f =>
    rw [q] at h
    cases h
    show ((p % 2 : Nat) : Int) = 0 ∨ ((p % 2 : Nat) : Int) = 1
    omega
theorem Sm_lim {x : Int} (h0 : 0 ≤ x) (h : x < Lim) : Sm x := by
  unfold Lim at h
  unfold Sm
  have : x.natAbs < 2 ^ 200 := by omega
  exact Nat.lt_trans this (Nat.pow_lt_pow_right (by decide) (by decide))
theorem cut_sm {E : List Fr} (h : Ends E) {p : Nat} {c : Cut} (hc : cut E p = some c) : Sm c.1 ∧ Sm c.2.1 := by
  unfold cut at hc
  cases q : E[p / 2]? with
  | none => rw [q] at hc; cases hc
  | some f =>
    rw [q] at hc
    cases hc
    obtain ⟨h1, h2, h3, h4⟩ := h.posAt q
    exact ⟨Sm_lim h1 h2, Sm_lim (by show 0 ≤ f.2; omega) h4⟩
theorem cut_getD {E : List Fr} {p : Nat} (h : p < 2 * E.length) : cut E p = some ((cut E p).getD (0, 1, 0)) := by
  obtain ⟨f, _, e⟩ := cut_some h
  rw [e]
  rfl
theorem cut_min {E : List Fr} (h : Ends E) {p q : Nat} (hp : p ≤ 2 * E.length) (hq : q ≤ 2 * E.length) : (if cl (cut E q) (cut E p) = true then cut E q else cut E p) = cut E (min p q) := by
  rw [cl_cut h hq hp]
  by_cases e : q < p
  · rw [if_pos (decide_eq_true e), Nat.min_eq_right (by omega)]
  · rw [if_neg (by simpa using e), Nat.min_eq_left (by omega)]
theorem cut_max {E : List Fr} (h : Ends E) {p q : Nat} (hp : p ≤ 2 * E.length) (hq : q ≤ 2 * E.length) : (if cl (cut E p) (cut E q) = true then cut E q else cut E p) = cut E (max p q) := by
  rw [cl_cut h hp hq]
  by_cases e : p < q
  · rw [if_pos (decide_eq_true e), Nat.max_eq_right (by omega)]
  · rw [if_neg (by simpa using e), Nat.max_eq_left (by omega)]
theorem lsD_get {E : List Fr} {l : List PQ} {i : Nat} {x : PQ} (h : l[i]? = some x) : atI (lsD E l) (i : Int) = some (stD E x) := atI_n (by rw [lsD, List.getElem?_map, h]; rfl)
theorem lsD_len {E : List Fr} {l : List PQ} : (lsD E l).length = l.length := List.length_map ..
theorem lsD_snoc {E : List Fr} {l : List PQ} {x : PQ} : lsD E l ++ [stD E x] = lsD E (l ++ [x]) := by rw [lsD, lsD, List.map_append]; rfl
theorem drop_at {α : Type} {l : List α} {i : Nat} {x : α} (h : l[i]? = some x) : l.drop i = x :: l.drop (i + 1) := by
  obtain ⟨hl, e⟩ := List.getElem?_eq_some_iff.mp h
  rw [List.drop_eq_getElem_cons hl, e]
def cuL (E : List Fr) (l : List PQ) : List PyData := l.map fun x => .tuple [cuD (cut E x.1), cuD (cut E x.2)]
theorem cuL_snoc {E : List Fr} {l : List PQ} {x : PQ} : cuL E l ++ [.tuple [cuD (cut E x.1), cuD (cut E x.2)]] = cuL E (l ++ [x]) := by rw [cuL, cuL, List.map_append]; rfl
theorem cuL_last {E : List Fr} {l : List PQ} {x : PQ} : atI (cuL E (l ++ [x])) (-1) = some (.tuple [cuD (cut E x.1), cuD (cut E x.2)]) := by
  rw [← cuL_snoc]
  exact atI_last _ _
theorem cut_zero {E : List Fr} (h : Ends E) : cut E 0 = some (0, 1, 0) := by
  unfold cut
  rw [h.fst]
  rfl
theorem Ends.ne {E : List Fr} (h : Ends E) : 0 < E.length := (List.getElem?_eq_some_iff.mp h.fst).1
theorem mergeP_len : ∀ {l m : List PQ}, (mergeP l m).length = l.length + m.length
  | [], m => by rw [mergeP_nil1]; simp
  | x :: l, [] => by rw [mergeP_nil2]; simp
  | x :: l, y :: m => by
    rw [mergeP_cons]
    split
    · rw [List.length_cons, mergeP_len]; simp; omega
    · rw [List.length_cons, mergeP_len]; simp; omega
termination_by l m => l.length + m.length
theorem mergeP_ok {E : List Fr} : ∀ {l m : List PQ}, OkL E l → OkL E m → OkL E (mergeP l m)
  | [], m, _, h => by rw [mergeP_nil1]; exact h
  | x :: l, [], h, _ => by rw [mergeP_nil2]; exact h
  | x :: l, y :: m, h, g => by
    rw [mergeP_cons]
    have h' : OkL E l := fun z hz => h z (List.mem_cons_of_mem _ hz)
    have g' : OkL E m := fun z hz => g z (List.mem_cons_of_mem _ hz)
    split
    · intro z hz
      rcases List.mem_cons.mp hz with e | hz
      · rw [e]; exact g y List.mem_cons_self
      · exact mergeP_ok h g' z hz
    · intro z hz
      rcases List.mem_cons.mp hz with e | hz
      · rw [e]; exact h x List.mem_cons_self
      · exact mergeP_ok h' g z hz
termination_by l m => l.length + m.length
theorem cutD_from {ds : List PyData} {i : Nat} (h : i ≤ ds.length) : cutD ds (some (i : Int)) none = ds.drop i := by
  unfold cutD
  rw [show HT.sIx ds.length 0 (some (i : Int)) = min i ds.length from HT.sIx_nat _ _ _, HT.sIx_none, Nat.min_eq_left h]
  exact List.take_of_length_le (by rw [List.length_drop]; omega)
/-- how join's list stands ahead of turn i -/
def JI (E : List Fr) (r : List PQ) (out : List PQ) (i : Nat) (acc : List PQ) : Prop := OkL E acc ∧ acc.length ≤ i ∧ ((i = 0 ∧ acc = []) ∨ ∃ a s e, acc = a ++ [(s, e)] ∧ a ++ joinF s e (r.drop i) = out)
end K39

namespace K39
open PySem L2 Dw
structure Bx where
  cells : List Int
  index : Int
  cell : Int
  left : Int
  count : Int
  seed : Int
  great : Bool
abbrev ky (s : String) : Key := .inr (PySem.Str.ofString s)
def Bx.kvs (x : Bx) : List (Key × PyData) := [(ky "cells", .list (x.cells.map .int)), (ky "index", .int x.index), (ky "cell", .int x.cell), (ky "left", .int x.left), (ky "count", .int x.count), (ky "seed", .int x.seed), (ky "great", .bool x.great)]
theorem bg1 {x : Bx} : lkD x.kvs (ky "cells") = some (.list (x.cells.map .int)) := by with_unfolding_all rfl
theorem bg2 {x : Bx} : lkD x.kvs (ky "index") = some (.int x.index) := by with_unfolding_all rfl
theorem bg3 {x : Bx} : lkD x.kvs (ky "cell") = some (.int x.cell) := by with_unfolding_all rfl
theorem bg4 {x : Bx} : lkD x.kvs (ky "left") = some (.int x.left) := by with_unfolding_all rfl
theorem bg5 {x : Bx} : lkD x.kvs (ky "count") = some (.int x.count) := by with_unfolding_all rfl
theorem bg6 {x : Bx} : lkD x.kvs (ky "seed") = some (.int x.seed) := by with_unfolding_all rfl
theorem bg7 {x : Bx} : lkD x.kvs (ky "great") = some (.bool x.great) := by with_unfolding_all rfl
theorem bp2 {x : Bx} {v : Int} : putD x.kvs (ky "index") (.int v) = ({ x with index := v } : Bx).kvs := by with_unfolding_all rfl
theorem bp3 {x : Bx} {v : Int} : putD x.kvs (ky "cell") (.int v) = ({ x with cell := v } : Bx).kvs := by with_unfolding_all rfl
theorem bp4 {x : Bx} {v : Int} : putD x.kvs (ky "left") (.int v) = ({ x with left := v } : Bx).kvs := by with_unfolding_all rfl
theorem bp5 {x : Bx} {v : Int} : putD x.kvs (ky "count") (.int v) = ({ x with count := v } : Bx).kvs := by with_unfolding_all rfl
theorem bp7 {x : Bx} {v : Bool} : putD x.kvs (ky "great") (.bool v) = ({ x with great := v } : Bx).kvs := by with_unfolding_all rfl
theorem blen {x : Bx} : x.kvs.length < sizeLine := by show 7 < sizeLine; decide
section
variable {K : PySem.W.Frag} {b : B} {s : S} {te ty tv' : TE} {Φ : Dw.A → S → Prop} {N : EE}
theorem ev_bg {x : Bx} {n : Nat} {key : String} {z : PyData} {i : Nat} (hi : s.ss[i]? = some (some (.o n))) (hk : s.os[n]? = some (.dK x.kvs)) (hz : lkD x.kvs (ky key) = some z) (q : Φ (.d z) s) : EV K b (tDGet (tVar i) (tC (.str (PySem.Str.ofString key)))) s Φ :=
  ev_dget (ev_var hi (ev_str ⟨n, _, ky key, z, rfl, hk, rfl, hz, q⟩))
theorem go_bp {x : Bx} {i n : Nat} {key : String} (hi : s.ss[i]? = some (some (.o n))) (hk : s.os[n]? = some (.dK x.kvs)) (h : EV K b tv' s fun z s1 => ∃ (d : PyData) (y : Bx), z = .d d ∧ s1 = s ∧ putD x.kvs (ky key) d = y.kvs ∧ N.nx (s.put n (.dK y.kvs))) : GO K b (sDPut (tVar i) (tC (.str (PySem.Str.ofString key))) tv') s N :=
  go_dput (fun σ H tv tl Hd ps R Q k => h σ H tv tl Hd ps R Q fun v H1 a s1 Hd1 ps1 h1 R1 a1 => by
    obtain ⟨d, y, rfl, rfl, e, q⟩ := h1
    refine k v H1 _ s1 Hd1 ps1 ?_ R1 a1
    exact ev_var hi (ev_str ⟨n, x.kvs, ky key, d, rfl, rfl, hk, rfl, blen, by rw [e]; exact q⟩))
theorem go_sbp {tx : TS} {x : Bx} {i n : Nat} {key : String} (hi : s.ss[i]? = some (some (.o n))) (hk : s.os[n]? = some (.dK x.kvs)) (h : EV K b tv' s fun z s1 => ∃ (d : PyData) (y : Bx), z = .d d ∧ s1 = s ∧ putD x.kvs (ky key) d = y.kvs ∧ GO K b tx (s.put n (.dK y.kvs)) N) : GO K b (tSeq (sDPut (tVar i) (tC (.str (PySem.Str.ofString key))) tv') tx) s N := go_seq (go_bp hi hk h)
theorem cmR {i j : Int} (h : -(2 ^ 64) < j ∧ j < 2 ^ 64) : CMul i j := .inr h
theorem cmL {i j : Int} (h : -(2 ^ 64) < i ∧ i < 2 ^ 64) : CMul i j := .inl h
theorem cdv {i j : Int} (h : 0 < j ∧ j < 2 ^ 63) : CDivW i j := fd64 h
theorem cpw {i j : Int} (h : 0 ≤ j ∧ j ≤ 1000000 ∧ i.natAbs < 2 ^ 64) : CPow i j := h
theorem put_hd {ss : List (Option Dw.A)} {c c' : C} {cs : List C} : (S.mk ss (c :: cs)).put 0 c' = S.mk ss (c' :: cs) := rfl
theorem go_rng {tx : TS} {g : TG} {t : TA} (h : EA K b t s fun as s1 => ∃ n : Nat, as = [.d (.int n)] ∧ n ≤ 1000000000 ∧ ∃ I : Nat → S → Prop, I 0 s1 ∧ (∀ i s2, i < n → I i s2 → GT K b g (.d (.int i)) s2 fun s3 => GO K b tx s3 ⟨I (i + 1), N.rt, N.nx, I (i + 1)⟩) ∧ ∀ s2, I n s2 → N.nx s2) : GO K b (tFor (iRng1 t) g tx) s N := by
  refine go_for (ei_r1 fun σ H tv tl Hd ps R Q k => h σ H tv tl Hd ps R Q fun vs H1 as s1 Hd1 ps1 h1 R1 a1 => k vs H1 as s1 Hd1 ps1 ?_ R1 a1)
  obtain ⟨n, rfl, hn, I, h0, hs, he⟩ := h1
  refine ⟨(n : Int), rfl, by omega, by omega, I, h0, fun _ _ _ _ => trivial, fun i x s2 hx hI => ?_, fun s2 hI => ?_⟩
  · obtain ⟨hi, rfl⟩ := rngD_get hx
    rw [Int.toNat_natCast] at hi
    rw [Int.zero_add]
    exact hs i s2 hi hI
  · rw [rngD_len, Int.toNat_natCast] at hI
    exact he s2 hI
theorem go_srng {tx ty : TS} {g : TG} {t : TA} (h : EA K b t s fun as s1 => ∃ n : Nat, as = [.d (.int n)] ∧ n ≤ 1000000000 ∧ ∃ I : Nat → S → Prop, I 0 s1 ∧ (∀ i s2, i < n → I i s2 → GT K b g (.d (.int i)) s2 fun s3 => GO K b tx s3 ⟨I (i + 1), N.rt, fun s3 => GO K b ty s3 N, I (i + 1)⟩) ∧ ∀ s2, I n s2 → GO K b ty s2 N) : GO K b (tSeq (tFor (iRng1 t) g tx) ty) s N := go_seq (go_rng h)
theorem at_ints {cs : List Int} {i : Int} (h0 : 0 ≤ i) (h1 : i < (((cs.map PyData.int).length : Nat) : Int)) : ∃ c : Int, atI (cs.map PyData.int) i = some (.int c) := by
  obtain ⟨k, rfl⟩ : ∃ k : Nat, i = k := ⟨i.toNat, by omega⟩
  rw [List.length_map] at h1
  refine ⟨cs[k]'(by omega), atI_n ?_⟩
  rw [List.getElem?_map, List.getElem?_eq_getElem (by omega)]
  rfl
end
end K39

namespace K39
open PySem L2 Dw
theorem two_mod {h l : Nat} (g : l ≤ h) (p : 0 < l) : 2 * (h % l) ≤ h := by
  have h1 := Nat.mod_lt h p
  have h2 := Nat.div_add_mod h l
  have h3 : 1 ≤ h / l := (Nat.one_le_div_iff p).mpr g
  have h4 : l * 1 ≤ l * (h / l) := Nat.mul_le_mul_left l h3
  omega
/-- how Euclid's pair stands after i turns -/
def Eu (G i h l : Nat) : Prop := Nat.gcd h l = G ∧ h < 10 ^ 40 ∧ l < 10 ^ 40 ∧ (i = 0 ∨ l < h ∧ h * l * 2 ^ i ≤ 2 * 10 ^ 80)
theorem eu_step {G i h l : Nat} (e : Eu G i h l) (hl : l ≠ 0) : Eu G (i + 1) l (h % l) := by
  obtain ⟨h1, h2, h3, h4⟩ := e
  have p : 0 < l := by omega
  have hm := Nat.mod_lt h p
  refine ⟨?_, h3, by omega, .inr ⟨hm, ?_⟩⟩
  · rw [← h1, Nat.gcd_comm h l, Nat.gcd_rec l h, Nat.gcd_comm]
  · rcases h4 with h4 | ⟨h4, h5⟩
    · subst h4
      have : l * (h % l) ≤ 10 ^ 40 * 10 ^ 40 := Nat.mul_le_mul (by omega) (by omega)
      omega
    · have t := two_mod (Nat.le_of_lt h4) p
      have : l * (h % l) * 2 ^ (i + 1) = l * (2 * (h % l)) * 2 ^ i := by
        rw [Nat.pow_succ, Nat.mul_comm (2 ^ i) 2, ← Nat.mul_assoc, Nat.mul_assoc l, Nat.mul_comm (h % l) 2]
      rw [this]
      have a : l * (2 * (h % l)) ≤ l * h := Nat.mul_le_mul_left l t
      have c : l * (2 * (h % l)) * 2 ^ i ≤ l * h * 2 ^ i := Nat.mul_le_mul_right _ a
      rw [Nat.mul_comm l h] at c
      omega
theorem eu_end {G h l : Nat} (e : Eu G 400 h l) : l = 0 := by
  obtain ⟨_, _, _, h4⟩ := e
  rcases h4 with h4 | ⟨h4, h5⟩
  · cases h4
  · apply Decidable.byContradiction
    intro z
    have : 1 * 1 ≤ h * l := Nat.mul_le_mul (by omega) (by omega)
    have : 1 * 2 ^ 400 ≤ h * l * 2 ^ 400 := Nat.mul_le_mul_right _ (by omega)
    omega
theorem eu_zero {G i h : Nat} (e : Eu G i h 0) : h = G := by
  have := e.1
  rw [Nat.gcd_zero_right] at this
  exact this
theorem fr_trans {a b c : Fr} (ha : 1 ≤ a.2) (hb : 1 ≤ b.2) (hc : 1 ≤ c.2) (h1 : a.1 * b.2 < b.1 * a.2) (h2 : b.1 * c.2 < c.1 * b.2) : a.1 * c.2 < c.1 * a.2 := by
  have g1 : c.2 * (a.1 * b.2) < c.2 * (b.1 * a.2) := mul_lt_left h1 (by omega)
  have g2 : a.2 * (b.1 * c.2) < a.2 * (c.1 * b.2) := mul_lt_left h2 (by omega)
  have e1 : c.2 * (b.1 * a.2) = a.2 * (b.1 * c.2) := by rw [Int.mul_comm b.1 a.2, ← Int.mul_assoc, Int.mul_comm c.2 a.2, Int.mul_assoc, Int.mul_comm c.2 b.1]
  have e2 : c.2 * (a.1 * b.2) = b.2 * (a.1 * c.2) := by rw [← Int.mul_assoc, Int.mul_comm c.2 a.1, Int.mul_comm (a.1 * c.2) b.2]
  have e3 : a.2 * (c.1 * b.2) = b.2 * (c.1 * a.2) := by rw [← Int.mul_assoc, Int.mul_comm a.2 c.1, Int.mul_comm (c.1 * a.2) b.2]
  have g3 : b.2 * (a.1 * c.2) < b.2 * (c.1 * a.2) := by omega
  exact Int.lt_of_mul_lt_mul_left g3 (by omega)
theorem dvd_cop {k m n : Int} (g : Int.gcd m k = 1) (h : k ∣ m * n) : k ∣ n := by
  have h1 : k.natAbs ∣ m.natAbs * n.natAbs := by rw [← Int.natAbs_mul]; exact Int.natAbs_dvd_natAbs.mpr h
  have h2 : Nat.Coprime k.natAbs m.natAbs := by rw [Nat.coprime_comm]; exact g
  exact Int.natAbs_dvd_natAbs.mp (h2.dvd_of_dvd_mul_left h1)
theorem low_eq {a b : Fr} (ha : 1 ≤ a.2) (hb : 1 ≤ b.2) (ga : Int.gcd a.1 a.2 = 1) (gb : Int.gcd b.1 b.2 = 1) (h : a.1 * b.2 = b.1 * a.2) : a = b := by
  have d1 : a.2 ∣ b.2 := by
    have : a.2 ∣ a.1 * b.2 := ⟨b.1, by rw [h, Int.mul_comm]⟩
    exact dvd_cop ga this
  have d2 : b.2 ∣ a.2 := by
    have : b.2 ∣ b.1 * a.2 := ⟨a.1, by rw [← h, Int.mul_comm]⟩
    exact dvd_cop gb this
  have e : a.2 = b.2 := by
    have := Int.le_of_dvd (by omega) d1
    have := Int.le_of_dvd (by omega) d2
    omega
  have e1 : a.1 = b.1 := by
    rw [e] at h
    exact Int.eq_of_mul_eq_mul_right (by omega) h
  obtain ⟨a1, a2⟩ := a
  obtain ⟨b1, b2⟩ := b
  dsimp only at e e1
  rw [e, e1]
structure Fok (e : Fr) : Prop where
  n0 : 0 ≤ e.1
  n1 : e.1 < Lim
  d0 : 1 ≤ e.2
  d1 : e.2 < Lim
  gc : Int.gcd e.1 e.2 = 1
theorem Ends.fok {E : List Fr} (h : Ends E) {i : Nat} {f : Fr} (hi : E[i]? = some f) : Fok f := by
  obtain ⟨a, b, c, d⟩ := h.posAt hi
  exact ⟨a, b, c, d, h.low f (List.mem_of_getElem? hi)⟩
theorem ends_ins {E : List Fr} {e : Fr} {k : Nat} (h : Ends E) (he : Fok e) (hk : k ≤ E.length) (k1 : 1 ≤ k) (lo : ∀ j f, j < k → E[j]? = some f → f.1 * e.2 < e.1 * f.2) (hi : ∀ f, E[k]? = some f → e.1 * f.2 < f.1 * e.2) : Ends (E.take k ++ [e] ++ E.drop k) := by
  have memT : ∀ f, f ∈ E.take k → ∃ j, j < k ∧ E[j]? = some f := fun f hf => by
    obtain ⟨j, hj⟩ := List.getElem?_of_mem hf
    have hl := (List.getElem?_eq_some_iff.mp hj).1
    rw [List.length_take] at hl
    refine ⟨j, by omega, ?_⟩
    rw [List.getElem?_take_of_lt (by omega)] at hj
    exact hj
  have memD : ∀ f, f ∈ E.drop k → ∃ j, k ≤ j ∧ E[j]? = some f := fun f hf => by
    obtain ⟨j, hj⟩ := List.getElem?_of_mem hf
    rw [List.getElem?_drop] at hj
    exact ⟨k + j, by omega, hj⟩
  have above : ∀ f, f ∈ E.drop k → e.1 * f.2 < f.1 * e.2 := fun f hf => by
    obtain ⟨j, h1, h2⟩ := memD f hf
    have hl := (List.getElem?_eq_some_iff.mp h2).1
    have hE := hi E[k] (List.getElem?_eq_getElem (by omega))
    rcases Nat.lt_or_ge k j with l | l
    · have fk := h.fok (List.getElem?_eq_getElem (show k < E.length by omega))
      have ff := h.fok h2
      exact fr_trans he.d0 fk.d0 ff.d0 hE (h.lt (List.getElem?_eq_getElem (by omega)) h2 l)
    · have : k = j := by omega
      subst this
      exact hi f h2
  refine ⟨fun f hf => ?_, ?_, fun f hf => ?_, ?_⟩
  · rcases List.mem_append.mp hf with hf | hf
    · rcases List.mem_append.mp hf with hf | hf
      · exact h.pos f (List.mem_of_mem_take hf)
      · rw [List.mem_singleton.mp hf]; exact ⟨he.n0, he.n1, he.d0, he.d1⟩
    · exact h.pos f (List.mem_of_mem_drop hf)
  · rw [List.append_assoc, List.pairwise_append]
    refine ⟨h.srt.sublist (List.take_sublist _ _), ?_, fun a ha c hc => ?_⟩
    · show List.Pairwise _ (e :: E.drop k)
      exact List.pairwise_cons.mpr ⟨above, h.srt.sublist (List.drop_sublist _ _)⟩
    · obtain ⟨j, j1, j2⟩ := memT a ha
      rcases List.mem_append.mp hc with hc | hc
      · rw [List.mem_singleton.mp hc]; exact lo j a j1 j2
      · obtain ⟨j', q1, q2⟩ := memD c hc
        exact h.lt j2 q2 (by omega)
  · rcases List.mem_append.mp hf with hf | hf
    · rcases List.mem_append.mp hf with hf | hf
      · exact h.low f (List.mem_of_mem_take hf)
      · rw [List.mem_singleton.mp hf]; exact he.gc
    · exact h.low f (List.mem_of_mem_drop hf)
  · have hl := h.ne
    rw [List.append_assoc, List.getElem?_append_left (by rw [List.length_take]; omega), List.getElem?_take_of_lt (by omega)]
    exact h.fst
theorem lowest_fok {n d : Int} (n0 : 0 ≤ n) (n1 : n < Lim) (d0 : 1 ≤ d) (d1 : d < Lim) : Fok (n / (Int.gcd n d : Int), d / (Int.gcd n d : Int)) := by
  have hg : 0 < Int.gcd n d := Int.gcd_pos_of_ne_zero_right n (by omega)
  have hg' : (0 : Int) < (Int.gcd n d : Int) := by omega
  have hle : (Int.gcd n d : Int) ≤ d := Int.le_of_dvd (by omega) (Int.gcd_dvd_right ..)
  refine ⟨Int.ediv_nonneg n0 (by omega), ?_, ?_, ?_, ?_⟩
  · exact Int.lt_of_le_of_lt (Int.ediv_le_self _ n0) n1
  · show 1 ≤ d / (Int.gcd n d : Int)
    exact (Int.le_ediv_iff_mul_le hg').mpr (by omega)
  · exact Int.lt_of_le_of_lt (Int.ediv_le_self _ (by omega)) d1
  · exact Int.gcd_ediv_gcd_ediv_gcd hg
theorem Fok.sm {e : Fr} (h : Fok e) : Sm e.1 ∧ Sm e.2 := ⟨Sm_lim h.n0 h.n1, Sm_lim (by have := h.d0; omega) h.d1⟩
def frL (E : List Fr) : List PyData := E.map frD
theorem frL_get {E : List Fr} {i : Nat} {f : Fr} (h : E[i]? = some f) : atI (frL E) (i : Int) = some (frD f) := atI_n (by rw [frL, List.getElem?_map, h]; rfl)
theorem frL_len {E : List Fr} : (frL E).length = E.length := List.length_map ..
theorem eqv_fr {a b : Fr} : PyData.eqv (frD a) (frD b) = decide (a = b) := by
  obtain ⟨a1, a2⟩ := a
  obtain ⟨b1, b2⟩ := b
  show (decide (a1 = b1) && (decide (a2 = b2) && true)) = _
  by_cases e1 : a1 = b1 <;> by_cases e2 : a2 = b2 <;> simp [e1, e2]
theorem cutD_to {ds : List PyData} {i : Nat} (h : i ≤ ds.length) : cutD ds none (some (i : Int)) = ds.take i := by
  unfold cutD
  rw [show HT.sIx ds.length ds.length (some (i : Int)) = min i ds.length from HT.sIx_nat _ _ _, HT.sIx_none, Nat.min_eq_left h]
  rfl
def bL (bs : List Bool) : List PyData := bs.map .bool
theorem bL_get {bs : List Bool} {i : Nat} {x : Bool} (h : bs[i]? = some x) : atI (bL bs) (i : Int) = some (.bool x) := atI_n (by rw [bL, List.getElem?_map, h]; rfl)
theorem bL_len {bs : List Bool} : (bL bs).length = bs.length := List.length_map ..
theorem bL_snoc {bs : List Bool} {x : Bool} : bL bs ++ [.bool x] = bL (bs ++ [x]) := by rw [bL, bL, List.map_append]; rfl
def loD (E : List Fr) : Option Nat → PyData
  | none => .none
  | some p => .tuple [frD ((E[p / 2]?).getD (0, 1)), .bool (decide (p % 2 = 0))]
theorem st_row {E : List Fr} {p q : Nat} {f : Fr} (hp : p < 2 * E.length) (hq : E[q / 2]? = some f) : stD E (p, q) = .tuple [frD ((E[p / 2]?).getD (0, 1)), .bool (decide (p % 2 = 0)), frD f, .bool (decide (q % 2 = 1))] := by
  obtain ⟨g, hg, eg⟩ := cut_some hp
  have hl := (List.getElem?_eq_some_iff.mp hq).1
  obtain ⟨g', hg', eg'⟩ := cut_some (E := E) (p := q) (by omega)
  rw [hq] at hg'
  cases hg'
  unfold stD
  dsimp only
  rw [eg, eg', hg]
  show PyData.tuple [frD g, .bool (decide (((p % 2 : Nat) : Int) = 0)), frD f, .bool (decide (((q % 2 : Nat) : Int) = 1))] = .tuple [frD g, .bool (decide (p % 2 = 0)), frD f, .bool (decide (q % 2 = 1))]
  have e1 : decide (((p % 2 : Nat) : Int) = 0) = decide (p % 2 = 0) := decide_eq_decide.mpr (by omega)
  have e2 : decide (((q % 2 : Nat) : Int) = 1) = decide (q % 2 = 1) := decide_eq_decide.mpr (by omega)
  rw [e1, e2]
theorem st_top {E : List Fr} {p q : Nat} (hp : p < 2 * E.length) (hq : 2 * E.length ≤ q) : stD E (p, q) = .tuple [frD ((E[p / 2]?).getD (0, 1)), .bool (decide (p % 2 = 0)), .none, .bool false] := by
  obtain ⟨g, hg, eg⟩ := cut_some hp
  unfold stD
  dsimp only
  rw [eg, cut_none hq, hg]
  show PyData.tuple [frD g, .bool (decide (((p % 2 : Nat) : Int) = 0)), .none, .bool false] = .tuple [frD g, .bool (decide (p % 2 = 0)), .none, .bool false]
  have e1 : decide (((p % 2 : Nat) : Int) = 0) = decide (p % 2 = 0) := decide_eq_decide.mpr (by omega)
  rw [e1]
theorem can_len {N : Nat} : ∀ {l : List PQ} {a : Nat}, Can a l → Top N l → l.length ≤ N - a
  | [], _, _, _ => Nat.zero_le _
  | (p, q) :: l, a, ⟨h1, h2, h3⟩, ht => by
    have := can_len h3 fun x hx => ht x (List.mem_cons_of_mem _ hx)
    have : q ≤ N := ht (p, q) List.mem_cons_self
    rw [List.length_cons]
    omega
structure Fit (E : List Fr) (l : List PQ) : Prop where
  ok : OkL E l
  can : Can 0 l
  top : Top (2 * E.length) l
  len : l.length ≤ 2 * E.length
theorem fit_of {E : List Fr} {l : List PQ} (h : Can 0 l) (t : Top (2 * E.length) l) : Fit E l := ⟨can_okL h t, h, t, can_len h t⟩
theorem fit_form {E : List Fr} {bs : List Bool} (h : bs.length = 2 * E.length) : Fit E (formP bs) := fit_of (form_can bs) (by rw [← h]; exact form_top bs)
theorem Fit.meet {E : List Fr} {l m : List PQ} (h : Fit E l) (g : Fit E m) : Fit E (meetP l m) := fit_of (meet_can h.can g.can) (meet_top h.top g.top)
theorem Fit.join {E : List Fr} {l m : List PQ} (h : Fit E l) (g : Fit E m) : Fit E (joinP l m) := fit_of (join_can h.can g.can) (join_top h.top g.top)
theorem sm_b {x : Int} (h0 : 0 ≤ x) (h : x < 10 ^ 100) : Sm x := by
  unfold Sm
  have : x.natAbs < 2 ^ 400 := by
    have : x.natAbs < 10 ^ 100 := by omega
    exact Nat.lt_trans this (by decide)
  exact Nat.lt_trans this (Nat.pow_lt_pow_right (by decide) (by decide))
theorem mul_bd {a c x y : Int} (h0 : 0 ≤ a) (h1 : a ≤ x) (h2 : 0 ≤ c) (h3 : c ≤ y) : 0 ≤ a * c ∧ a * c ≤ x * y := ⟨Int.mul_nonneg h0 h2, Int.mul_le_mul h1 h3 h2 (by omega)⟩
theorem loc_last {E : List Fr} (h : Ends E) {k : Nat} {f : Fr} (hk : E[k]? = some f) (hl : k + 1 = E.length) {w u : Int} (w1 : 1 ≤ w) (w2 : w ≤ 10 ^ 30) (u1 : 1 ≤ u) (u2 : u ≤ 9) : Loc E (2 * k + 1) ((f.1 * w + 1) * u) (f.2 * w * u) := by
  obtain ⟨a0, a1, b0, b1⟩ := h.posAt hk
  unfold Lim at a1 b1
  have p1 := mul_bd a0 (show f.1 ≤ 10 ^ 40 by omega) (show 0 ≤ w by omega) w2
  have p2 := mul_bd (show 0 ≤ f.2 by omega) (show f.2 ≤ 10 ^ 40 by omega) (show 0 ≤ w by omega) w2
  have p3 := mul_bd (show 0 ≤ f.1 * w + 1 by omega) (show f.1 * w + 1 ≤ 10 ^ 71 by omega) (show 0 ≤ u by omega) u2
  have p4 := mul_bd (show 0 ≤ f.2 * w by omega) (show f.2 * w ≤ 10 ^ 71 by omega) (show 0 ≤ u by omega) u2
  have q1 : 0 < f.2 * w * u := Int.mul_pos (Int.mul_pos (by omega) (by omega)) (by omega)
  refine loc_odd h hk p3.1 (by omega) (sm_b p3.1 (by omega)) (sm_b p4.1 (by omega)) ?_ fun g hg => ?_
  · have e1 : f.1 * (f.2 * w * u) = f.2 * u * (f.1 * w) := by
      rw [← Int.mul_assoc, ← Int.mul_assoc, Int.mul_comm f.1 f.2, Int.mul_assoc f.2 f.1 w, Int.mul_assoc, Int.mul_comm (f.1 * w) u, ← Int.mul_assoc]
    have e2 : (f.1 * w + 1) * u * f.2 = f.2 * u * (f.1 * w) + f.2 * u := by
      rw [Int.mul_assoc, Int.mul_comm, Int.mul_comm u f.2, Int.mul_add, Int.mul_one]
    have : 0 < f.2 * u := Int.mul_pos (by omega) (by omega)
    omega
  · have := (List.getElem?_eq_some_iff.mp hg).1
    omega
theorem loc_med {E : List Fr} (h : Ends E) {k : Nat} {f g : Fr} (hk : E[k]? = some f) (hg : E[k + 1]? = some g) {a c u : Int} (a1 : 1 ≤ a) (a2 : a ≤ 10 ^ 30) (c1 : 1 ≤ c) (c2 : c ≤ 10 ^ 30) (u1 : 1 ≤ u) (u2 : u ≤ 9) : Loc E (2 * k + 1) ((f.1 * a + g.1 * c) * u) ((f.2 * a + g.2 * c) * u) := by
  obtain ⟨x0, x1, y0, y1⟩ := h.posAt hk
  obtain ⟨z0, z1, w0, w1⟩ := h.posAt hg
  have lt := h.lt hk hg (Nat.lt_succ_self k)
  unfold Lim at x1 y1 z1 w1
  have p1 := mul_bd x0 (show f.1 ≤ 10 ^ 40 by omega) (show 0 ≤ a by omega) a2
  have p2 := mul_bd (show 0 ≤ f.2 by omega) (show f.2 ≤ 10 ^ 40 by omega) (show 0 ≤ a by omega) a2
  have p3 := mul_bd z0 (show g.1 ≤ 10 ^ 40 by omega) (show 0 ≤ c by omega) c2
  have p4 := mul_bd (show 0 ≤ g.2 by omega) (show g.2 ≤ 10 ^ 40 by omega) (show 0 ≤ c by omega) c2
  have p5 := mul_bd (show 0 ≤ f.1 * a + g.1 * c by omega) (show f.1 * a + g.1 * c ≤ 10 ^ 71 by omega) (show 0 ≤ u by omega) u2
  have p6 := mul_bd (show 0 ≤ f.2 * a + g.2 * c by omega) (show f.2 * a + g.2 * c ≤ 10 ^ 71 by omega) (show 0 ≤ u by omega) u2
  have q0 : 0 < f.2 * a := Int.mul_pos (by omega) (by omega)
  have q1 : 0 < (f.2 * a + g.2 * c) * u := Int.mul_pos (by omega) (by omega)
  have base : f.1 * (f.2 * a + g.2 * c) < (f.1 * a + g.1 * c) * f.2 := by
    have e1 : f.1 * (f.2 * a + g.2 * c) = f.1 * f.2 * a + c * (f.1 * g.2) := by rw [Int.mul_add, ← Int.mul_assoc, ← Int.mul_assoc, Int.mul_comm (f.1 * g.2) c]
    have e2 : (f.1 * a + g.1 * c) * f.2 = f.1 * f.2 * a + c * (g.1 * f.2) := by rw [Int.add_mul, Int.mul_assoc f.1 a f.2, Int.mul_comm a f.2, ← Int.mul_assoc, Int.mul_comm g.1 c, Int.mul_assoc c]
    have := mul_lt_left lt (show 0 < c by omega)
    omega
  have base2 : (f.1 * a + g.1 * c) * g.2 < g.1 * (f.2 * a + g.2 * c) := by
    have e1 : (f.1 * a + g.1 * c) * g.2 = a * (f.1 * g.2) + g.1 * g.2 * c := by rw [Int.add_mul, Int.mul_comm f.1 a, Int.mul_assoc, Int.mul_assoc g.1 c g.2, Int.mul_comm c g.2, ← Int.mul_assoc g.1]
    have e2 : g.1 * (f.2 * a + g.2 * c) = a * (g.1 * f.2) + g.1 * g.2 * c := by rw [Int.mul_add, ← Int.mul_assoc, ← Int.mul_assoc, Int.mul_comm (g.1 * f.2) a]
    have := mul_lt_left lt (show 0 < a by omega)
    omega
  refine loc_odd h hk p5.1 (by omega) (sm_b p5.1 (by omega)) (sm_b p6.1 (by omega)) ?_ fun g' hg' => ?_
  · have := mul_lt_left base (show 0 < u by omega)
    have e1 : f.1 * ((f.2 * a + g.2 * c) * u) = u * (f.1 * (f.2 * a + g.2 * c)) := by rw [← Int.mul_assoc, Int.mul_comm]
    have e2 : (f.1 * a + g.1 * c) * u * f.2 = u * ((f.1 * a + g.1 * c) * f.2) := by rw [Int.mul_comm (f.1 * a + g.1 * c) u, Int.mul_assoc]
    omega
  · rw [hg] at hg'
    cases hg'
    have := mul_lt_left base2 (show 0 < u by omega)
    have e1 : g.1 * ((f.2 * a + g.2 * c) * u) = u * (g.1 * (f.2 * a + g.2 * c)) := by rw [← Int.mul_assoc, Int.mul_comm]
    have e2 : (f.1 * a + g.1 * c) * u * g.2 = u * ((f.1 * a + g.1 * c) * g.2) := by rw [Int.mul_comm (f.1 * a + g.1 * c) u, Int.mul_assoc]
    omega
theorem loc_ev {E : List Fr} (h : Ends E) {k : Nat} {f : Fr} (hk : E[k]? = some f) {u : Int} (u1 : 1 ≤ u) (u2 : u ≤ 9) : Loc E (2 * k) (f.1 * u) (f.2 * u) := by
  obtain ⟨x0, x1, y0, y1⟩ := h.posAt hk
  unfold Lim at x1 y1
  have p1 := mul_bd x0 (show f.1 ≤ 10 ^ 40 by omega) (show 0 ≤ u by omega) u2
  have p2 := mul_bd (show 0 ≤ f.2 by omega) (show f.2 ≤ 10 ^ 40 by omega) (show 0 ≤ u by omega) u2
  exact loc_even h hk u1 (sm_b p1.1 (by omega)) (sm_b p2.1 (by omega))
abbrev Qu := Nat × Int × Int
def quD (q : Qu) : PyData := .tuple [.int q.1, .int q.2.1, .int q.2.2]
def quL (qs : List Qu) : List PyData := qs.map quD
theorem quL_snoc {qs : List Qu} {q : Qu} : quL qs ++ [quD q] = quL (qs ++ [q]) := by rw [quL, quL, List.map_append]; rfl
theorem quL_len {qs : List Qu} : (quL qs).length = qs.length := List.length_map ..
def inL (ws : List Int) : List PyData := ws.map .int
def foD : Option Fr → PyData
  | none => .none
  | some f => frD f
section
variable {K : PySem.W.Frag} {b : B} {s : S} {t : TA} {te : TE} {Φ : Dw.A → S → Prop}
theorem ev_isD {n : String} (hn : n = "int" ∨ n = "bool" ∨ n = "str" ∨ n = "list" ∨ n = "tuple") (h : EV K b te s fun a s1 => ∃ d, Vw s1 a d ∧ Φ (.d (.bool (isTy n d))) s1) : EV K b (tCB (rIsi K) (tCons te (tCons (tC (.ty n)) tNil))) s Φ := ev_isi hn h
theorem v2_eqIs {i : Int} (q : Φ (.d (.bool true)) s) : V2 K b (rEqD K) (.d (.int i)) (.d (.int i)) s Φ := v2_eqI (by rw [decide_eq_true rfl]; exact q)
theorem v2_neBs {i : Bool} (q : Φ (.d (.bool false)) s) : V2 K b (rNeD K) (.d (.bool i)) (.d (.bool i)) s Φ := v2_neB (by rw [show (i == i) = true by cases i <;> rfl]; exact q)
theorem v2_neIs {i : Int} (q : Φ (.d (.bool false)) s) : V2 K b (rNeD K) (.d (.int i)) (.d (.int i)) s Φ := v2_neI (by rw [decide_eq_true rfl]; exact q)
theorem st_shape {E : List Fr} {x : PQ} : ∃ (f : Fr) (u v : Bool) (g : Option Fr), stD E x = .tuple [frD f, .bool u, foD g, .bool v] := by
  unfold stD
  generalize (cut E x.1).getD (0, 1, 0) = lo
  cases cut E x.2 with
  | none => exact ⟨(lo.1, lo.2.1), _, _, none, rfl⟩
  | some c => exact ⟨(lo.1, lo.2.1), _, _, some (c.1, c.2.1), rfl⟩
end
end K39

namespace K39
open PySem L2 Dw
theorem has_all {N c : Nat} : Has [(0, N)] c ↔ c < N := by
  rw [has_cons]
  exact ⟨fun h => h.elim (fun h => h.2) (fun h => absurd h has_nil), fun h => .inl ⟨Nat.zero_le _, h⟩⟩
theorem can_all {N : Nat} (h : 0 < N) : Can 0 [(0, N)] := ⟨Nat.le_refl _, h, trivial⟩
theorem top_all {N : Nat} : Top N [(0, N)] := fun x hx => by rw [List.mem_singleton.mp hx]; exact Nat.le_refl _
theorem Fit.lt {E : List Fr} {l : List PQ} (h : Fit E l) {c : Nat} (hc : Has l c) : c < 2 * E.length := by
  obtain ⟨x, hx, _, h2⟩ := hc
  have := h.top x hx
  omega
theorem fit_nil {E : List Fr} : Fit E [] := fit_of trivial fun x hx => by cases hx
theorem fit_all {E : List Fr} (h : 0 < E.length) : Fit E [(0, 2 * E.length)] := fit_of (can_all (by omega)) top_all
theorem not_not_map : ∀ bs : List Bool, (bs.map (!·)).map (!·) = bs
  | [] => rfl
  | x :: bs => by
    show (!!x) :: (bs.map (!·)).map (!·) = x :: bs
    rw [not_not_map bs, Bool.not_not]
section
variable {E : List Fr} {l m : List PQ}
theorem join_self (h : Fit E l) : joinP l l = l := can_unique (join_can h.can h.can) h.can fun c => by rw [join_has h.can h.can]; exact ⟨fun h => h.elim id id, .inl⟩
theorem meet_self (h : Fit E l) : meetP l l = l := can_unique (meet_can h.can h.can) h.can fun c => by rw [meet_has h.can h.can]; exact ⟨And.left, fun h => ⟨h, h⟩⟩
theorem join_nilR (h : Fit E l) : joinP l [] = l := can_unique (join_can h.can (fit_nil (E := E)).can) h.can fun c => by rw [join_has h.can (fit_nil (E := E)).can]; exact ⟨fun h => h.elim id (fun h => absurd h has_nil), .inl⟩
theorem join_nilL (h : Fit E l) : joinP [] l = l := can_unique (join_can (fit_nil (E := E)).can h.can) h.can fun c => by rw [join_has (fit_nil (E := E)).can h.can]; exact ⟨fun h => h.elim (fun h => absurd h has_nil) id, .inr⟩
theorem meet_allL (hN : 0 < E.length) (h : Fit E l) : meetP [(0, 2 * E.length)] l = l := can_unique (meet_can (fit_all hN).can h.can) h.can fun c => by rw [meet_has (fit_all hN).can h.can]; exact ⟨And.right, fun g => ⟨has_all.mpr (h.lt g), g⟩⟩
theorem meet_allR (hN : 0 < E.length) (h : Fit E l) : meetP l [(0, 2 * E.length)] = l := can_unique (meet_can h.can (fit_all hN).can) h.can fun c => by rw [meet_has h.can (fit_all hN).can]; exact ⟨And.left, fun g => ⟨g, has_all.mpr (h.lt g)⟩⟩
theorem join_allL (hN : 0 < E.length) (h : Fit E l) : joinP [(0, 2 * E.length)] l = [(0, 2 * E.length)] := can_unique (join_can (fit_all hN).can h.can) (fit_all hN).can fun c => by rw [join_has (fit_all hN).can h.can]; exact ⟨fun g => g.elim id (fun g => has_all.mpr (h.lt g)), .inl⟩
theorem join_allR (hN : 0 < E.length) (h : Fit E l) : joinP l [(0, 2 * E.length)] = [(0, 2 * E.length)] := can_unique (join_can h.can (fit_all hN).can) (fit_all hN).can fun c => by rw [join_has h.can (fit_all hN).can]; exact ⟨fun g => g.elim (fun g => has_all.mpr (h.lt g)) id, .inr⟩
theorem meet_abs (h : Fit E l) (g : Fit E m) : meetP (joinP l m) (meetP l m) = meetP l m := can_unique (meet_can (h.join g).can (h.meet g).can) (h.meet g).can fun c => by
  rw [meet_has (h.join g).can (h.meet g).can, join_has h.can g.can, meet_has h.can g.can]
  exact ⟨And.right, fun z => ⟨.inl z.1, z⟩⟩
theorem join_abs (h : Fit E l) (g : Fit E m) : joinP (meetP l m) (joinP l m) = joinP l m := can_unique (join_can (h.meet g).can (h.join g).can) (h.join g).can fun c => by
  rw [join_has (h.meet g).can (h.join g).can, join_has h.can g.can, meet_has h.can g.can]
  exact ⟨fun z => z.elim (fun z => .inl z.1) id, .inr⟩
theorem every_eq (hE : Ends E) : [PyData.tuple [.tuple [.int 0, .int 1], .bool true, .none, .bool false]] = lsD E [(0, 2 * E.length)] := by
  have := hE.ne
  show _ = [stD E (0, 2 * E.length)]
  rw [st_top (by omega) (Nat.le_refl _)]
  rw [show (0 : Nat) / 2 = 0 from rfl, hE.fst]
  rfl
end
end K39

namespace K39
open PySem L2 Dw
def tGuard (p : Prop) (t : TS) : TS := fun D σ H => p ∧ t D σ H
theorem pss_guard {X : Cx} {st : List Stmt} {p : Prop} {t : TS} (h : p → PSs X st t) : PSs X st (tGuard p t) := ⟨fun pins s σ H D I q => (h q.1).run pins s σ H D I q.2⟩
theorem zc_of {c : Addr} {cls : Value} {d : Option Addr} {oe : Obj} (h : cls = .ref c ∧ d = none) (z : Zc cls d oe) : Zc (.ref c) none oe := by
  obtain ⟨rfl, rfl⟩ := h
  exact z
section
variable {K : PySem.W.Frag} {b : B} {s : S} {t : TA} {Φ : Dw.A → S → Prop} {N : EE}
/-- the exception at a -/
def exA (a : Addr) : Dw.A := .p (fun _ v => v = .ref a) fun _ _ _ _ h => h
theorem go_guard {p : Prop} {t : TS} (hp : p) (h : GO K b t s N) : GO K b (tGuard p t) s N := fun D σ H tv tl Hd ps R k => ⟨hp, h D σ H tv tl Hd ps R k⟩
theorem ev_isE {i : Nat} {D a : Addr} {c : V} {cv : Value} {r : Bool} (hi : s.ss[i]? = some (some (exA a))) (hc : ∀ u, RelV c u → u = cv) (hk : PySem.W.kitOne K (.ref D) cv = some r) (q : Φ (.d (.bool r)) s) : EV K b (tCB (rIsE K D a) (tCons (tVar i) (tCons (tC c) tNil))) s Φ := fun σ H tv tl Hd ps R Q k => by
  obtain ⟨v, hv, ha⟩ := R.sl i _ hi
  cases ha
  exact ⟨_, hv, _, _, r, rfl, hc, hk, k _ H _ s Hd ps q R (.bl _)⟩
theorem go_tryD {f : Spc} {ts : Addr → Value → Option Addr → TS} {c : Value} {i : Nat} {Wout : WX}
    (h : EA K b t s fun as s1 => ∃ i0, as = f.args i0 ∧ f.cells i0 = [] ∧ noO as = true ∧ f.pre i0 ∧ (∀ r os', ¬ f.post i0 r os') ∧ ∀ x os', f.xpost i0 x os' → x.fs = none ∧ PySem.W.exmOne K x.cls c = some true ∧
      ∀ a, GO K b (ts a x.cls none) (s1.set i (exA a)) ⟨fun s2 => N.nx (s2.wp [i]), N.rt, fun s2 => N.bk (s2.wp [i]), fun s2 => N.ct (s2.wp [i])⟩) :
    GO K b (fun D σ H => (tDrop (tCallS (SpB K f) (WE (wAs K c i ts Wout D)) t)) D σ H) s N := fun D σ H tv tl Hd ps R k =>
  h σ H tv tl Hd ps R _ fun vs H1 as s1 Hd1 ps1 h1 R1 a1 => by
    obtain ⟨i0, ei, ec, hno, hpre, hf, hx⟩ := h1
    have hno := noO_ok hno
    have ha : Paired (AR K Hd1 []) vs as := ars_sub a1 hno
    refine ⟨Hd1, [], i0, R1.e1, .nil, by rw [ec]; rfl, fun p hp => by simp at hp, fun k cc p hk hp => by simp at hp, by rw [← ei]; exact ha, hpre, fun r os' hr => absurd hr (hf r os'), fun x os' hr d Hd' H' ⟨e1, e2, e3, e4, _, _, _⟩ hv => ?_⟩
    have R2 : Rp K b s1 σ H' tv tl Hd' ps1 := R1.ext e1 e2 (fun a o h => e3 a o (by simp) h) fun a h1 h2 => e4 a (by simp) h1 h2
    obtain ⟨efs, em, hgo⟩ := hx x os' hr
    rw [efs] at hv
    have hd : d = none := hv
    subst hd
    refine ⟨true, em, fun _ a _ => ?_, fun z => nomatch z⟩
    refine hgo a _ _ _ tv tl Hd' ps1 (R2.set (a := exA a) (show V.ref a = V.ref a from rfl) i) ⟨fun σ H s Hd ps q R => ?_, fun v σ H a s Hd ps q R ha => k.rt v σ H a s Hd ps q R ha, fun σ H s Hd ps q R => ?_, fun σ H s Hd ps q R => ?_⟩
    · exact k.nx _ H _ Hd ps q (R.wipe [i])
    · exact k.bk _ H _ Hd ps q (R.wipe [i])
    · exact k.ct _ H _ Hd ps q (R.wipe [i])
/-- raise C('..') -/
def tRz (c : Addr) (E : XK) : TS := fun _ _ H => E (.ref c) none H
end
end K39

namespace K39
open PySem L2 Dw
section
variable {X : Cx} {K : PySem.W.Frag}
theorem call_list_ofK (hK : X.K = K) : CallR X (.type "list") (fun xs H Q => ∃ p ys, xs = [.ref p] ∧ (SqL K H p ys ∨ SqT K H p ys) ∧ ∀ l, H l = none → Q (.ref l) (upd H l (.lst ys))) := by subst hK; exact call_list_of
theorem call_isEK {a D : Addr} {oe : Obj} {pn : List (Addr × Obj)} (hK : X.K = K) (C : ExcC K D) (hz : Zc (.ref D) none oe) (hf : ∃ vs, oe.data = .fields vs) : CallR (X.suite a ((a, oe) :: pn)) (.builtin "isinstance") (rIsE K D a) := by subst hK; exact call_isE C hz hf
end
section
variable {K : PySem.W.Frag} {b : B} {s : S} {Φ : Dw.A → S → Prop}
theorem ev_isE1 {i : Nat} {D a c : Addr} {r : Bool} (hi : s.ss[i]? = some (some (exA a))) (hk : PySem.W.kitOne K (.ref D) (.ref c) = some r) (q : Φ (.d (.bool r)) s) : EV K b (tCB (rIsE K D a) (tCons (tVar i) (tCons (tC (.ref c)) tNil))) s Φ := ev_isE (cv := .ref c) hi (fun _ h => h) hk q
theorem ev_isE2 {i : Nat} {D a : Addr} {n : String} {r : Bool} (hi : s.ss[i]? = some (some (exA a))) (hk : PySem.W.kitOne K (.ref D) (.type n) = some r) (q : Φ (.d (.bool r)) s) : EV K b (tCB (rIsE K D a) (tCons (tVar i) (tCons (tC (.ty n)) tNil))) s Φ := ev_isE (cv := .type n) hi (fun _ h => h) hk q
end
end K39

namespace K39
open PySem L2 Dw
def topS (i : Nat) : Stmt := PySem.Challenge.pw_dwellhouse_k39_stretch_sets.main.body.getD i (.Pass ⟨0, 0, 0, 0⟩)
abbrev s_low_cut : Stmt := topS 7
theorem sc_low_cut : FnScope ["stretch", "n", "d"] ["stretch"] (defScope s_low_cut) := ⟨rfl, rfl, rfl, by decide +kernel, rfl, by decide +kernel, by decide +kernel⟩
abbrev s_high_cut : Stmt := topS 8
theorem sc_high_cut : FnScope ["stretch", "n", "d"] ["stretch"] (defScope s_high_cut) := ⟨rfl, rfl, rfl, by decide +kernel, rfl, by decide +kernel, by decide +kernel⟩
abbrev s_stretch_of : Stmt := topS 9
theorem sc_stretch_of : FnScope ["low", "high"] ["low", "high"] (defScope s_stretch_of) := ⟨rfl, rfl, rfl, by decide +kernel, rfl, by decide +kernel, by decide +kernel⟩
abbrev s_is_before : Stmt := topS 10
theorem sc_is_before : FnScope ["first", "second", "left", "right"] ["first", "second"] (defScope s_is_before) := ⟨rfl, rfl, rfl, by decide +kernel, rfl, by decide +kernel, by decide +kernel⟩
abbrev s_lesser_cut : Stmt := topS 11
theorem sc_lesser_cut : FnScope ["first", "second"] ["first", "second"] (defScope s_lesser_cut) := ⟨rfl, rfl, rfl, by decide +kernel, rfl, by decide +kernel, by decide +kernel⟩
abbrev s_greater_cut : Stmt := topS 12
theorem sc_greater_cut : FnScope ["first", "second"] ["first", "second"] (defScope s_greater_cut) := ⟨rfl, rfl, rfl, by decide +kernel, rfl, by decide +kernel, by decide +kernel⟩
abbrev s_in_stretches : Stmt := topS 13
theorem sc_in_stretches : FnScope ["stretches", "n", "d", "before", "behind", "stretch"] ["stretches", "n", "d"] (defScope s_in_stretches) := ⟨rfl, rfl, rfl, by decide +kernel, rfl, by decide +kernel, by decide +kernel⟩
abbrev s_meet_stretches : Stmt := topS 14
theorem sc_meet_stretches : FnScope ["first", "second", "found", "i", "j", "one", "other", "low", "high"] ["first", "second"] (defScope s_meet_stretches) := ⟨rfl, rfl, rfl, by decide +kernel, rfl, by decide +kernel, by decide +kernel⟩
abbrev s_in_order : Stmt := topS 15
theorem sc_in_order : FnScope ["first", "second", "found", "i", "j"] ["first", "second"] (defScope s_in_order) := ⟨rfl, rfl, rfl, by decide +kernel, rfl, by decide +kernel, by decide +kernel⟩
abbrev s_join_stretches : Stmt := topS 16
theorem sc_join_stretches : FnScope ["first", "second", "cuts", "stretch", "low", "high", "start", "end"] ["first", "second"] (defScope s_join_stretches) := ⟨rfl, rfl, rfl, by decide +kernel, rfl, by decide +kernel, by decide +kernel⟩
abbrev s_other_stretches : Stmt := topS 17
theorem sc_other_stretches : FnScope ["stretches", "found", "low", "stretch"] ["stretches"] (defScope s_other_stretches) := ⟨rfl, rfl, rfl, by decide +kernel, rfl, by decide +kernel, by decide +kernel⟩
abbrev s__law_mixed : Stmt := topS 19
theorem sc__law_mixed : FnScope ["number", "count", "first", "second", "third"] ["number", "count"] (defScope s__law_mixed) := ⟨rfl, rfl, rfl, by decide +kernel, rfl, by decide +kernel, by decide +kernel⟩
abbrev s__law_open : Stmt := topS 20
theorem sc__law_open : FnScope ["script", "seed", "cell", "box"] ["script"] (defScope s__law_open) := ⟨rfl, rfl, rfl, by decide +kernel, rfl, by decide +kernel, by decide +kernel⟩
abbrev s__law_take : Stmt := topS 21
theorem sc__law_take : FnScope ["box", "size", "digit"] ["box", "size"] (defScope s__law_take) := ⟨rfl, rfl, rfl, by decide +kernel, rfl, by decide +kernel, by decide +kernel⟩
abbrev s__law_large : Stmt := topS 22
theorem sc__law_large : FnScope ["box", "groups", "value", "k"] ["box", "groups"] (defScope s__law_large) := ⟨rfl, rfl, rfl, by decide +kernel, rfl, by decide +kernel, by decide +kernel⟩
abbrev s__law_lowest : Stmt := topS 23
theorem sc__law_lowest : FnScope ["n", "d", "high", "low", "k", "rest"] ["n", "d"] (defScope s__law_lowest) := ⟨rfl, rfl, rfl, by decide +kernel, rfl, by decide +kernel, by decide +kernel⟩
abbrev s__law_below : Stmt := topS 24
theorem sc__law_below : FnScope ["first", "second"] ["first", "second"] (defScope s__law_below) := ⟨rfl, rfl, rfl, by decide +kernel, rfl, by decide +kernel, by decide +kernel⟩
abbrev s__law_with_end : Stmt := topS 25
theorem sc__law_with_end : FnScope ["ends", "end", "k"] ["ends", "end"] (defScope s__law_with_end) := ⟨rfl, rfl, rfl, by decide +kernel, rfl, by decide +kernel, by decide +kernel⟩
abbrev s__law_ends : Stmt := topS 26
theorem sc__law_ends : FnScope ["box", "shape", "count", "ends", "k", "n", "d"] ["box", "shape"] (defScope s__law_ends) := ⟨rfl, rfl, rfl, by decide +kernel, rfl, by decide +kernel, by decide +kernel⟩
abbrev s__law_bits : Stmt := topS 27
theorem sc__law_bits : FnScope ["box", "count", "sides", "bits", "bit", "k"] ["box", "count"] (defScope s__law_bits) := ⟨rfl, rfl, rfl, by decide +kernel, rfl, by decide +kernel, by decide +kernel⟩
abbrev s__law_form : Stmt := topS 28
theorem sc__law_form : FnScope ["ends", "bits", "rows", "low", "k"] ["ends", "bits"] (defScope s__law_form) := ⟨rfl, rfl, rfl, by decide +kernel, rfl, by decide +kernel, by decide +kernel⟩
abbrev s__law_is_integer : Stmt := topS 29
theorem sc__law_is_integer : FnScope ["value"] ["value"] (defScope s__law_is_integer) := ⟨rfl, rfl, rfl, by decide +kernel, rfl, by decide +kernel, by decide +kernel⟩
abbrev s__law_same_fraction : Stmt := topS 30
theorem sc__law_same_fraction : FnScope ["got", "due"] ["got", "due"] (defScope s__law_same_fraction) := ⟨rfl, rfl, rfl, by decide +kernel, rfl, by decide +kernel, by decide +kernel⟩
abbrev s__law_same : Stmt := topS 31
theorem sc__law_same : FnScope ["got", "due", "k", "row"] ["got", "due"] (defScope s__law_same) := ⟨rfl, rfl, rfl, by decide +kernel, rfl, by decide +kernel, by decide +kernel⟩
abbrev s__law_questions : Stmt := topS 32
theorem sc__law_questions : FnScope ["box", "ends", "shape", "weights", "rows", "k", "factor", "weight", "n", "d"] ["box", "ends", "shape"] (defScope s__law_questions) := ⟨rfl, rfl, rfl, by decide +kernel, rfl, by decide +kernel, by decide +kernel⟩
abbrev s__law_members : Stmt := topS 33
theorem sc__law_members : FnScope ["stretches", "bits", "questions", "handed", "cell", "n", "d", "got"] ["stretches", "bits", "questions"] (defScope s__law_members) := ⟨rfl, rfl, rfl, by decide +kernel, rfl, by decide +kernel, by decide +kernel⟩
abbrev s__law_refused : Stmt := topS 34
theorem sc__law_refused : FnScope ["stretches", "n", "d", "e"] ["stretches", "n", "d"] (defScope s__law_refused) := ⟨rfl, rfl, rfl, by decide +kernel, rfl, by decide +kernel, by decide +kernel⟩
abbrev s__law_others : Stmt := topS 35
theorem sc__law_others : FnScope ["ends", "bits", "one", "due", "handed", "got", "back", "bit"] ["ends", "bits"] (defScope s__law_others) := ⟨rfl, rfl, rfl, by decide +kernel, rfl, by decide +kernel, by decide +kernel⟩
abbrev s__law_pairs : Stmt := topS 36
theorem sc__law_pairs : FnScope ["first", "second", "due_meet", "due_join", "one", "two", "common", "either"] ["first", "second", "due_meet", "due_join"] (defScope s__law_pairs) := ⟨rfl, rfl, rfl, by decide +kernel, rfl, by decide +kernel, by decide +kernel⟩
abbrev s__law_alone : Stmt := topS 37
theorem sc__law_alone : FnScope ["first", "one", "every", "again", "joined_none", "met_every"] ["first"] (defScope s__law_alone) := ⟨rfl, rfl, rfl, by decide +kernel, rfl, by decide +kernel, by decide +kernel⟩
abbrev s__law_refusals : Stmt := topS 38
theorem sc__law_refusals : FnScope ["box", "stretches", "sizes", "n", "d", "far", "refused"] ["box", "stretches"] (defScope s__law_refusals) := ⟨rfl, rfl, rfl, by decide +kernel, rfl, by decide +kernel, by decide +kernel⟩
abbrev s_law : Stmt := topS 39
theorem sc_law : FnScope ["script", "box", "shape", "ends", "first_bits", "second_bits", "relation", "questions", "first", "second", "empty", "due_meet", "due_join", "bit", "k"] ["script"] (defScope s_law) := ⟨rfl, rfl, rfl, by decide +kernel, rfl, by decide +kernel, by decide +kernel⟩
/-- what the top has left -/
structure Tx (K : PySem.W.Frag) (mg : Str → Option Value) where
  a_low_cut : Addr
  d_low_cut : FuncData
  F_low_cut : FunD K "low_cut" "low_cut" (defArgs s_low_cut) (defBody s_low_cut) (defScope s_low_cut) [] [] a_low_cut d_low_cut
  g_low_cut : mg "low_cut" = some (.ref a_low_cut)
  a_high_cut : Addr
  d_high_cut : FuncData
  F_high_cut : FunD K "high_cut" "high_cut" (defArgs s_high_cut) (defBody s_high_cut) (defScope s_high_cut) [] [] a_high_cut d_high_cut
  g_high_cut : mg "high_cut" = some (.ref a_high_cut)
  a_stretch_of : Addr
  d_stretch_of : FuncData
  F_stretch_of : FunD K "stretch_of" "stretch_of" (defArgs s_stretch_of) (defBody s_stretch_of) (defScope s_stretch_of) [] [] a_stretch_of d_stretch_of
  g_stretch_of : mg "stretch_of" = some (.ref a_stretch_of)
  a_is_before : Addr
  d_is_before : FuncData
  F_is_before : FunD K "is_before" "is_before" (defArgs s_is_before) (defBody s_is_before) (defScope s_is_before) [] [] a_is_before d_is_before
  g_is_before : mg "is_before" = some (.ref a_is_before)
  a_lesser_cut : Addr
  d_lesser_cut : FuncData
  F_lesser_cut : FunD K "lesser_cut" "lesser_cut" (defArgs s_lesser_cut) (defBody s_lesser_cut) (defScope s_lesser_cut) [] [] a_lesser_cut d_lesser_cut
  g_lesser_cut : mg "lesser_cut" = some (.ref a_lesser_cut)
  a_greater_cut : Addr
  d_greater_cut : FuncData
  F_greater_cut : FunD K "greater_cut" "greater_cut" (defArgs s_greater_cut) (defBody s_greater_cut) (defScope s_greater_cut) [] [] a_greater_cut d_greater_cut
  g_greater_cut : mg "greater_cut" = some (.ref a_greater_cut)
  a_in_stretches : Addr
  d_in_stretches : FuncData
  F_in_stretches : FunD K "in_stretches" "in_stretches" (defArgs s_in_stretches) (defBody s_in_stretches) (defScope s_in_stretches) [] [] a_in_stretches d_in_stretches
  g_in_stretches : mg "in_stretches" = some (.ref a_in_stretches)
  a_meet_stretches : Addr
  d_meet_stretches : FuncData
  F_meet_stretches : FunD K "meet_stretches" "meet_stretches" (defArgs s_meet_stretches) (defBody s_meet_stretches) (defScope s_meet_stretches) [] [] a_meet_stretches d_meet_stretches
  g_meet_stretches : mg "meet_stretches" = some (.ref a_meet_stretches)
  a_in_order : Addr
  d_in_order : FuncData
  F_in_order : FunD K "in_order" "in_order" (defArgs s_in_order) (defBody s_in_order) (defScope s_in_order) [] [] a_in_order d_in_order
  g_in_order : mg "in_order" = some (.ref a_in_order)
  a_join_stretches : Addr
  d_join_stretches : FuncData
  F_join_stretches : FunD K "join_stretches" "join_stretches" (defArgs s_join_stretches) (defBody s_join_stretches) (defScope s_join_stretches) [] [] a_join_stretches d_join_stretches
  g_join_stretches : mg "join_stretches" = some (.ref a_join_stretches)
  a_other_stretches : Addr
  d_other_stretches : FuncData
  F_other_stretches : FunD K "other_stretches" "other_stretches" (defArgs s_other_stretches) (defBody s_other_stretches) (defScope s_other_stretches) [] [] a_other_stretches d_other_stretches
  g_other_stretches : mg "other_stretches" = some (.ref a_other_stretches)
  a__law_mixed : Addr
  d__law_mixed : FuncData
  F__law_mixed : FunD K "_law_mixed" "_law_mixed" (defArgs s__law_mixed) (defBody s__law_mixed) (defScope s__law_mixed) [] [] a__law_mixed d__law_mixed
  g__law_mixed : mg "_law_mixed" = some (.ref a__law_mixed)
  a__law_open : Addr
  d__law_open : FuncData
  F__law_open : FunD K "_law_open" "_law_open" (defArgs s__law_open) (defBody s__law_open) (defScope s__law_open) [] [] a__law_open d__law_open
  g__law_open : mg "_law_open" = some (.ref a__law_open)
  a__law_take : Addr
  d__law_take : FuncData
  F__law_take : FunD K "_law_take" "_law_take" (defArgs s__law_take) (defBody s__law_take) (defScope s__law_take) [] [] a__law_take d__law_take
  g__law_take : mg "_law_take" = some (.ref a__law_take)
  a__law_large : Addr
  d__law_large : FuncData
  F__law_large : FunD K "_law_large" "_law_large" (defArgs s__law_large) (defBody s__law_large) (defScope s__law_large) [] [] a__law_large d__law_large
  g__law_large : mg "_law_large" = some (.ref a__law_large)
  a__law_lowest : Addr
  d__law_lowest : FuncData
  F__law_lowest : FunD K "_law_lowest" "_law_lowest" (defArgs s__law_lowest) (defBody s__law_lowest) (defScope s__law_lowest) [] [] a__law_lowest d__law_lowest
  g__law_lowest : mg "_law_lowest" = some (.ref a__law_lowest)
  a__law_below : Addr
  d__law_below : FuncData
  F__law_below : FunD K "_law_below" "_law_below" (defArgs s__law_below) (defBody s__law_below) (defScope s__law_below) [] [] a__law_below d__law_below
  g__law_below : mg "_law_below" = some (.ref a__law_below)
  a__law_with_end : Addr
  d__law_with_end : FuncData
  F__law_with_end : FunD K "_law_with_end" "_law_with_end" (defArgs s__law_with_end) (defBody s__law_with_end) (defScope s__law_with_end) [] [] a__law_with_end d__law_with_end
  g__law_with_end : mg "_law_with_end" = some (.ref a__law_with_end)
  a__law_ends : Addr
  d__law_ends : FuncData
  F__law_ends : FunD K "_law_ends" "_law_ends" (defArgs s__law_ends) (defBody s__law_ends) (defScope s__law_ends) [] [] a__law_ends d__law_ends
  g__law_ends : mg "_law_ends" = some (.ref a__law_ends)
  a__law_bits : Addr
  d__law_bits : FuncData
  F__law_bits : FunD K "_law_bits" "_law_bits" (defArgs s__law_bits) (defBody s__law_bits) (defScope s__law_bits) [] [] a__law_bits d__law_bits
  g__law_bits : mg "_law_bits" = some (.ref a__law_bits)
  a__law_form : Addr
  d__law_form : FuncData
  F__law_form : FunD K "_law_form" "_law_form" (defArgs s__law_form) (defBody s__law_form) (defScope s__law_form) [] [] a__law_form d__law_form
  g__law_form : mg "_law_form" = some (.ref a__law_form)
  a__law_is_integer : Addr
  d__law_is_integer : FuncData
  F__law_is_integer : FunD K "_law_is_integer" "_law_is_integer" (defArgs s__law_is_integer) (defBody s__law_is_integer) (defScope s__law_is_integer) [] [] a__law_is_integer d__law_is_integer
  g__law_is_integer : mg "_law_is_integer" = some (.ref a__law_is_integer)
  a__law_same_fraction : Addr
  d__law_same_fraction : FuncData
  F__law_same_fraction : FunD K "_law_same_fraction" "_law_same_fraction" (defArgs s__law_same_fraction) (defBody s__law_same_fraction) (defScope s__law_same_fraction) [] [] a__law_same_fraction d__law_same_fraction
  g__law_same_fraction : mg "_law_same_fraction" = some (.ref a__law_same_fraction)
  a__law_same : Addr
  d__law_same : FuncData
  F__law_same : FunD K "_law_same" "_law_same" (defArgs s__law_same) (defBody s__law_same) (defScope s__law_same) [] [] a__law_same d__law_same
  g__law_same : mg "_law_same" = some (.ref a__law_same)
  a__law_questions : Addr
  d__law_questions : FuncData
  F__law_questions : FunD K "_law_questions" "_law_questions" (defArgs s__law_questions) (defBody s__law_questions) (defScope s__law_questions) [] [] a__law_questions d__law_questions
  g__law_questions : mg "_law_questions" = some (.ref a__law_questions)
  a__law_members : Addr
  d__law_members : FuncData
  F__law_members : FunD K "_law_members" "_law_members" (defArgs s__law_members) (defBody s__law_members) (defScope s__law_members) [] [] a__law_members d__law_members
  g__law_members : mg "_law_members" = some (.ref a__law_members)
  a__law_refused : Addr
  d__law_refused : FuncData
  F__law_refused : FunD K "_law_refused" "_law_refused" (defArgs s__law_refused) (defBody s__law_refused) (defScope s__law_refused) [] [] a__law_refused d__law_refused
  g__law_refused : mg "_law_refused" = some (.ref a__law_refused)
  a__law_others : Addr
  d__law_others : FuncData
  F__law_others : FunD K "_law_others" "_law_others" (defArgs s__law_others) (defBody s__law_others) (defScope s__law_others) [] [] a__law_others d__law_others
  g__law_others : mg "_law_others" = some (.ref a__law_others)
  a__law_pairs : Addr
  d__law_pairs : FuncData
  F__law_pairs : FunD K "_law_pairs" "_law_pairs" (defArgs s__law_pairs) (defBody s__law_pairs) (defScope s__law_pairs) [] [] a__law_pairs d__law_pairs
  g__law_pairs : mg "_law_pairs" = some (.ref a__law_pairs)
  a__law_alone : Addr
  d__law_alone : FuncData
  F__law_alone : FunD K "_law_alone" "_law_alone" (defArgs s__law_alone) (defBody s__law_alone) (defScope s__law_alone) [] [] a__law_alone d__law_alone
  g__law_alone : mg "_law_alone" = some (.ref a__law_alone)
  a__law_refusals : Addr
  d__law_refusals : FuncData
  F__law_refusals : FunD K "_law_refusals" "_law_refusals" (defArgs s__law_refusals) (defBody s__law_refusals) (defScope s__law_refusals) [] [] a__law_refusals d__law_refusals
  g__law_refusals : mg "_law_refusals" = some (.ref a__law_refusals)
  a_law : Addr
  d_law : FuncData
  F_law : FunD K "law" "law" (defArgs s_law) (defBody s_law) (defScope s_law) [] [] a_law d_law
  g_law : mg "law" = some (.ref a_law)
  z_ValueError : mg "ValueError" = none
  z_abs : mg "abs" = none
  z_bool : mg "bool" = none
  z_int : mg "int" = none
  z_isinstance : mg "isinstance" = none
  z_len : mg "len" = none
  z_list : mg "list" = none
  z_range : mg "range" = none
  z_tuple : mg "tuple" = none
  u_FIRST_CUT : Value
  x_FIRST_CUT : V
  g_FIRST_CUT : mg "FIRST_CUT" = some u_FIRST_CUT
  r_FIRST_CUT : RelV x_FIRST_CUT u_FIRST_CUT
  f_FIRST_CUT : ∀ H, Dr K H x_FIRST_CUT (.tuple [.int 0, .int 1, .int 0])
  c_DwellError : Addr
  gc_DwellError : mg "DwellError" = some (.ref c_DwellError)
  c_NoRun : Addr
  gc_NoRun : mg "NoRun" = some (.ref c_NoRun)
  c_BadValue : Addr
  gc_BadValue : mg "BadValue" = some (.ref c_BadValue)
  c_NoStart : Addr
  gc_NoStart : mg "NoStart" = some (.ref c_NoStart)
  x_BadValue : PySem.W.excIn K c_BadValue [.type "ValueError", .type "Exception", .type "BaseException", .type "object"] "ValueError.__new__" = true
  kc_BadValue : PySem.W.keepIn K (.ref c_BadValue) = true
  bc_BadValue : PySem.W.subIn K (.ref c_BadValue) (.type "BaseException") = some true
  tc_BadValue : PySem.W.typeIn K (.ref c_BadValue) = some (.type "type")
  em_BadValue : PySem.W.exmOne K (.ref c_BadValue) (.ref c_DwellError) = some true
  ec_BadValue : ExcC K c_BadValue
  k1_BadValue : PySem.W.kitOne K (.ref c_BadValue) (.ref c_BadValue) = some true
  k2_BadValue : PySem.W.kitOne K (.ref c_BadValue) (.type "ValueError") = some true
  k3_BadValue : PySem.W.kitOne K (.ref c_BadValue) (.ref c_NoRun) = some false
  k4_BadValue : PySem.W.kitOne K (.ref c_BadValue) (.ref c_NoStart) = some false

section
variable {P : Program} {w : World} {K : PySem.W.Frag} {mg : Str → Option Value} {base : Heap}
theorem b_low_cut {f : Addr} {fd : FuncData} (F : FunD K "low_cut" "low_cut" (defArgs s_low_cut) (defBody s_low_cut) (defScope s_low_cut) [] [] f fd) : Binds K fd ["stretch"] [] := F.bindsN fun _ _ _ _ _ _ us hl => match us, hl with | [_], _ => rfl
theorem b_high_cut {f : Addr} {fd : FuncData} (F : FunD K "high_cut" "high_cut" (defArgs s_high_cut) (defBody s_high_cut) (defScope s_high_cut) [] [] f fd) : Binds K fd ["stretch"] [] := F.bindsN fun _ _ _ _ _ _ us hl => match us, hl with | [_], _ => rfl
theorem b_stretch_of {f : Addr} {fd : FuncData} (F : FunD K "stretch_of" "stretch_of" (defArgs s_stretch_of) (defBody s_stretch_of) (defScope s_stretch_of) [] [] f fd) : Binds K fd ["low", "high"] [] := F.bindsN fun _ _ _ _ _ _ us hl => match us, hl with | [_, _], _ => rfl
theorem b_is_before {f : Addr} {fd : FuncData} (F : FunD K "is_before" "is_before" (defArgs s_is_before) (defBody s_is_before) (defScope s_is_before) [] [] f fd) : Binds K fd ["first", "second"] [] := F.bindsN fun _ _ _ _ _ _ us hl => match us, hl with | [_, _], _ => rfl
theorem b_lesser_cut {f : Addr} {fd : FuncData} (F : FunD K "lesser_cut" "lesser_cut" (defArgs s_lesser_cut) (defBody s_lesser_cut) (defScope s_lesser_cut) [] [] f fd) : Binds K fd ["first", "second"] [] := F.bindsN fun _ _ _ _ _ _ us hl => match us, hl with | [_, _], _ => rfl
theorem b_greater_cut {f : Addr} {fd : FuncData} (F : FunD K "greater_cut" "greater_cut" (defArgs s_greater_cut) (defBody s_greater_cut) (defScope s_greater_cut) [] [] f fd) : Binds K fd ["first", "second"] [] := F.bindsN fun _ _ _ _ _ _ us hl => match us, hl with | [_, _], _ => rfl
theorem b_in_stretches {f : Addr} {fd : FuncData} (F : FunD K "in_stretches" "in_stretches" (defArgs s_in_stretches) (defBody s_in_stretches) (defScope s_in_stretches) [] [] f fd) : Binds K fd ["stretches", "n", "d"] [] := F.bindsN fun _ _ _ _ _ _ us hl => match us, hl with | [_, _, _], _ => rfl
theorem b_meet_stretches {f : Addr} {fd : FuncData} (F : FunD K "meet_stretches" "meet_stretches" (defArgs s_meet_stretches) (defBody s_meet_stretches) (defScope s_meet_stretches) [] [] f fd) : Binds K fd ["first", "second"] [] := F.bindsN fun _ _ _ _ _ _ us hl => match us, hl with | [_, _], _ => rfl
theorem b_in_order {f : Addr} {fd : FuncData} (F : FunD K "in_order" "in_order" (defArgs s_in_order) (defBody s_in_order) (defScope s_in_order) [] [] f fd) : Binds K fd ["first", "second"] [] := F.bindsN fun _ _ _ _ _ _ us hl => match us, hl with | [_, _], _ => rfl
theorem b_join_stretches {f : Addr} {fd : FuncData} (F : FunD K "join_stretches" "join_stretches" (defArgs s_join_stretches) (defBody s_join_stretches) (defScope s_join_stretches) [] [] f fd) : Binds K fd ["first", "second"] [] := F.bindsN fun _ _ _ _ _ _ us hl => match us, hl with | [_, _], _ => rfl
theorem b_other_stretches {f : Addr} {fd : FuncData} (F : FunD K "other_stretches" "other_stretches" (defArgs s_other_stretches) (defBody s_other_stretches) (defScope s_other_stretches) [] [] f fd) : Binds K fd ["stretches"] [] := F.bindsN fun _ _ _ _ _ _ us hl => match us, hl with | [_], _ => rfl
theorem b__law_mixed {f : Addr} {fd : FuncData} (F : FunD K "_law_mixed" "_law_mixed" (defArgs s__law_mixed) (defBody s__law_mixed) (defScope s__law_mixed) [] [] f fd) : Binds K fd ["number", "count"] [] := F.bindsN fun _ _ _ _ _ _ us hl => match us, hl with | [_, _], _ => rfl
theorem b__law_open {f : Addr} {fd : FuncData} (F : FunD K "_law_open" "_law_open" (defArgs s__law_open) (defBody s__law_open) (defScope s__law_open) [] [] f fd) : Binds K fd ["script"] [] := F.bindsN fun _ _ _ _ _ _ us hl => match us, hl with | [_], _ => rfl
theorem b__law_take {f : Addr} {fd : FuncData} (F : FunD K "_law_take" "_law_take" (defArgs s__law_take) (defBody s__law_take) (defScope s__law_take) [] [] f fd) : Binds K fd ["box", "size"] [] := F.bindsN fun _ _ _ _ _ _ us hl => match us, hl with | [_, _], _ => rfl
theorem b__law_large {f : Addr} {fd : FuncData} (F : FunD K "_law_large" "_law_large" (defArgs s__law_large) (defBody s__law_large) (defScope s__law_large) [] [] f fd) : Binds K fd ["box", "groups"] [] := F.bindsN fun _ _ _ _ _ _ us hl => match us, hl with | [_, _], _ => rfl
theorem b__law_lowest {f : Addr} {fd : FuncData} (F : FunD K "_law_lowest" "_law_lowest" (defArgs s__law_lowest) (defBody s__law_lowest) (defScope s__law_lowest) [] [] f fd) : Binds K fd ["n", "d"] [] := F.bindsN fun _ _ _ _ _ _ us hl => match us, hl with | [_, _], _ => rfl
theorem b__law_below {f : Addr} {fd : FuncData} (F : FunD K "_law_below" "_law_below" (defArgs s__law_below) (defBody s__law_below) (defScope s__law_below) [] [] f fd) : Binds K fd ["first", "second"] [] := F.bindsN fun _ _ _ _ _ _ us hl => match us, hl with | [_, _], _ => rfl
theorem b__law_with_end {f : Addr} {fd : FuncData} (F : FunD K "_law_with_end" "_law_with_end" (defArgs s__law_with_end) (defBody s__law_with_end) (defScope s__law_with_end) [] [] f fd) : Binds K fd ["ends", "end"] [] := F.bindsN fun _ _ _ _ _ _ us hl => match us, hl with | [_, _], _ => rfl
theorem b__law_ends {f : Addr} {fd : FuncData} (F : FunD K "_law_ends" "_law_ends" (defArgs s__law_ends) (defBody s__law_ends) (defScope s__law_ends) [] [] f fd) : Binds K fd ["box", "shape"] [] := F.bindsN fun _ _ _ _ _ _ us hl => match us, hl with | [_, _], _ => rfl
theorem b__law_bits {f : Addr} {fd : FuncData} (F : FunD K "_law_bits" "_law_bits" (defArgs s__law_bits) (defBody s__law_bits) (defScope s__law_bits) [] [] f fd) : Binds K fd ["box", "count"] [] := F.bindsN fun _ _ _ _ _ _ us hl => match us, hl with | [_, _], _ => rfl
theorem b__law_form {f : Addr} {fd : FuncData} (F : FunD K "_law_form" "_law_form" (defArgs s__law_form) (defBody s__law_form) (defScope s__law_form) [] [] f fd) : Binds K fd ["ends", "bits"] [] := F.bindsN fun _ _ _ _ _ _ us hl => match us, hl with | [_, _], _ => rfl
theorem b__law_is_integer {f : Addr} {fd : FuncData} (F : FunD K "_law_is_integer" "_law_is_integer" (defArgs s__law_is_integer) (defBody s__law_is_integer) (defScope s__law_is_integer) [] [] f fd) : Binds K fd ["value"] [] := F.bindsN fun _ _ _ _ _ _ us hl => match us, hl with | [_], _ => rfl
theorem b__law_same_fraction {f : Addr} {fd : FuncData} (F : FunD K "_law_same_fraction" "_law_same_fraction" (defArgs s__law_same_fraction) (defBody s__law_same_fraction) (defScope s__law_same_fraction) [] [] f fd) : Binds K fd ["got", "due"] [] := F.bindsN fun _ _ _ _ _ _ us hl => match us, hl with | [_, _], _ => rfl
theorem b__law_same {f : Addr} {fd : FuncData} (F : FunD K "_law_same" "_law_same" (defArgs s__law_same) (defBody s__law_same) (defScope s__law_same) [] [] f fd) : Binds K fd ["got", "due"] [] := F.bindsN fun _ _ _ _ _ _ us hl => match us, hl with | [_, _], _ => rfl
theorem b__law_questions {f : Addr} {fd : FuncData} (F : FunD K "_law_questions" "_law_questions" (defArgs s__law_questions) (defBody s__law_questions) (defScope s__law_questions) [] [] f fd) : Binds K fd ["box", "ends", "shape"] [] := F.bindsN fun _ _ _ _ _ _ us hl => match us, hl with | [_, _, _], _ => rfl
theorem b__law_members {f : Addr} {fd : FuncData} (F : FunD K "_law_members" "_law_members" (defArgs s__law_members) (defBody s__law_members) (defScope s__law_members) [] [] f fd) : Binds K fd ["stretches", "bits", "questions"] [] := F.bindsN fun _ _ _ _ _ _ us hl => match us, hl with | [_, _, _], _ => rfl
theorem b__law_refused {f : Addr} {fd : FuncData} (F : FunD K "_law_refused" "_law_refused" (defArgs s__law_refused) (defBody s__law_refused) (defScope s__law_refused) [] [] f fd) : Binds K fd ["stretches", "n", "d"] [] := F.bindsN fun _ _ _ _ _ _ us hl => match us, hl with | [_, _, _], _ => rfl
theorem b__law_others {f : Addr} {fd : FuncData} (F : FunD K "_law_others" "_law_others" (defArgs s__law_others) (defBody s__law_others) (defScope s__law_others) [] [] f fd) : Binds K fd ["ends", "bits"] [] := F.bindsN fun _ _ _ _ _ _ us hl => match us, hl with | [_, _], _ => rfl
theorem b__law_pairs {f : Addr} {fd : FuncData} (F : FunD K "_law_pairs" "_law_pairs" (defArgs s__law_pairs) (defBody s__law_pairs) (defScope s__law_pairs) [] [] f fd) : Binds K fd ["first", "second", "due_meet", "due_join"] [] := F.bindsN fun _ _ _ _ _ _ us hl => match us, hl with | [_, _, _, _], _ => rfl
theorem b__law_alone {f : Addr} {fd : FuncData} (F : FunD K "_law_alone" "_law_alone" (defArgs s__law_alone) (defBody s__law_alone) (defScope s__law_alone) [] [] f fd) : Binds K fd ["first"] [] := F.bindsN fun _ _ _ _ _ _ us hl => match us, hl with | [_], _ => rfl
theorem b__law_refusals {f : Addr} {fd : FuncData} (F : FunD K "_law_refusals" "_law_refusals" (defArgs s__law_refusals) (defBody s__law_refusals) (defScope s__law_refusals) [] [] f fd) : Binds K fd ["box", "stretches"] [] := F.bindsN fun _ _ _ _ _ _ us hl => match us, hl with | [_, _], _ => rfl
theorem b_law {f : Addr} {fd : FuncData} (F : FunD K "law" "law" (defArgs s_law) (defBody s_law) (defScope s_law) [] [] f fd) : Binds K fd ["script"] [] := F.bindsN fun _ _ _ _ _ _ us hl => match us, hl with | [_], _ => rfl
end
end K39

namespace K39
open PySem L2 Dw
local macro_rules | `(tactic| walk_at "ev") => `(tactic| (first
  | (with_reducible refine go_sAsg ?_)
  | (with_reducible refine go_sDrop ?_)
  | (with_reducible refine go_sAug (by with_unfolding_all exact rfl) ?_)
  | (with_reducible refine ev_op ?_)
  | (with_reducible refine ev_var (by with_unfolding_all exact rfl) ?_)
  | (with_reducible refine ev_int ?_)
  | (with_reducible refine ev_bl ?_)
  | (with_reducible refine ev_non ?_)
  | (with_reducible refine ev_str ?_)
  | (with_reducible refine ea_cons ?_)
  | (with_reducible refine ea_nil ?_)
  | (with_reducible refine go_ret ?_)
  | (with_reducible refine go_asg ?_)
  | (with_reducible refine gt_name ?_)
  | (with_reducible refine go_if ?_)
  | (with_reducible refine go_drop ?_)
  | (with_reducible refine ev_cb ?_)
  | (with_reducible refine et_test ?_)
  | (with_reducible refine et_and ?_)
  | (with_reducible refine et_or ?_)
  | (with_reducible refine et_not ?_)
  | (with_reducible refine et_truth ?_)
  | (with_reducible refine ev_if ?_)
  | (with_reducible refine ev_andV ?_)
  | (with_reducible refine ev_orV ?_)
  | (with_reducible refine ev_notT ?_)
  | (with_reducible refine ev_un ?_)
  | (with_reducible refine v1_neg ?_)
  | (with_reducible refine v2_addI ?_)
  | (with_reducible refine v2_ltI ?_)
  | (with_reducible refine v2_leI ?_)
  | (with_reducible refine v2_gtI ?_)
  | (with_reducible refine v2_geI ?_)
  | (with_reducible refine v2_ii ?_)
  | (with_reducible refine v2_ixT (by with_unfolding_all exact rfl) ?_)
  | (with_reducible refine v2_isNA (fun _ _ q => nomatch q) ?_)
  | (with_reducible refine v2_notNA (fun _ _ q => nomatch q) ?_)
  | (with_reducible refine rt_val ?_)
  | (with_reducible refine ev_tup ?_)
  | (with_reducible refine ⟨_, (by with_unfolding_all exact rfl : undA _ = some _), (by with_unfolding_all exact rfl), ?_⟩)
  | (with_reducible refine go_next ?_)
  | (with_reducible refine go_retN ?_)
  | (with_reducible refine go_brk ?_)
  | (with_reducible refine go_cont ?_)
  | (with_reducible refine ev_sl ?_)
  | (with_reducible refine eo_none ?_)
  | (with_reducible refine eo_some ?_)
  | (with_reducible refine gts_consD ?_)
  | (with_reducible refine gts_nilD ?_)
  | (with_reducible refine gts_nil ?_)
  | (with_reducible refine gt_tup (by with_unfolding_all exact rfl) ?_)
  | (with_reducible refine ⟨_, rfl, ?_⟩)
  | (with_reducible refine ⟨_, (by with_unfolding_all exact rfl : Tru _ _ _), ?_⟩)
  ))
local macro_rules | `(tactic| walk_at "mul") => `(tactic| (first
  | exact cmS (by assumption) (by assumption)
  | exact cm64 (by omega) (by omega)))
local macro_rules | `(tactic| walk_at "ev2") => `(tactic| (first
  | walk_at "ev"
  | (with_reducible refine v2_mulI (by walk_at "mul") ?_)
  | (with_reducible refine vc_lenV (by with_unfolding_all apply_assumption) ?_)
  | (with_reducible refine v2_ixV (by with_unfolding_all apply_assumption) (by assumption) ?_)
  | (with_reducible refine v2_eqI ?_)
  | (with_reducible refine v2_neI ?_)
  | (with_reducible refine v2_eqB ?_)
  | (with_reducible refine v2_neB ?_)
  | (with_reducible refine go_aug (by with_unfolding_all exact rfl) ?_)
  | (with_reducible refine ⟨(by with_unfolding_all exact rfl : (_ : List _) = _), ?_⟩)))
local macro_rules | `(tactic| walk_at "ev3") => `(tactic| (first
  | walk_at "ev2"
  | (with_reducible refine go_seq ?_)))
local macro_rules | `(tactic| walk_at "bx") => `(tactic| (first
  | walk_at "ev2"
  | (with_reducible refine vc_intI ?_)
  | (with_reducible refine go_srng ?_)
  | (with_reducible refine go_rng ?_)
  | (with_reducible refine ei_anyL ?_)
  | (with_reducible refine vc_lenV (by with_unfolding_all exact rfl) ?_)
  | (with_reducible refine go_sbp (key := "index") (by with_unfolding_all exact rfl) (by with_unfolding_all exact rfl) ?_)
  | (with_reducible refine go_sbp (key := "cell") (by with_unfolding_all exact rfl) (by with_unfolding_all exact rfl) ?_)
  | (with_reducible refine go_sbp (key := "left") (by with_unfolding_all exact rfl) (by with_unfolding_all exact rfl) ?_)
  | (with_reducible refine go_sbp (key := "count") (by with_unfolding_all exact rfl) (by with_unfolding_all exact rfl) ?_)
  | (with_reducible refine go_sbp (key := "great") (by with_unfolding_all exact rfl) (by with_unfolding_all exact rfl) ?_)
  | (with_reducible refine go_bp (key := "index") (by with_unfolding_all exact rfl) (by with_unfolding_all exact rfl) ?_)
  | (with_reducible refine go_bp (key := "cell") (by with_unfolding_all exact rfl) (by with_unfolding_all exact rfl) ?_)
  | (with_reducible refine go_bp (key := "left") (by with_unfolding_all exact rfl) (by with_unfolding_all exact rfl) ?_)
  | (with_reducible refine go_bp (key := "count") (by with_unfolding_all exact rfl) (by with_unfolding_all exact rfl) ?_)
  | (with_reducible refine go_bp (key := "great") (by with_unfolding_all exact rfl) (by with_unfolding_all exact rfl) ?_)
  | (with_reducible refine ⟨_, _, rfl, rfl, bp2, ?_⟩)
  | (with_reducible refine ⟨_, _, rfl, rfl, bp3, ?_⟩)
  | (with_reducible refine ⟨_, _, rfl, rfl, bp4, ?_⟩)
  | (with_reducible refine ⟨_, _, rfl, rfl, bp5, ?_⟩)
  | (with_reducible refine ⟨_, _, rfl, rfl, bp7, ?_⟩)
  | (with_reducible refine vc_intB ?_)
  | (with_reducible refine vc_abs ?_)
  | (with_reducible refine v2_mulJ (cmR (by decide)) ?_)
  | (with_reducible refine v2_mulJ (cmL (by decide)) ?_)
  | (with_reducible refine v2_mulJ (cmL (by omega)) ?_)
  | (with_reducible refine v2_mulJ (cmR (by omega)) ?_)
  | (with_reducible refine v2_ic (C := fun _ j => 0 < j) (by decide) ?_)
  | (with_reducible refine v2_ic (C := fun _ j => 0 < j) (show (0 : Int) < _ by omega) ?_)
  | (with_reducible refine v2_ic (C := CDivW) (cdv (by decide)) ?_)
  | (with_reducible refine v2_ic (C := CDivW) (cdv (by omega)) ?_)
  | (with_reducible refine v2_ic (C := CPow) (cpw (by decide)) ?_)
  | (with_reducible refine ev_bg (key := "cells") (by with_unfolding_all exact rfl) (by with_unfolding_all exact rfl) bg1 ?_)
  | (with_reducible refine ev_bg (key := "index") (by with_unfolding_all exact rfl) (by with_unfolding_all exact rfl) bg2 ?_)
  | (with_reducible refine ev_bg (key := "cell") (by with_unfolding_all exact rfl) (by with_unfolding_all exact rfl) bg3 ?_)
  | (with_reducible refine ev_bg (key := "left") (by with_unfolding_all exact rfl) (by with_unfolding_all exact rfl) bg4 ?_)
  | (with_reducible refine ev_bg (key := "count") (by with_unfolding_all exact rfl) (by with_unfolding_all exact rfl) bg5 ?_)
  | (with_reducible refine ev_bg (key := "seed") (by with_unfolding_all exact rfl) (by with_unfolding_all exact rfl) bg6 ?_)
  | (with_reducible refine ev_bg (key := "great") (by with_unfolding_all exact rfl) (by with_unfolding_all exact rfl) bg7 ?_)
  ))
local macro_rules | `(tactic| walk_at "bx3") => `(tactic| (first
  | walk_at "bx"
  | (with_reducible refine go_seq ?_)))
local macro_rules | `(tactic| walk_at "cs") => `(tactic| (first
  | walk_at "bx3"
  | ((with_reducible refine ⟨?_, ?_⟩); (focus (intro h; cases h; done)); intro h)
  | ((with_reducible refine ⟨?_, ?_⟩); rotate_left; (focus (intro h; cases h; done)); intro h)))
local macro_rules | `(tactic| walk_at "dd") => `(tactic| (first
  | (with_reducible refine ev_isE1 (by with_unfolding_all exact rfl) (by assumption) ?_)
  | (with_reducible refine ev_isE2 (by with_unfolding_all exact rfl) (by assumption) ?_)
  | (with_reducible refine ev_isD (n := "int") (by decide) ?_)
  | (with_reducible refine ev_isD (n := "bool") (by decide) ?_)
  | (with_reducible refine ev_isD (n := "tuple") (by decide) ?_)
  | (with_reducible refine ev_isD (n := "list") (by decide) ?_)
  | (with_reducible refine vc_lenT ?_)
  | (with_reducible refine v2_eqIs ?_)
  | (with_reducible refine v2_neIs ?_)
  | (with_reducible refine v2_neBs ?_)
  | (with_reducible refine ⟨_, (by with_unfolding_all exact rfl : Vw _ _ _), ?_⟩)
  | walk_at "cs"
  ))
def sp_low_cut : Spc where
  I := Cut × Option Cut
  args := fun (lo, hi) => [.d (stC lo hi)]
  cells := fun _ => []
  pre := fun (lo, _) => lo.2.2 = 0 ∨ lo.2.2 = 1
  post := fun (lo, _) r _ => r = .val (cuD (some lo))
section
variable {P : Program} {w : World} {K : PySem.W.Frag} {mg : Str → Option Value} {base : Heap}
theorem ok_low_cut (T : Tx K mg) : FnOk P w K mg base CX0 1 T.a_low_cut T.d_low_cut ["stretch"] (SpB K sp_low_cut) := by
  refine T.F_low_cut.ok sc_low_cut (fun vs H Q E h => spB_len h (fun _ => rfl)) (fun cdv A outer s H vs Q E hr h => ⟨_, PSs.nox ((pss_cons (ps_asg (pe_ix ix_seq (pv 0) pe_int (fun _ _ => rfl)) (pg_tup rfl (pgs_cons (pg_name (i := 1) sc_low_cut.nd rfl (.inl rfl) (.inr rfl)) (pgs_cons (pg_name (i := 2) sc_low_cut.nd rfl (.inl rfl) (.inr rfl)) pgs_nil))))
      (pss_one (ps_ret (pe_tup (pa_cons (pv 1) (pa_cons (pv 2) (pa_cons (pe_ifExp (pt_truth (pe_ix ix_seq (pv 0) pe_int (fun _ _ => rfl)) (by intro _; rfl)) pe_int pe_int) pa_nil)))))))), ?_⟩)
  refine go_fn (L := ["stretch", "n", "d"]) h (fun b i hp hX => ?_)
  dsimp only [cxOf, L2.Cx.nox, L2.Cx.wish]
  
  obtain ⟨⟨n, d, s'⟩, hi⟩ := i
  repeat walk_at "ev3"
  
  refine ⟨fun h => ?_, fun h => ?_⟩
  · have e : s' = 0 := of_decide_eq_true h
    subst e
    repeat walk_at "ev3"
  
    rfl
  · have e : s' = 1 := by
      rcases hp with e | e
      · exact absurd e (of_decide_eq_false h)
      · exact e
    subst e
    repeat walk_at "ev3"
  
    rfl
end
def sp_high_cut : Spc where
  I := Cut × Option Cut
  args := fun (lo, hi) => [.d (stC lo hi)]
  cells := fun _ => []
  pre := fun (_, hi) => ∀ c, hi = some c → c.2.2 = 0 ∨ c.2.2 = 1
  post := fun (_, hi) r _ => r = .val (cuD hi)
section
variable {P : Program} {w : World} {K : PySem.W.Frag} {mg : Str → Option Value} {base : Heap}
theorem ok_high_cut (T : Tx K mg) : FnOk P w K mg base CX0 1 T.a_high_cut T.d_high_cut ["stretch"] (SpB K sp_high_cut) := by
  refine T.F_high_cut.ok sc_high_cut (fun vs H Q E h => spB_len h (fun _ => rfl)) (fun cdv A outer s H vs Q E hr h => ⟨_, PSs.nox ((pss_cons (ps_if (pt_cmpR op_isA (pe_ix ix_seq (pv 0) pe_int (fun _ _ => rfl)) pe_non (nomark _))
      (pss_one (ps_ret pe_non))
      pss_nil)
      (pss_cons (ps_asg (pe_ix ix_seq (pv 0) pe_int (fun _ _ => rfl)) (pg_tup rfl (pgs_cons (pg_name (i := 1) sc_high_cut.nd rfl (.inl rfl) (.inr rfl)) (pgs_cons (pg_name (i := 2) sc_high_cut.nd rfl (.inl rfl) (.inr rfl)) pgs_nil))))
      (pss_one (ps_ret (pe_tup (pa_cons (pv 1) (pa_cons (pv 2) (pa_cons (pe_ifExp (pt_truth (pe_ix ix_seq (pv 0) pe_int (fun _ _ => rfl)) (by intro _; rfl)) pe_int pe_int) pa_nil))))))))), ?_⟩)
  refine go_fn (L := ["stretch", "n", "d"]) h (fun b i hp hX => ?_)
  dsimp only [cxOf, L2.Cx.nox, L2.Cx.wish]
  
  obtain ⟨⟨n, d, s'⟩, hi⟩ := i
  cases hi with
  | none =>
    repeat walk_at "ev3"
  
    refine ⟨fun h => ?_, fun h => (nomatch h)⟩
    repeat walk_at "ev3"
  
    rfl
  | some c =>
    obtain ⟨n', d', t'⟩ := c
    repeat walk_at "ev3"
  
    refine ⟨fun h => (nomatch h), fun h => ?_⟩
    repeat walk_at "ev3"
  
    refine ⟨fun h => ?_, fun h => ?_⟩
    · have e : t' = 1 := of_decide_eq_true h
      subst e
      repeat walk_at "ev3"
  
      rfl
    · have e : t' = 0 := by
        rcases hp _ rfl with e | e
        · exact e
        · exact absurd e (of_decide_eq_false h)
      subst e
      repeat walk_at "ev3"
  
      rfl
end
def sp_stretch_of : Spc where
  I := Cut × Option Cut
  args := fun (lo, hi) => [.d (cuD (some lo)), .d (cuD hi)]
  cells := fun _ => []
  pre := fun _ => True
  post := fun (lo, hi) r _ => r = .val (stC lo hi)
section
variable {P : Program} {w : World} {K : PySem.W.Frag} {mg : Str → Option Value} {base : Heap}
theorem ok_stretch_of (T : Tx K mg) : FnOk P w K mg base CX0 1 T.a_stretch_of T.d_stretch_of ["low", "high"] (SpB K sp_stretch_of) := by
  refine T.F_stretch_of.ok sc_stretch_of (fun vs H Q E h => spB_len h (fun _ => rfl)) (fun cdv A outer s H vs Q E hr h => ⟨_, PSs.nox ((pss_cons (ps_if (pt_cmpR op_isA (pv 1) pe_non (nomark _))
      (pss_one (ps_ret (pe_tup (pa_cons (pe_tup (pa_cons (pe_ix ix_seq (pv 0) pe_int (fun _ _ => rfl)) (pa_cons (pe_ix ix_seq (pv 0) pe_int (fun _ _ => rfl)) pa_nil))) (pa_cons (pe_cmpR (op_eqD hr.units) (pe_ix ix_seq (pv 0) pe_int (fun _ _ => rfl)) pe_int (nomark _)) (pa_cons pe_non (pa_cons pe_bl pa_nil)))))))
      pss_nil)
      (pss_one (ps_ret (pe_tup (pa_cons (pe_tup (pa_cons (pe_ix ix_seq (pv 0) pe_int (fun _ _ => rfl)) (pa_cons (pe_ix ix_seq (pv 0) pe_int (fun _ _ => rfl)) pa_nil))) (pa_cons (pe_cmpR (op_eqD hr.units) (pe_ix ix_seq (pv 0) pe_int (fun _ _ => rfl)) pe_int (nomark _)) (pa_cons (pe_tup (pa_cons (pe_ix ix_seq (pv 1) pe_int (fun _ _ => rfl)) (pa_cons (pe_ix ix_seq (pv 1) pe_int (fun _ _ => rfl)) pa_nil))) (pa_cons (pe_cmpR (op_eqD hr.units) (pe_ix ix_seq (pv 1) pe_int (fun _ _ => rfl)) pe_int (nomark _)) pa_nil))))))))), ?_⟩)
  refine go_fn (L := ["low", "high"]) h (fun b i hp hX => ?_)
  dsimp only [cxOf, L2.Cx.nox, L2.Cx.wish]
  
  obtain ⟨⟨n, d, s'⟩, hi⟩ := i
  cases hi with
  | none =>
    repeat walk_at "ev3"
  
    refine ⟨fun h => ?_, fun h => (nomatch h)⟩
    repeat walk_at "ev3"
  
    rfl
  | some c =>
    obtain ⟨n', d', t'⟩ := c
    repeat walk_at "ev3"
  
    refine ⟨fun h => (nomatch h), fun h => ?_⟩
    repeat walk_at "ev3"
  
    rfl
end
def sp_is_before : Spc where
  I := Option Cut × Option Cut
  args := fun (a, b) => [.d (cuD a), .d (cuD b)]
  cells := fun _ => []
  pre := fun (a, b) => (∀ c, a = some c → Sm c.1 ∧ Sm c.2.1) ∧ ∀ c, b = some c → Sm c.1 ∧ Sm c.2.1
  post := fun (a, b) r _ => r = .val (.bool (cl a b))
section
variable {P : Program} {w : World} {K : PySem.W.Frag} {mg : Str → Option Value} {base : Heap}
theorem ok_is_before (T : Tx K mg) : FnOk P w K mg base CX0 1 T.a_is_before T.d_is_before ["first", "second"] (SpB K sp_is_before) := by
  refine T.F_is_before.ok sc_is_before (fun vs H Q E h => spB_len h (fun _ => rfl)) (fun cdv A outer s H vs Q E hr h => ⟨_, PSs.nox ((pss_cons (ps_if (pt_cmpR op_isA (pv 0) pe_non (nomark _))
      (pss_one (ps_ret pe_bl))
      pss_nil)
      (pss_cons (ps_if (pt_cmpR op_isA (pv 1) pe_non (nomark _))
      (pss_one (ps_ret pe_bl))
      pss_nil)
      (pss_cons (ps_set (i := 2) sc_is_before.nd rfl (.inl rfl) (pe_op op_mulA (pe_ix ix_seq (pv 0) pe_int (fun _ _ => rfl)) (pe_ix ix_seq (pv 1) pe_int (fun _ _ => rfl))))
      (pss_cons (ps_set (i := 3) sc_is_before.nd rfl (.inl rfl) (pe_op op_mulA (pe_ix ix_seq (pv 1) pe_int (fun _ _ => rfl)) (pe_ix ix_seq (pv 0) pe_int (fun _ _ => rfl))))
      (pss_cons (ps_if (pt_cmpR (op_neD hr.units) (pv 2) (pv 3) (nomark _))
      (pss_one (ps_ret (pe_cmpR op_ltA (pv 2) (pv 3) (nomark _))))
      pss_nil)
      (pss_one (ps_ret (pe_cmpR op_ltA (pe_ix ix_seq (pv 0) pe_int (fun _ _ => rfl)) (pe_ix ix_seq (pv 1) pe_int (fun _ _ => rfl)) (nomark _)))))))))), ?_⟩)
  refine go_fn (L := ["first", "second", "left", "right"]) h (fun b i hp hX => ?_)
  dsimp only [cxOf, L2.Cx.nox, L2.Cx.wish]
  
  obtain ⟨a, c⟩ := i
  obtain ⟨h1, h2⟩ := hp
  cases a with
  | none =>
    repeat walk_at "ev3"
  
    refine ⟨fun h => ?_, fun h => (nomatch h)⟩
    repeat walk_at "ev3"
  
    rfl
  | some a =>
    obtain ⟨n, d, s'⟩ := a
    repeat walk_at "ev3"
  
    refine ⟨fun h => (nomatch h), fun h => ?_⟩
    repeat walk_at "ev3"
  
    cases c with
    | none =>
      repeat walk_at "ev3"
  
      refine ⟨fun h => ?_, fun h => (nomatch h)⟩
      repeat walk_at "ev3"
  
      rfl
    | some c =>
      obtain ⟨n', d', t'⟩ := c
      obtain ⟨g1, g2⟩ := h1 _ rfl
      obtain ⟨g3, g4⟩ := h2 _ rfl
      dsimp only at g1 g2 g3 g4
      repeat walk_at "ev3"
  
      refine ⟨fun h => (nomatch h), fun h => ?_⟩
      repeat walk_at "ev3"
  
      refine ⟨fun h => ?_, fun h => ?_⟩
      · repeat walk_at "ev3"
  
        show Rv.val _ = Rv.val _
        have e : n * d' ≠ n' * d := by simpa using h
        show Rv.val (.bool (decide (n * d' < n' * d))) = Rv.val (.bool (if n * d' ≠ n' * d then decide (n * d' < n' * d) else decide (s' < t')))
        rw [if_pos e]
      · repeat walk_at "ev3"
  
        have e : ¬ n * d' ≠ n' * d := by simpa using h
        show Rv.val (.bool (decide (s' < t'))) = Rv.val (.bool (if n * d' ≠ n' * d then decide (n * d' < n' * d) else decide (s' < t')))
        rw [if_neg e]
end
def sp_lesser_cut : Spc where
  I := Option Cut × Option Cut
  args := fun (a, b) => [.d (cuD a), .d (cuD b)]
  cells := fun _ => []
  pre := fun (a, b) => (∀ c, a = some c → Sm c.1 ∧ Sm c.2.1) ∧ ∀ c, b = some c → Sm c.1 ∧ Sm c.2.1
  post := fun (a, b) r _ => r = .val (cuD (if cl b a = true then b else a))
section
variable {P : Program} {w : World} {K : PySem.W.Frag} {mg : Str → Option Value} {base : Heap}
theorem ok_lesser_cut (T : Tx K mg) : FnOk P w K mg base CX0 2 T.a_lesser_cut T.d_lesser_cut ["first", "second"] (SpB K sp_lesser_cut) := by
  refine T.F_lesser_cut.ok sc_lesser_cut (fun vs H Q E h => spB_len h (fun _ => rfl)) (fun cdv A outer s H vs Q E hr h => ⟨_, PSs.nox ((pss_cons (ps_if (pt_truth (pe_call (ok_is_before T) (hr.mono (by decide)) (by rfl) T.g_is_before T.F_is_before.kp (b_is_before T.F_is_before) .nil pass0 (pa_cons (pv 1) (pa_cons (pv 0) pa_nil))) (by intro _; rfl))
      (pss_one (ps_ret (pv 1)))
      pss_nil)
      (pss_one (ps_ret (pv 0))))), ?_⟩)
  refine go_fn (L := ["first", "second"]) h (fun b i hp hX => ?_)
  dsimp only [cxOf, L2.Cx.nox, L2.Cx.wish]
  
  obtain ⟨a, c⟩ := i
  obtain ⟨h1, h2⟩ := hp
  repeat walk_at "ev3"
  
  refine ev_callV ?_
  repeat walk_at "ev3"
  
  refine ⟨(c, a), _, rfl, rfl, rfl, ⟨h2, h1⟩, fun _ _ h => h, fun _ _ h => h, ?_⟩
  repeat walk_at "ev3"
  
  refine ⟨fun h => ?_, fun h => ?_⟩
  · repeat walk_at "ev3"
  
    show Rv.val _ = Rv.val _
    rw [if_pos h]
  · repeat walk_at "ev3"
  
    show Rv.val _ = Rv.val _
    rw [if_neg (by rw [h]; exact Bool.false_ne_true)]
end
def sp_greater_cut : Spc where
  I := Option Cut × Option Cut
  args := fun (a, b) => [.d (cuD a), .d (cuD b)]
  cells := fun _ => []
  pre := fun (a, b) => (∀ c, a = some c → Sm c.1 ∧ Sm c.2.1) ∧ ∀ c, b = some c → Sm c.1 ∧ Sm c.2.1
  post := fun (a, b) r _ => r = .val (cuD (if cl a b = true then b else a))
section
variable {P : Program} {w : World} {K : PySem.W.Frag} {mg : Str → Option Value} {base : Heap}
theorem ok_greater_cut (T : Tx K mg) : FnOk P w K mg base CX0 2 T.a_greater_cut T.d_greater_cut ["first", "second"] (SpB K sp_greater_cut) := by
  refine T.F_greater_cut.ok sc_greater_cut (fun vs H Q E h => spB_len h (fun _ => rfl)) (fun cdv A outer s H vs Q E hr h => ⟨_, PSs.nox ((pss_cons (ps_if (pt_truth (pe_call (ok_is_before T) (hr.mono (by decide)) (by rfl) T.g_is_before T.F_is_before.kp (b_is_before T.F_is_before) .nil pass0 (pa_cons (pv 0) (pa_cons (pv 1) pa_nil))) (by intro _; rfl))
      (pss_one (ps_ret (pv 1)))
      pss_nil)
      (pss_one (ps_ret (pv 0))))), ?_⟩)
  refine go_fn (L := ["first", "second"]) h (fun b i hp hX => ?_)
  dsimp only [cxOf, L2.Cx.nox, L2.Cx.wish]
  
  obtain ⟨a, c⟩ := i
  obtain ⟨h1, h2⟩ := hp
  repeat walk_at "ev3"
  
  refine ev_callV ?_
  repeat walk_at "ev3"
  
  refine ⟨(a, c), _, rfl, rfl, rfl, ⟨h1, h2⟩, fun _ _ h => h, fun _ _ h => h, ?_⟩
  repeat walk_at "ev3"
  
  refine ⟨fun h => ?_, fun h => ?_⟩
  · repeat walk_at "ev3"
  
    show Rv.val _ = Rv.val _
    rw [if_pos h]
  · repeat walk_at "ev3"
  
    show Rv.val _ = Rv.val _
    rw [if_neg (by rw [h]; exact Bool.false_ne_true)]
end
section
variable {K : PySem.W.Frag} {b : B} {s : S} {t : TA} {Φ : Dw.A → S → Prop} {E : List Fr} {x : PQ} {p q : Nat}
theorem ev_low (hx : x.1 < x.2 ∧ x.2 ≤ 2 * E.length) (h : EA K b t s fun as s1 => as = [.d (stD E x)] ∧ Φ (.d (cuD (cut E x.1))) s1) : EV K b (tCall (SpB K sp_low_cut) [] E0 t) s Φ := by
  refine ev_callV (fun σ H tv tl Hd ps R Q k => h σ H tv tl Hd ps R Q fun vs H' as s' Hd' ps' g => k vs H' as s' Hd' ps' ?_)
  obtain ⟨rfl, g⟩ := g
  have e := cut_getD (E := E) (p := x.1) (by omega)
  refine ⟨((cut E x.1).getD (0, 1, 0), cut E x.2), _, rfl, rfl, rfl, cut_side (p := x.1) e, fun _ _ h => h, fun _ _ h => h, ?_⟩
  rw [← e]
  exact g
theorem ev_high (hx : x.1 < x.2 ∧ x.2 ≤ 2 * E.length) (h : EA K b t s fun as s1 => as = [.d (stD E x)] ∧ Φ (.d (cuD (cut E x.2))) s1) : EV K b (tCall (SpB K sp_high_cut) [] E0 t) s Φ := by
  refine ev_callV (fun σ H tv tl Hd ps R Q k => h σ H tv tl Hd ps R Q fun vs H' as s' Hd' ps' g => k vs H' as s' Hd' ps' ?_)
  obtain ⟨rfl, g⟩ := g
  exact ⟨((cut E x.1).getD (0, 1, 0), cut E x.2), _, rfl, rfl, rfl, fun c hc => cut_side hc, fun _ _ h => h, fun _ _ h => h, g⟩
theorem ev_bef (hE : Ends E) (hp : p ≤ 2 * E.length) (hq : q ≤ 2 * E.length) (h : EA K b t s fun as s1 => as = [.d (cuD (cut E p)), .d (cuD (cut E q))] ∧ Φ (.d (.bool (decide (p < q)))) s1) : EV K b (tCall (SpB K sp_is_before) [] E0 t) s Φ := by
  refine ev_callV (fun σ H tv tl Hd ps R Q k => h σ H tv tl Hd ps R Q fun vs H' as s' Hd' ps' g => k vs H' as s' Hd' ps' ?_)
  obtain ⟨rfl, g⟩ := g
  refine ⟨(cut E p, cut E q), _, rfl, rfl, rfl, ⟨fun c hc => cut_sm hE hc, fun c hc => cut_sm hE hc⟩, fun _ _ h => h, fun _ _ h => h, ?_⟩
  rw [cl_cut hE hp hq]
  exact g
theorem ev_less (hE : Ends E) (hp : p ≤ 2 * E.length) (hq : q ≤ 2 * E.length) (h : EA K b t s fun as s1 => as = [.d (cuD (cut E p)), .d (cuD (cut E q))] ∧ Φ (.d (cuD (cut E (min p q)))) s1) : EV K b (tCall (SpB K sp_lesser_cut) [] E0 t) s Φ := by
  refine ev_callV (fun σ H tv tl Hd ps R Q k => h σ H tv tl Hd ps R Q fun vs H' as s' Hd' ps' g => k vs H' as s' Hd' ps' ?_)
  obtain ⟨rfl, g⟩ := g
  refine ⟨(cut E p, cut E q), _, rfl, rfl, rfl, ⟨fun c hc => cut_sm hE hc, fun c hc => cut_sm hE hc⟩, fun _ _ h => h, fun _ _ h => h, ?_⟩
  rw [cut_min hE hp hq]
  exact g
theorem ev_great (hE : Ends E) (hp : p ≤ 2 * E.length) (hq : q ≤ 2 * E.length) (h : EA K b t s fun as s1 => as = [.d (cuD (cut E p)), .d (cuD (cut E q))] ∧ Φ (.d (cuD (cut E (max p q)))) s1) : EV K b (tCall (SpB K sp_greater_cut) [] E0 t) s Φ := by
  refine ev_callV (fun σ H tv tl Hd ps R Q k => h σ H tv tl Hd ps R Q fun vs H' as s' Hd' ps' g => k vs H' as s' Hd' ps' ?_)
  obtain ⟨rfl, g⟩ := g
  refine ⟨(cut E p, cut E q), _, rfl, rfl, rfl, ⟨fun c hc => cut_sm hE hc, fun c hc => cut_sm hE hc⟩, fun _ _ h => h, fun _ _ h => h, ?_⟩
  rw [cut_max hE hp hq]
  exact g
theorem ev_st (hp : p < 2 * E.length) (h : EA K b t s fun as s1 => as = [.d (cuD (cut E p)), .d (cuD (cut E q))] ∧ Φ (.d (stD E (p, q))) s1) : EV K b (tCall (SpB K sp_stretch_of) [] E0 t) s Φ := by
  refine ev_callV (fun σ H tv tl Hd ps R Q k => h σ H tv tl Hd ps R Q fun vs H' as s' Hd' ps' g => k vs H' as s' Hd' ps' ?_)
  obtain ⟨rfl, g⟩ := g
  have e := cut_getD hp
  exact ⟨((cut E p).getD (0, 1, 0), cut E q), _, by rw [e]; rfl, rfl, rfl, trivial, fun _ _ h => h, fun _ _ h => h, g⟩
end
def sp_meet_stretches : Spc where
  I := Bool × List Fr × List PQ × List PQ
  args := fun (o, E, l, m) => [vA o 0 (lsD E l), vA o 1 (lsD E m)]
  cells := fun (o, E, l, m) => if o then [.lst (lsD E l), .lst (lsD E m)] else []
  pre := fun (_, E, l, m) => Ends E ∧ OkL E l ∧ OkL E m ∧ l.length + m.length ≤ 1000
  post := fun (o, E, l, m) r os' => r = .new (.lst (lsD E (meetP l m))) ∧ os' = if o then [.lst (lsD E l), .lst (lsD E m)] else []
section
variable {P : Program} {w : World} {K : PySem.W.Frag} {mg : Str → Option Value} {base : Heap}
theorem ok_meet_stretches (T : Tx K mg) : FnOk P w K mg base CX0 3 T.a_meet_stretches T.d_meet_stretches ["first", "second"] (SpB K sp_meet_stretches) := by
  refine T.F_meet_stretches.ok sc_meet_stretches (fun vs H Q E h => spB_len h (fun _ => rfl)) (fun cdv A outer s H vs Q E hr h => ⟨_, PSs.nox ((pss_cons (ps_set (i := 2) sc_meet_stretches.nd rfl (.inl rfl) (pe_lst pa_nil))
      (pss_cons (ps_set (i := 3) sc_meet_stretches.nd rfl (.inl rfl) pe_int)
      (pss_cons (ps_set (i := 4) sc_meet_stretches.nd rfl (.inl rfl) pe_int)
      (pss_cons (ps_while PassesOwn.never (PW.pt (pw_and (pt_cmpR op_ltA (pv 3) (pe_callB call_len (by rfl) T.z_len (by decide +kernel) (pa_cons (pv 0) pa_nil)) (nomark _)) (pw_and1 (pt_cmpR op_ltA (pv 4) (pe_callB call_len (by rfl) T.z_len (by decide +kernel) (pa_cons (pv 1) pa_nil)) (nomark _)))))
      (pss_cons (ps_set (i := 5) sc_meet_stretches.nd rfl (.inl rfl) (pe_call (ok_high_cut T) (hr.mono (by decide)) (by rfl) T.g_high_cut T.F_high_cut.kp (b_high_cut T.F_high_cut) .nil pass0 (pa_cons (pe_ix ix_seq (pv 0) (pv 3) (fun _ _ => rfl)) pa_nil)))
      (pss_cons (ps_set (i := 6) sc_meet_stretches.nd rfl (.inl rfl) (pe_call (ok_high_cut T) (hr.mono (by decide)) (by rfl) T.g_high_cut T.F_high_cut.kp (b_high_cut T.F_high_cut) .nil pass0 (pa_cons (pe_ix ix_seq (pv 1) (pv 4) (fun _ _ => rfl)) pa_nil)))
      (pss_cons (ps_set (i := 7) sc_meet_stretches.nd rfl (.inl rfl) (pe_call (ok_greater_cut T) (hr.mono (by decide)) (by rfl) T.g_greater_cut T.F_greater_cut.kp (b_greater_cut T.F_greater_cut) .nil pass0 (pa_cons (pe_call (ok_low_cut T) (hr.mono (by decide)) (by rfl) T.g_low_cut T.F_low_cut.kp (b_low_cut T.F_low_cut) .nil pass0 (pa_cons (pe_ix ix_seq (pv 0) (pv 3) (fun _ _ => rfl)) pa_nil)) (pa_cons (pe_call (ok_low_cut T) (hr.mono (by decide)) (by rfl) T.g_low_cut T.F_low_cut.kp (b_low_cut T.F_low_cut) .nil pass0 (pa_cons (pe_ix ix_seq (pv 1) (pv 4) (fun _ _ => rfl)) pa_nil)) pa_nil))))
      (pss_cons (ps_set (i := 8) sc_meet_stretches.nd rfl (.inl rfl) (pe_call (ok_lesser_cut T) (hr.mono (by decide)) (by rfl) T.g_lesser_cut T.F_lesser_cut.kp (b_lesser_cut T.F_lesser_cut) .nil pass0 (pa_cons (pv 5) (pa_cons (pv 6) pa_nil))))
      (pss_cons (ps_if (pt_truth (pe_call (ok_is_before T) (hr.mono (by decide)) (by rfl) T.g_is_before T.F_is_before.kp (b_is_before T.F_is_before) .nil pass0 (pa_cons (pv 7) (pa_cons (pv 8) pa_nil))) (by intro _; rfl))
      (pss_one (ps_expr (pe_bm PySem.F.plainAttrs_list PySem.F.slot_list_append PySem.F.type_list_append mt_append (pv 2) (pa_cons (pe_call (ok_stretch_of T) (hr.mono (by decide)) (by rfl) T.g_stretch_of T.F_stretch_of.kp (b_stretch_of T.F_stretch_of) .nil pass0 (pa_cons (pv 7) (pa_cons (pv 8) pa_nil))) pa_nil))))
      pss_nil)
      (pss_one (ps_if (pt_truth (pe_call (ok_is_before T) (hr.mono (by decide)) (by rfl) T.g_is_before T.F_is_before.kp (b_is_before T.F_is_before) .nil pass0 (pa_cons (pv 5) (pa_cons (pv 6) pa_nil))) (by intro _; rfl))
      (pss_one (ps_aug (i := 3) sc_meet_stretches.nd rfl (.inl rfl) pe_int ip_add))
      (pss_one (ps_aug (i := 4) sc_meet_stretches.nd rfl (.inl rfl) pe_int ip_add))))))))))
      (pss_one (ps_ret (pv 2)))))))), ?_⟩)
  refine go_fn (L := ["first", "second", "found", "i", "j", "one", "other", "low", "high"]) h (fun b i hp hX => ?_)
  dsimp only [cxOf, L2.Cx.nox, L2.Cx.wish]
  
  obtain ⟨o, E, l, m⟩ := i
  obtain ⟨hE, hl, hm, hlen⟩ := hp
  have v1 : ∀ ss c, Vw ⟨ss, (sp_meet_stretches.cells (o, E, l, m)) ++ [c]⟩ (vA o 0 (lsD E l)) (.list (lsD E l)) := by
    cases o with
    | true => intro ss c; exact ⟨_, rfl, rfl⟩
    | false => intro ss c; exact rfl
  have v2 : ∀ ss c, Vw ⟨ss, (sp_meet_stretches.cells (o, E, l, m)) ++ [c]⟩ (vA o 1 (lsD E m)) (.list (lsD E m)) := by
    cases o with
    | true => intro ss c; exact ⟨_, rfl, rfl⟩
    | false => intro ss c; exact rfl
  show GO K b _ ⟨[some (vA o 0 (lsD E l)), some (vA o 1 (lsD E m)), none, none, none, none, none, none, none], sp_meet_stretches.cells (o, E, l, m)⟩ _
  have hcs : ∀ r os', os' = sp_meet_stretches.cells (o, E, l, m) → r = Rv.new (.lst (lsD E (meetP l m))) → sp_meet_stretches.post (o, E, l, m) r os' := fun r os' h1 h2 => ⟨h2, h1⟩
  generalize sp_meet_stretches.post (o, E, l, m) = post at *
  generalize sp_meet_stretches.cells (o, E, l, m) = cs at *
  generalize vA o 0 (lsD E l) = a1 at *
  generalize vA o 1 (lsD E m) = a2 at *
  refine go_seq (go_asg (ev_lstO (ea_nil ⟨[], rfl, rfl, gt_name ?_⟩)))
  repeat walk_at "ev3"
  
  refine go_while (fun n s => ∃ (i j : Nat) (acc : List PQ) (x5 x6 x7 x8 : Option Dw.A), i ≤ l.length ∧ j ≤ m.length ∧ n = (l.length - i) + (m.length - j) ∧ acc.length ≤ i + j ∧ acc ++ meetP (l.drop i) (m.drop j) = meetP l m ∧
    s = ⟨[some a1, some a2, some (.o cs.length), some (.d (.int i)), some (.d (.int j)), x5, x6, x7, x8], cs ++ [.lst (lsD E acc)]⟩) (l.length + m.length) ⟨0, 0, [], none, none, none, none, Nat.zero_le _, Nat.zero_le _, by omega, Nat.zero_le _, rfl, rfl⟩ ?_
  rintro n s1 ⟨i, j, acc, x5, x6, x7, x8, hi, hj, rfl, hacc, hmeet, rfl⟩
  repeat walk_at "ev3"
  
  have fin : ¬ (i < l.length ∧ j < m.length) → acc = meetP l m := fun h => by
    rcases Nat.lt_or_ge i l.length with h1 | h1
    · rw [List.drop_of_length_le (show m.length ≤ j by omega), meetP_nil2, List.append_nil] at hmeet
      exact hmeet
    · rw [List.drop_of_length_le h1, meetP_nil1, List.append_nil] at hmeet
      exact hmeet
  have out : acc = meetP l m → GO K b (tRet (tVar 2)) ⟨[some a1, some a2, some (.o cs.length), some (.d (.int i)), some (.d (.int j)), x5, x6, x7, x8], cs ++ [.lst (lsD E acc)]⟩ (RTE cs.length post) := fun e => by
    subst e
    refine go_ret (ev_var rfl (rt_new (Nat.le_refl _) List.getElem?_concat_length (fun z => nomatch z) (hcs _ _ ?_ rfl)))
    show (cs ++ _).take cs.length = cs
    rw [List.take_left]
  refine ⟨fun h => ?_, fun h => ⟨fun z => (nomatch z), fun _ => out (fin fun z => ?_)⟩⟩
  rotate_left
  · have := of_decide_eq_false h
    rw [lsD_len] at this
    omega
  have h1 : i < l.length := by
    have := of_decide_eq_true h
    rw [lsD_len] at this
    omega
  repeat walk_at "ev3"
  
  refine ⟨fun h => ?_, fun h => out (fin fun z => ?_)⟩
  rotate_left
  · have := of_decide_eq_false h
    rw [lsD_len] at this
    omega
  have h2 : j < m.length := by
    have := of_decide_eq_true h
    rw [lsD_len] at this
    omega
  obtain ⟨⟨p, q⟩, hx⟩ : ∃ x, l[i]? = some x := ⟨_, List.getElem?_eq_getElem h1⟩
  obtain ⟨⟨p', q'⟩, hy⟩ : ∃ x, m[j]? = some x := ⟨_, List.getElem?_eq_getElem h2⟩
  obtain ⟨g1, g2⟩ := hl _ (List.mem_of_getElem? hx)
  obtain ⟨g3, g4⟩ := hm _ (List.mem_of_getElem? hy)
  dsimp only at g1 g2 g3 g4
  have ex := lsD_get (E := E) hx
  have ey := lsD_get (E := E) hy
  have dl := drop_at hx
  have dm := drop_at hy
  rw [dl, dm, meetP_cons] at hmeet
  repeat walk_at "ev3"
  
  refine ev_high (x := (p, q)) ⟨g1, g2⟩ ?_
  repeat walk_at "ev3"
  
  refine ev_high (x := (p', q')) ⟨g3, g4⟩ ?_
  repeat walk_at "ev3"
  
  refine ev_great hE (p := p) (q := p') (by omega) (by omega) ?_
  repeat walk_at "ev3"
  
  refine ev_low (x := (p, q)) ⟨g1, g2⟩ ?_
  repeat walk_at "ev3"
  
  refine ev_low (x := (p', q')) ⟨g3, g4⟩ ?_
  repeat walk_at "ev3"
  
  refine ev_less hE (p := q) (q := q') (by omega) (by omega) ?_
  repeat walk_at "ev2"
  
  refine go_mid (fun s => ∃ acc2 : List PQ, acc2.length ≤ i + j + 1 ∧ (acc2 ++ if q < q' then meetP (l.drop (i + 1)) ((p', q') :: m.drop (j + 1)) else meetP ((p, q) :: l.drop (i + 1)) (m.drop (j + 1))) = meetP l m ∧
    s = ⟨[some a1, some a2, some (.o cs.length), some (.d (.int i)), some (.d (.int j)), some (.d (cuD (cut E q))), some (.d (cuD (cut E q'))), some (.d (cuD (cut E (max p p')))), some (.d (cuD (cut E (min q q'))))], cs ++ [.lst (lsD E acc2)]⟩) ?_ ?_
  · repeat walk_at "ev3"
  
    refine ev_bef hE (p := max p p') (q := min q q') (by omega) (by omega) ?_
    repeat walk_at "ev3"
  
    refine ⟨fun h => ?_, fun h => ?_⟩
    · have hh := of_decide_eq_true h
      rw [if_pos hh] at hmeet
      repeat walk_at "ev3"
  
      refine ev_bmL (ev_var rfl ⟨⟨_, _, rfl, List.getElem?_concat_length⟩, ?_⟩)
      repeat walk_at "ev3"
  
      refine ev_st (E := E) (p := max p p') (q := min q q') (by omega) ?_
      repeat walk_at "ev3"
  
      refine vm_append (ds := lsD E acc) List.getElem?_concat_length (Nat.lt_of_le_of_lt (show (lsD E acc).length ≤ 1000 by rw [lsD_len]; omega) (by decide)) ?_
      refine ⟨acc ++ [(max p p', min q q')], by rw [List.length_append, List.length_singleton]; omega, by rw [List.append_assoc]; exact hmeet, ?_⟩
      show S.mk _ ((cs ++ [C.lst (lsD E acc)]).set cs.length _) = _
      rw [lsD_snoc, List.set_append_right _ _ (Nat.le_refl _), Nat.sub_self]
      rfl
    · have hh := of_decide_eq_false h
      rw [if_neg hh] at hmeet
      repeat walk_at "ev3"
  
      exact ⟨acc, by omega, hmeet, rfl⟩
  · rintro s2 ⟨acc2, hacc2, hmeet2, rfl⟩
    repeat walk_at "ev3"
  
    refine ev_bef hE (p := q) (q := q') (by omega) (by omega) ?_
    repeat walk_at "ev3"
  
    refine ⟨fun h => ?_, fun h => ?_⟩
    · have hh := of_decide_eq_true h
      rw [if_pos hh, ← dm] at hmeet2
      repeat walk_at "ev3"
  
      exact ⟨_, by omega, i + 1, j, acc2, _, _, _, _, h1, hj, rfl, by omega, hmeet2, rfl⟩
    · have hh := of_decide_eq_false h
      rw [if_neg hh, ← dl] at hmeet2
      repeat walk_at "ev3"
  
      exact ⟨_, by omega, i, j + 1, acc2, _, _, _, _, hi, h2, rfl, by omega, hmeet2, rfl⟩
end
def sp_in_order : Spc where
  I := Bool × List Fr × List PQ × List PQ
  args := fun (o, E, l, m) => [vA o 0 (lsD E l), vA o 1 (lsD E m)]
  cells := fun (o, E, l, m) => if o then [.lst (lsD E l), .lst (lsD E m)] else []
  pre := fun (_, E, l, m) => Ends E ∧ OkL E l ∧ OkL E m ∧ l.length + m.length ≤ 1000
  post := fun (o, E, l, m) r os' => r = .val (.list (lsD E (mergeP l m))) ∧ os' = if o then [.lst (lsD E l), .lst (lsD E m)] else []
section
variable {P : Program} {w : World} {K : PySem.W.Frag} {mg : Str → Option Value} {base : Heap}
theorem ok_in_order (T : Tx K mg) : FnOk P w K mg base CX0 2 T.a_in_order T.d_in_order ["first", "second"] (SpB K sp_in_order) := by
  refine T.F_in_order.ok sc_in_order (fun vs H Q E h => spB_len h (fun _ => rfl)) (fun cdv A outer s H vs Q E hr h => ⟨_, PSs.nox ((pss_cons (ps_set (i := 2) sc_in_order.nd rfl (.inl rfl) (pe_lst pa_nil))
      (pss_cons (ps_set (i := 3) sc_in_order.nd rfl (.inl rfl) pe_int)
      (pss_cons (ps_set (i := 4) sc_in_order.nd rfl (.inl rfl) pe_int)
      (pss_cons (ps_while PassesOwn.never (PW.pt (pw_and (pt_cmpR op_ltA (pv 3) (pe_callB call_len (by rfl) T.z_len (by decide +kernel) (pa_cons (pv 0) pa_nil)) (nomark _)) (pw_and1 (pt_cmpR op_ltA (pv 4) (pe_callB call_len (by rfl) T.z_len (by decide +kernel) (pa_cons (pv 1) pa_nil)) (nomark _)))))
      (pss_one (ps_if (pt_truth (pe_call (ok_is_before T) (hr.mono (by decide)) (by rfl) T.g_is_before T.F_is_before.kp (b_is_before T.F_is_before) .nil pass0 (pa_cons (pe_call (ok_low_cut T) (hr.mono (by decide)) (by rfl) T.g_low_cut T.F_low_cut.kp (b_low_cut T.F_low_cut) .nil pass0 (pa_cons (pe_ix ix_seq (pv 1) (pv 4) (fun _ _ => rfl)) pa_nil)) (pa_cons (pe_call (ok_low_cut T) (hr.mono (by decide)) (by rfl) T.g_low_cut T.F_low_cut.kp (b_low_cut T.F_low_cut) .nil pass0 (pa_cons (pe_ix ix_seq (pv 0) (pv 3) (fun _ _ => rfl)) pa_nil)) pa_nil))) (by intro _; rfl))
      (pss_cons (ps_expr (pe_bm PySem.F.plainAttrs_list PySem.F.slot_list_append PySem.F.type_list_append mt_append (pv 2) (pa_cons (pe_ix ix_seq (pv 1) (pv 4) (fun _ _ => rfl)) pa_nil)))
      (pss_one (ps_aug (i := 4) sc_in_order.nd rfl (.inl rfl) pe_int ip_add)))
      (pss_cons (ps_expr (pe_bm PySem.F.plainAttrs_list PySem.F.slot_list_append PySem.F.type_list_append mt_append (pv 2) (pa_cons (pe_ix ix_seq (pv 0) (pv 3) (fun _ _ => rfl)) pa_nil)))
      (pss_one (ps_aug (i := 3) sc_in_order.nd rfl (.inl rfl) pe_int ip_add))))))
      (pss_one (ps_ret (pe_op op_addA (pe_op op_addA (pv 2) (pe_callTy call_list_of (by rfl) T.z_list (by decide +kernel) (pa_cons (pe_slice sl_any (pv 0) (po_some (pv 3)) po_none) pa_nil))) (pe_callTy call_list_of (by rfl) T.z_list (by decide +kernel) (pa_cons (pe_slice sl_any (pv 1) (po_some (pv 4)) po_none) pa_nil)))))))))), ?_⟩)
  refine go_fn (L := ["first", "second", "found", "i", "j"]) h (fun b i hp hX => ?_)
  dsimp only [cxOf, L2.Cx.nox, L2.Cx.wish]
  
  obtain ⟨o, E, l, m⟩ := i
  obtain ⟨hE, hl, hm, hlen⟩ := hp
  have v1 : ∀ ss c, Vw ⟨ss, (sp_in_order.cells (o, E, l, m)) ++ c⟩ (vA o 0 (lsD E l)) (.list (lsD E l)) := by
    cases o with
    | true => intro ss c; exact ⟨_, rfl, rfl⟩
    | false => intro ss c; exact rfl
  have v2 : ∀ ss c, Vw ⟨ss, (sp_in_order.cells (o, E, l, m)) ++ c⟩ (vA o 1 (lsD E m)) (.list (lsD E m)) := by
    cases o with
    | true => intro ss c; exact ⟨_, rfl, rfl⟩
    | false => intro ss c; exact rfl
  show GO K b _ ⟨[some (vA o 0 (lsD E l)), some (vA o 1 (lsD E m)), none, none, none], sp_in_order.cells (o, E, l, m)⟩ _
  have hcs : ∀ r os', os' = sp_in_order.cells (o, E, l, m) → r = Rv.val (.list (lsD E (mergeP l m))) → sp_in_order.post (o, E, l, m) r os' := fun r os' h1 h2 => ⟨h2, h1⟩
  
  generalize sp_in_order.post (o, E, l, m) = post at *
  generalize sp_in_order.cells (o, E, l, m) = cs at *
  generalize vA o 0 (lsD E l) = a1 at *
  generalize vA o 1 (lsD E m) = a2 at *
  
  refine go_seq (go_asg (ev_lstO (ea_nil ⟨[], rfl, rfl, gt_name ?_⟩)))
  repeat walk_at "ev3"
  
  refine go_while (fun n s => ∃ (i j : Nat) (acc : List PQ), i ≤ l.length ∧ j ≤ m.length ∧ n = (l.length - i) + (m.length - j) ∧ acc.length = i + j ∧ acc ++ mergeP (l.drop i) (m.drop j) = mergeP l m ∧
    s = ⟨[some a1, some a2, some (.o cs.length), some (.d (.int i)), some (.d (.int j))], cs ++ [.lst (lsD E acc)]⟩) (l.length + m.length) ⟨0, 0, [], Nat.zero_le _, Nat.zero_le _, by omega, rfl, rfl, rfl⟩ ?_
  rintro n s1 ⟨i, j, acc, hi, hj, rfl, hacc, hmeet, rfl⟩
  repeat walk_at "ev3"
  
  have fin : ¬ (i < l.length ∧ j < m.length) → acc ++ l.drop i ++ m.drop j = mergeP l m := fun h => by
    rcases Nat.lt_or_ge i l.length with h1 | h1
    · rw [List.drop_of_length_le (show m.length ≤ j by omega), mergeP_nil2] at hmeet
      rw [List.drop_of_length_le (show m.length ≤ j by omega), List.append_nil]
      exact hmeet
    · rw [List.drop_of_length_le h1, mergeP_nil1] at hmeet
      rw [List.drop_of_length_le h1, List.append_nil]
      exact hmeet
  have out : ¬ (i < l.length ∧ j < m.length) → GO K b (tRet (tOp (rAddA K) (tOp (rAddA K) (tVar 2) (tCB (fun xs H Q => ∃ p ys, xs = [V.ref p] ∧ (SqL K H p ys ∨ SqT K H p ys) ∧ ∀ l, H l = none → Q (V.ref l) (upd H l (.lst ys))) (tCons (tSl (rSlAny K) (tVar 0) (tPart (tVar 3)) tNoPart) tNil))) (tCB (fun xs H Q => ∃ p ys, xs = [V.ref p] ∧ (SqL K H p ys ∨ SqT K H p ys) ∧ ∀ l, H l = none → Q (V.ref l) (upd H l (.lst ys))) (tCons (tSl (rSlAny K) (tVar 1) (tPart (tVar 4)) tNoPart) tNil))))
      ⟨[some a1, some a2, some (.o cs.length), some (.d (.int i)), some (.d (.int j))], cs ++ [.lst (lsD E acc)]⟩ (RTE cs.length post) := fun h => by
    have hf := fin h
    refine go_ret (ev_op (ev_op (ev_var rfl ?_)))
    repeat walk_at "ev3"
  
    refine vs_list (v1 _ _) ?_
    repeat walk_at "ev3"
  
    refine vc_list (.inl rfl) ?_
    repeat walk_at "ev3"
  
    refine v2_addL ⟨_, get_last, rfl⟩ rfl ?_ ?_
    · rw [cutD_from (by rw [lsD_len]; exact hi), lsD_len, List.length_drop, lsD_len]
      exact Nat.le_trans (show _ ≤ 1000 by omega) (by decide)
    repeat walk_at "ev3"
  
    refine vs_list (v2 _ _) ?_
    repeat walk_at "ev3"
  
    refine vc_list (.inl rfl) ?_
    refine v2_addL rfl rfl ?_ ?_
    · rw [cutD_from (by rw [lsD_len]; exact hi), cutD_from (by rw [lsD_len]; exact hj), List.length_append, lsD_len, List.length_drop, lsD_len, List.length_drop, lsD_len]
      exact Nat.le_trans (show _ ≤ 1000 by omega) (by decide)
    refine rt_val (hcs _ _ ?_ ?_)
    · show (cs ++ _).take cs.length = cs
      rw [List.take_left]
    · rw [cutD_from (by rw [lsD_len]; exact hi), cutD_from (by rw [lsD_len]; exact hj), ← hf]
      simp only [lsD, List.map_append, List.map_drop]
  refine ⟨fun h => ?_, fun h => ?_⟩
  · have h1 : i < l.length := by
      have := of_decide_eq_true h
      rw [lsD_len] at this
      omega
    repeat walk_at "ev3"
  
    refine ⟨fun h => ?_, fun h => ?_⟩
    · have h2 : j < m.length := by
        have := of_decide_eq_true h
        rw [lsD_len] at this
        omega
      obtain ⟨x, hx⟩ : ∃ x, l[i]? = some x := ⟨_, List.getElem?_eq_getElem h1⟩
      obtain ⟨y, hy⟩ : ∃ x, m[j]? = some x := ⟨_, List.getElem?_eq_getElem h2⟩
      have g1 := hl _ (List.mem_of_getElem? hx)
      have g3 := hm _ (List.mem_of_getElem? hy)
      have ex := lsD_get (E := E) hx
      have ey := lsD_get (E := E) hy
      have dl := drop_at hx
      have dm := drop_at hy
      rw [dl, dm, mergeP_cons] at hmeet
      repeat walk_at "ev3"
  
      refine ev_bef hE (p := y.1) (q := x.1) (by omega) (by omega) ?_
      repeat walk_at "ev3"
  
      refine ev_low g3 ?_
      repeat walk_at "ev3"
  
      refine ev_low g1 ?_
      repeat walk_at "ev3"
  
      refine ⟨fun h => ?_, fun h => ?_⟩
      · have hh := of_decide_eq_true h
        rw [if_pos hh, ← dl] at hmeet
        repeat walk_at "ev3"
  
        refine ev_bmL (ev_var rfl ⟨⟨_, _, rfl, List.getElem?_concat_length⟩, ?_⟩)
        repeat walk_at "ev3"
  
        refine vm_appL (by rw [lsD_len]; omega) ?_
        rw [lsD_snoc]
        repeat walk_at "ev3"
  
        exact ⟨_, by omega, i, j + 1, acc ++ [y], hi, h2, rfl, by rw [List.length_append, List.length_singleton]; omega, by rw [List.append_assoc]; exact hmeet, rfl⟩
      · have hh := of_decide_eq_false h
        rw [if_neg hh, ← dm] at hmeet
        repeat walk_at "ev3"
  
        refine ev_bmL (ev_var rfl ⟨⟨_, _, rfl, List.getElem?_concat_length⟩, ?_⟩)
        repeat walk_at "ev3"
  
        refine vm_appL (by rw [lsD_len]; omega) ?_
        rw [lsD_snoc]
        repeat walk_at "ev3"
  
        exact ⟨_, by omega, i + 1, j, acc ++ [x], h1, hj, rfl, by rw [List.length_append, List.length_singleton]; omega, by rw [List.append_assoc]; exact hmeet, rfl⟩
    · have h2 := of_decide_eq_false h
      rw [lsD_len] at h2
      exact out (by omega)
  · have h2 := of_decide_eq_false h
    rw [lsD_len] at h2
    exact ⟨fun z => (nomatch z), fun _ => out (by omega)⟩
end
def sp_join_stretches : Spc where
  I := Bool × List Fr × List PQ × List PQ
  args := fun (o, E, l, m) => [vA o 0 (lsD E l), vA o 1 (lsD E m)]
  cells := fun (o, E, l, m) => if o then [.lst (lsD E l), .lst (lsD E m)] else []
  pre := fun (_, E, l, m) => Ends E ∧ OkL E l ∧ OkL E m ∧ l.length + m.length ≤ 1000
  post := fun (o, E, l, m) r os' => r = .new (.lst (lsD E (joinP l m))) ∧ os' = if o then [.lst (lsD E l), .lst (lsD E m)] else []
section
variable {P : Program} {w : World} {K : PySem.W.Frag} {mg : Str → Option Value} {base : Heap}
theorem ok_join_stretches (T : Tx K mg) : FnOk P w K mg base CX0 3 T.a_join_stretches T.d_join_stretches ["first", "second"] (SpB K sp_join_stretches) := by
  refine T.F_join_stretches.ok sc_join_stretches (fun vs H Q E h => spB_len h (fun _ => rfl)) (fun cdv A outer s H vs Q E hr h => ⟨_, PSs.nox ((pss_cons (ps_set (i := 2) sc_join_stretches.nd rfl (.inl rfl) (pe_lst pa_nil))
      (pss_cons (ps_for PassesOwn.never rfl (pi_any (pe_call (ok_in_order T) (hr.mono (by decide)) (by rfl) T.g_in_order T.F_in_order.kp (b_in_order T.F_in_order) .nil pass0 (pa_cons (pv 0) (pa_cons (pv 1) pa_nil)))) (pg_name (i := 3) sc_join_stretches.nd rfl (.inl rfl) (.inr rfl))
      (pss_cons (ps_set (i := 4) sc_join_stretches.nd rfl (.inl rfl) (pe_call (ok_low_cut T) (hr.mono (by decide)) (by rfl) T.g_low_cut T.F_low_cut.kp (b_low_cut T.F_low_cut) .nil pass0 (pa_cons (pv 3) pa_nil)))
      (pss_cons (ps_set (i := 5) sc_join_stretches.nd rfl (.inl rfl) (pe_call (ok_high_cut T) (hr.mono (by decide)) (by rfl) T.g_high_cut T.F_high_cut.kp (b_high_cut T.F_high_cut) .nil pass0 (pa_cons (pv 3) pa_nil)))
      (pss_one (ps_if (PW.pt (pw_and (pt_truth (pv 2) (by intro _; rfl)) (pw_and1 (pt_not (pt_truth (pe_call (ok_is_before T) (hr.mono (by decide)) (by rfl) T.g_is_before T.F_is_before.kp (b_is_before T.F_is_before) .nil pass0 (pa_cons (pe_ix ix_seq (pe_ix ix_seq (pv 2) (pe_un un_neg pe_int) (fun _ _ => rfl)) pe_int (fun _ _ => rfl)) (pa_cons (pv 4) pa_nil))) (by intro _; rfl))))))
      (pss_cons (ps_asg (pe_bm0 PySem.F.plainAttrs_list PySem.F.slot_list_pop PySem.F.type_list_pop mt_pop (pv 2)) (pg_tup rfl (pgs_cons (pg_name (i := 6) sc_join_stretches.nd rfl (.inl rfl) (.inr rfl)) (pgs_cons (pg_name (i := 7) sc_join_stretches.nd rfl (.inl rfl) (.inr rfl)) pgs_nil))))
      (pss_one (ps_expr (pe_bm PySem.F.plainAttrs_list PySem.F.slot_list_append PySem.F.type_list_append mt_append (pv 2) (pa_cons (pe_tup (pa_cons (pv 6) (pa_cons (pe_call (ok_greater_cut T) (hr.mono (by decide)) (by rfl) T.g_greater_cut T.F_greater_cut.kp (b_greater_cut T.F_greater_cut) .nil pass0 (pa_cons (pv 7) (pa_cons (pv 5) pa_nil))) pa_nil))) pa_nil)))))
      (pss_one (ps_expr (pe_bm PySem.F.plainAttrs_list PySem.F.slot_list_append PySem.F.type_list_append mt_append (pv 2) (pa_cons (pe_tup (pa_cons (pv 4) (pa_cons (pv 5) pa_nil))) pa_nil)))))))))
      (pss_one (ps_ret (pe_lc (own := [("low", 4), ("high", 5)]) rfl sc_join_stretches.nd (pi_any (pv 2)) (blkOk_by (own := [("low", 4), ("high", 5)]) (N := ["first", "second", "cuts", "stretch", "low", "high", "start", "end"]) (sc := defScope s_join_stretches) (by decide +kernel)) (fun _ _ _ _ _ => (pg_tup2 (K := K) rfl (i := 4) (j := 5) rfl sc_join_stretches.nd rfl rfl (.inl rfl) (.inl rfl) (.inr rfl) (.inr rfl))) (fun _ _ _ _ _ => pts_nil) (fun _ _ _ _ _ => (pe_call (ok_stretch_of T) (hr.mono (by decide)) (by rfl) T.g_stretch_of T.F_stretch_of.kp (b_stretch_of T.F_stretch_of) .nil pass0 (pa_cons (pv 4) (pa_cons (pv 5) pa_nil)))))))))), ?_⟩)
  refine go_fn (L := ["first", "second", "cuts", "stretch", "low", "high", "start", "end"]) h (fun b i hp hX => ?_)
  dsimp only [cxOf, L2.Cx.nox, L2.Cx.wish]
  
  obtain ⟨o, E, l, m⟩ := i
  obtain ⟨hE, hl, hm, hlen⟩ := hp
  have v1 : ∀ ss c, Vw ⟨ss, (sp_join_stretches.cells (o, E, l, m)) ++ c⟩ (vA o 0 (lsD E l)) (.list (lsD E l)) := by
    cases o with
    | true => intro ss c; exact ⟨_, rfl, rfl⟩
    | false => intro ss c; exact rfl
  have v2 : ∀ ss c, Vw ⟨ss, (sp_join_stretches.cells (o, E, l, m)) ++ c⟩ (vA o 1 (lsD E m)) (.list (lsD E m)) := by
    cases o with
    | true => intro ss c; exact ⟨_, rfl, rfl⟩
    | false => intro ss c; exact rfl
  show GO K b _ ⟨[some (vA o 0 (lsD E l)), some (vA o 1 (lsD E m)), none, none, none, none, none, none], sp_join_stretches.cells (o, E, l, m)⟩ _
  have hcs : ∀ r os', os' = sp_join_stretches.cells (o, E, l, m) → r = Rv.new (.lst (lsD E (joinP l m))) → sp_join_stretches.post (o, E, l, m) r os' := fun r os' h1 h2 => ⟨h2, h1⟩
  
  have oo : o = true → (sp_join_stretches.cells (o, E, l, m))[0]? = some (C.lst (lsD E l)) ∧ (sp_join_stretches.cells (o, E, l, m))[1]? = some (C.lst (lsD E m)) := by rintro rfl; exact ⟨rfl, rfl⟩
  generalize sp_join_stretches.post (o, E, l, m) = post at *
  generalize sp_join_stretches.cells (o, E, l, m) = cs at *
  obtain ⟨a1, ha1⟩ : ∃ a, a = vA o 0 (lsD E l) := ⟨_, rfl⟩
  obtain ⟨a2, ha2⟩ : ∃ a, a = vA o 1 (lsD E m) := ⟨_, rfl⟩
  rw [← ha1, ← ha2]
  refine go_seq (go_asg (ev_lstO (ea_nil ⟨[], rfl, rfl, gt_name ?_⟩)))
  refine go_seq (go_for (ei_anyL (ei_list ?_)))
  refine ev_callA (f := sp_in_order) (o := o) (n := 0) (m := 1) (xs := lsD E l) (ys := lsD E m) (i := (o, E, l, m)) rfl rfl ⟨hE, hl, hm, hlen⟩ (fun _ _ h => h) (fun r os' h => h.2) (by decide) ?_
  repeat walk_at "ev3"
  
  refine ⟨by rw [ha1, ha2], fun ho => ⟨?_, ?_⟩, ?_⟩
  · show (cs ++ _)[0]? = _
    rw [List.getElem?_append_left (List.getElem?_eq_some_iff.mp (oo ho).1).1]
    exact (oo ho).1
  · show (cs ++ _)[1]? = _
    rw [List.getElem?_append_left (List.getElem?_eq_some_iff.mp (oo ho).2).1]
    exact (oo ho).2
  rintro r os' ⟨rfl, _⟩
  show ∃ ds Pc, _
  refine ⟨lsD E (mergeP l m), fun _ => True, .inl rfl, trivial, ?_⟩
  have hr := mergeP_ok hl hm
  have hrl : (mergeP l m).length ≤ 1000 := by rw [mergeP_len]; omega
  have hjp : joinP l m = match mergeP l m with | [] => [] | (p, q) :: r => joinF p q r := rfl
  generalize mergeP l m = r at *
  refine ⟨fun i s => ∃ (acc : List PQ) (x3 x4 x5 x6 x7 : Option Dw.A), JI E r (joinP l m) i acc ∧ s = ⟨[some a1, some a2, some (.o cs.length), x3, x4, x5, x6, x7], cs ++ [.lst (cuL E acc)]⟩, ⟨[], none, none, none, none, none, ⟨(fun x hx => by cases hx), Nat.le_refl _, .inl ⟨rfl, rfl⟩⟩, rfl⟩, fun _ _ _ _ => trivial, ?_, ?_⟩
  · rintro i x s2 hx ⟨acc, x3, x4, x5, x6, x7, ⟨hok, hacc, hJ⟩, rfl⟩
    have hi : i < r.length := by
      have := (List.getElem?_eq_some_iff.mp hx).1
      rw [lsD_len] at this
      exact this
    obtain ⟨⟨p, q⟩, hy⟩ : ∃ y, r[i]? = some y := ⟨_, List.getElem?_eq_getElem hi⟩
    have e : x = stD E (p, q) := by
      rw [lsD, List.getElem?_map, hy] at hx
      exact (Option.some.inj hx).symm
    subst e
    have hpq := hr _ (List.mem_of_getElem? hy)
    have dr := drop_at hy
    dsimp only at hpq
    repeat walk_at "ev2"
  
    refine ev_low (x := (p, q)) hpq ?_
    repeat walk_at "ev2"
  
    refine ev_high (x := (p, q)) hpq ?_
    repeat walk_at "ev2"
  
    have app : ∀ (u6 u7 : Option Dw.A) acc2, OkL E acc2 → acc2.length ≤ i → (∃ a s e, acc2 ++ [(p, q)] = a ++ [(s, e)] ∧ a ++ joinF s e (r.drop (i + 1)) = joinP l m) → ∃ (acc : List PQ) (x3 x4 x5 x6 x7 : Option Dw.A), JI E r (joinP l m) (i + 1) acc ∧ (⟨[some a1, some a2, some (.o cs.length), some (.d (stD E (p, q))), some (.d (cuD (cut E p))), some (.d (cuD (cut E q))), u6, u7], cs ++ [.lst (cuL E (acc2 ++ [(p, q)]))]⟩ : S) = ⟨[some a1, some a2, some (.o cs.length), x3, x4, x5, x6, x7], cs ++ [.lst (cuL E acc)]⟩ := fun u6 u7 acc2 h1 h2 h3 =>
      ⟨acc2 ++ [(p, q)], _, _, _, _, _, ⟨fun z hz => by
        rcases List.mem_append.mp hz with hz | hz
        · exact h1 z hz
        · rw [List.mem_singleton.mp hz]; exact hpq, by rw [List.length_append, List.length_singleton]; omega, .inr h3⟩, rfl⟩
    refine ⟨_, ⟨_, get_last, rfl⟩, fun h => ?_, fun h => ?_⟩
    · -- there is a last pair
      have hne : acc ≠ [] := fun z => by subst z; cases h
      rcases hJ with ⟨_, z⟩ | ⟨a, s', e', rfl, hj⟩
      · exact absurd z hne
      rw [dr] at hj
      have hse := hok (s', e') (List.mem_append_right _ List.mem_cons_self)
      dsimp only at hse
      repeat walk_at "ev2"
  
      refine ev_bef hE (p := e') (q := p) (by omega) (by omega) ?_
      refine ea_cons (ev_op (ev_op (ev_var rfl (ev_un (ev_int (v1_neg (v2_ixV ⟨_, get_last, rfl⟩ (cuL_last (x := (s', e'))) (ev_int (v2_ixT rfl ?_)))))))))
      repeat walk_at "ev2"
  
      refine ⟨fun h2 => ?_, fun h2 => ?_⟩
      · have h3 : ¬ e' < p := by simpa using h2
        have hj' : a ++ joinF s' (max e' q) (r.drop (i + 1)) = joinP l m := by
          rw [← hj]
          show _ = a ++ (if e' < p then _ else _)
          rw [if_neg h3]
        refine go_seq (go_asg (ev_bmL0 (ev_var rfl ⟨⟨_, _, rfl, get_last⟩, ?_⟩)))
        rw [← cuL_snoc (x := (s', e'))]
        refine vm_popL ?_
        repeat walk_at "ev2"
  
        refine ev_bmL (ev_var rfl ⟨⟨_, _, rfl, get_last⟩, ?_⟩)
        repeat walk_at "ev2"
  
        refine ev_great hE (p := e') (q := q) (by omega) (by omega) ?_
        repeat walk_at "ev2"
  
        refine vm_appL (by rw [cuL, List.length_map]; rw [List.length_append] at hacc; omega) ?_
        rw [cuL_snoc (x := (s', max e' q))]
        refine ⟨a ++ [(s', max e' q)], _, _, _, _, _, ⟨fun z hz => ?_, by rw [List.length_append, List.length_singleton] at hacc ⊢; omega, .inr ⟨a, s', max e' q, rfl, hj'⟩⟩, rfl⟩
        rcases List.mem_append.mp hz with hz | hz
        · exact hok z (List.mem_append_left _ hz)
        · rw [List.mem_singleton.mp hz]
          show s' < max e' q ∧ max e' q ≤ 2 * E.length
          omega
      · have h3 : e' < p := by simpa using h2
        have hj' : (a ++ [(s', e')]) ++ joinF p q (r.drop (i + 1)) = joinP l m := by
          rw [← hj, List.append_assoc]
          show _ = a ++ (if e' < p then _ else _)
          rw [if_pos h3]
          rfl
        refine go_drop (ev_bmL (ev_var rfl ⟨⟨_, _, rfl, get_last⟩, ?_⟩))
        repeat walk_at "ev2"
  
        refine vm_appL (by rw [cuL, List.length_map]; omega) ?_
        rw [cuL_snoc (x := (p, q))]
        exact app _ _ _ hok hacc ⟨_, p, q, rfl, hj'⟩
    · have hn : acc = [] := by
        cases acc with
        | nil => rfl
        | cons _ _ => cases h
      subst hn
      refine ⟨fun z => (nomatch z), fun _ => ?_⟩
      refine go_drop (ev_bmL (ev_var rfl ⟨⟨_, _, rfl, get_last⟩, ?_⟩))
      repeat walk_at "ev2"
  
      refine vm_appL (Nat.zero_le _) ?_
      rw [cuL_snoc (x := (p, q))]
      refine app _ _ [] hok (Nat.zero_le _) ⟨[], p, q, rfl, ?_⟩
      rcases hJ with ⟨hi0, _⟩ | ⟨a, s', e', z, _⟩
      · subst hi0
        rw [hjp]
        rw [List.drop_zero] at dr
        rw [dr]
        rfl
      · exact absurd z (by simp)
  · rintro s2 ⟨acc, x3, x4, x5, x6, x7, ⟨hok, hacc, hJ⟩, rfl⟩
    rw [lsD_len] at hJ hacc
    have hfin : acc = joinP l m := by
      rcases hJ with ⟨h0, rfl⟩ | ⟨a, s', e', rfl, hj⟩
      · rw [hjp, List.length_eq_zero_iff.mp h0]
      · rw [List.drop_of_length_le (Nat.le_refl _)] at hj
        exact hj
    rw [← hfin] at hcs
    refine go_ret ?_
    refine ev_lc (tg_tup (tg_cons mg_name (mg_cons mg_name mg_nil) (tg_name (.head _)) (tg_cons mg_name mg_nil (tg_name (.tail _ (.head _))) tg_nil))) (mg_tup (mg_cons mg_name (mg_cons mg_name mg_nil))) (ei_anyL (ei_list (ev_var rfl ⟨cuL E acc, fun os => os[cs.length]? = some (.lst (cuL E acc)), .inr ⟨_, rfl, fun _ h => h⟩, get_last, ?_⟩)))
    refine ⟨fun i js s => i ≤ acc.length ∧ js = lsD E (acc.take i) ∧ s = ⟨[some a1, some a2, some (.o cs.length), x3, none, none, x6, x7], (cs ++ [.lst (cuL E acc)]) ++ [.lst js]⟩, ⟨Nat.zero_le _, rfl, rfl⟩, ?_, ?_, ?_⟩
    · rintro i js s3 _ ⟨_, _, rfl⟩
      refine ⟨?_, get_last⟩
      show ((cs ++ [C.lst (cuL E acc)]) ++ [C.lst js])[cs.length]? = _
      rw [List.getElem?_append_left (by simp)]
      exact get_last
    · rintro i x js s3 hx ⟨hi, rfl, rfl⟩
      have hi : i < acc.length := by
        have := (List.getElem?_eq_some_iff.mp hx).1
        rw [cuL, List.length_map] at this
        exact this
      obtain ⟨⟨p, q⟩, hy⟩ : ∃ y, acc[i]? = some y := ⟨_, List.getElem?_eq_getElem hi⟩
      have e : x = .tuple [cuD (cut E p), cuD (cut E q)] := by
        rw [cuL, List.getElem?_map, hy] at hx
        exact (Option.some.inj hx).symm
      subst e
      have hpq := hok _ (List.mem_of_getElem? hy)
      dsimp only at hpq
      repeat walk_at "ev2"
  
      refine fun σ H tv tl Hd ps R Q k => k true H _ Hd ps ⟨fun _ => ?_, fun h => (nomatch h)⟩ R
      refine ev_st (E := E) (p := p) (q := q) (by omega) ?_
      repeat walk_at "ev2"
  
      refine ⟨get_last, Nat.lt_of_le_of_lt (show (lsD E (acc.take i)).length ≤ 1000 by rw [lsD_len, List.length_take]; omega) (by decide), hi, ?_, ?_⟩
      · rw [lsD_snoc, List.take_add_one, hy]
        rfl
      · show S.wp ((S.mk _ ((cs ++ [C.lst (cuL E acc)]) ++ [C.lst _])).put (cs ++ [C.lst (cuL E acc)]).length _) [4, 5] = _
        rw [put_last]
        rfl
    · rintro js s3 ⟨_, rfl, rfl⟩
      have ej : List.take (cuL E acc).length acc = acc := List.take_of_length_le (by rw [cuL, List.length_map]; exact Nat.le_refl _)
      rw [ej]
      refine rt_new ?_ get_last (fun z => nomatch z) (hcs _ _ ?_ rfl)
      · show cs.length ≤ (cs ++ _).length
        simp
      · show ((cs ++ [C.lst (cuL E acc)]) ++ [C.lst (lsD E acc)]).take cs.length = cs
        rw [List.append_assoc, List.take_left]
end
def sp_other_stretches : Spc where
  I := Bool × List Fr × List PQ
  args := fun (o, E, l) => [vA o 0 (lsD E l)]
  cells := fun (o, E, l) => if o then [.lst (lsD E l)] else []
  pre := fun (_, E, l) => Ends E ∧ OkL E l ∧ Can 0 l ∧ l.length ≤ 1000
  post := fun (o, E, l) r os' => r = .new (.lst (lsD E (otherP (2 * E.length) 0 l))) ∧ os' = if o then [.lst (lsD E l)] else []
section
variable {P : Program} {w : World} {K : PySem.W.Frag} {mg : Str → Option Value} {base : Heap}
theorem ok_other_stretches (T : Tx K mg) : FnOk P w K mg base CX0 2 T.a_other_stretches T.d_other_stretches ["stretches"] (SpB K sp_other_stretches) := by
  refine T.F_other_stretches.ok sc_other_stretches (fun vs H Q E h => spB_len h (fun _ => rfl)) (fun cdv A outer s H vs Q E hr h => ⟨_, PSs.nox ((pss_cons (ps_set (i := 1) sc_other_stretches.nd rfl (.inl rfl) (pe_lst pa_nil))
      (pss_cons (ps_set (i := 2) sc_other_stretches.nd rfl (.inl rfl) (pe_glob rfl T.g_FIRST_CUT T.r_FIRST_CUT))
      (pss_cons (ps_for PassesOwn.never rfl (pi_any (pv 0)) (pg_name (i := 3) sc_other_stretches.nd rfl (.inl rfl) (.inr rfl))
      (pss_cons (ps_if (pt_truth (pe_call (ok_is_before T) (hr.mono (by decide)) (by rfl) T.g_is_before T.F_is_before.kp (b_is_before T.F_is_before) .nil pass0 (pa_cons (pv 2) (pa_cons (pe_call (ok_low_cut T) (hr.mono (by decide)) (by rfl) T.g_low_cut T.F_low_cut.kp (b_low_cut T.F_low_cut) .nil pass0 (pa_cons (pv 3) pa_nil)) pa_nil))) (by intro _; rfl))
      (pss_one (ps_expr (pe_bm PySem.F.plainAttrs_list PySem.F.slot_list_append PySem.F.type_list_append mt_append (pv 1) (pa_cons (pe_call (ok_stretch_of T) (hr.mono (by decide)) (by rfl) T.g_stretch_of T.F_stretch_of.kp (b_stretch_of T.F_stretch_of) .nil pass0 (pa_cons (pv 2) (pa_cons (pe_call (ok_low_cut T) (hr.mono (by decide)) (by rfl) T.g_low_cut T.F_low_cut.kp (b_low_cut T.F_low_cut) .nil pass0 (pa_cons (pv 3) pa_nil)) pa_nil))) pa_nil))))
      pss_nil)
      (pss_one (ps_set (i := 2) sc_other_stretches.nd rfl (.inl rfl) (pe_call (ok_high_cut T) (hr.mono (by decide)) (by rfl) T.g_high_cut T.F_high_cut.kp (b_high_cut T.F_high_cut) .nil pass0 (pa_cons (pv 3) pa_nil))))))
      (pss_cons (ps_if (pt_cmpR op_notA (pv 2) pe_non (nomark _))
      (pss_one (ps_expr (pe_bm PySem.F.plainAttrs_list PySem.F.slot_list_append PySem.F.type_list_append mt_append (pv 1) (pa_cons (pe_call (ok_stretch_of T) (hr.mono (by decide)) (by rfl) T.g_stretch_of T.F_stretch_of.kp (b_stretch_of T.F_stretch_of) .nil pass0 (pa_cons (pv 2) (pa_cons pe_non pa_nil))) pa_nil))))
      pss_nil)
      (pss_one (ps_ret (pv 1)))))))), ?_⟩)
  refine go_fn (L := ["stretches", "found", "low", "stretch"]) h (fun b i hp hX => ?_)
  dsimp only [cxOf, L2.Cx.nox, L2.Cx.wish]
  
  obtain ⟨o, E, l⟩ := i
  obtain ⟨hE, hl, hcan, hlen⟩ := hp
  have oo : vA o 0 (lsD E l) = .d (.list (lsD E l)) ∨ vA o 0 (lsD E l) = .o 0 ∧ (sp_other_stretches.cells (o, E, l))[0]? = some (C.lst (lsD E l)) := by
    cases o with
    | true => exact .inr ⟨rfl, rfl⟩
    | false => exact .inl rfl
  show GO K b _ ⟨[some (vA o 0 (lsD E l)), none, none, none], sp_other_stretches.cells (o, E, l)⟩ _
  have hcs : ∀ r os', os' = sp_other_stretches.cells (o, E, l) → r = Rv.new (.lst (lsD E (otherP (2 * E.length) 0 l))) → sp_other_stretches.post (o, E, l) r os' := fun r os' h1 h2 => ⟨h2, h1⟩
  generalize sp_other_stretches.post (o, E, l) = post at *
  generalize sp_other_stretches.cells (o, E, l) = cs at *
  generalize vA o 0 (lsD E l) = a1 at *
  have hne := hE.ne
  refine go_seq (go_asg (ev_lstO (ea_nil ⟨[], rfl, rfl, gt_name ?_⟩)))
  refine go_sAsg (ev_const T.f_FIRST_CUT (gt_name ?_))
  refine go_seq (go_for (ei_anyL (ei_list (ev_var rfl ⟨lsD E l, fun os => ∃ rest, os = cs ++ rest, ?_, ⟨_, rfl⟩, ?_⟩))))
  · rcases oo with h | ⟨h1, h2⟩
    · exact .inl h
    · refine .inr ⟨0, h1, fun os ⟨rest, e⟩ => ?_⟩
      rw [e, List.getElem?_append_left (List.getElem?_eq_some_iff.mp h2).1]
      exact h2
  refine ⟨fun i s => ∃ (acc : List PQ) (low : Nat) (x3 : Option Dw.A), low ≤ 2 * E.length ∧ acc.length ≤ i ∧ Can low (l.drop i) ∧ acc ++ otherP (2 * E.length) low (l.drop i) = otherP (2 * E.length) 0 l ∧ s = ⟨[some a1, some (.o cs.length), some (.d (cuD (cut E low))), x3], cs ++ [.lst (lsD E acc)]⟩, ⟨[], 0, none, Nat.zero_le _, Nat.le_refl _, hcan, rfl, by rw [cut_zero hE]; rfl⟩, ?_, ?_, ?_⟩
  · rintro i s2 _ ⟨acc, low, x3, _, _, _, _, rfl⟩
    exact ⟨_, rfl⟩
  · rintro i x s2 hx ⟨acc, low, x3, hlow, hacc, hc, hj, rfl⟩
    have hi : i < l.length := by
      have := (List.getElem?_eq_some_iff.mp hx).1
      rw [lsD_len] at this
      exact this
    obtain ⟨⟨p, q⟩, hy⟩ : ∃ y, l[i]? = some y := ⟨_, List.getElem?_eq_getElem hi⟩
    have e : x = stD E (p, q) := by
      rw [lsD, List.getElem?_map, hy] at hx
      exact (Option.some.inj hx).symm
    subst e
    have hpq := hl _ (List.mem_of_getElem? hy)
    have dr := drop_at hy
    rw [dr] at hj hc
    obtain ⟨c1, c2, c3⟩ := hc
    dsimp only at hpq
    have hj : acc ++ ((if low < p then [(low, p)] else []) ++ otherP (2 * E.length) q (l.drop (i + 1))) = otherP (2 * E.length) 0 l := hj
    refine gt_name ?_
    refine go_mid (fun s => ∃ acc2 : List PQ, acc2.length ≤ i + 1 ∧ acc2 ++ otherP (2 * E.length) q (l.drop (i + 1)) = otherP (2 * E.length) 0 l ∧ s = ⟨[some a1, some (.o cs.length), some (.d (cuD (cut E low))), some (.d (stD E (p, q)))], cs ++ [.lst (lsD E acc2)]⟩) ?_ ?_
    · repeat walk_at "ev2"
  
      refine ev_bef hE (p := low) (q := p) (by omega) (by omega) ?_
      repeat walk_at "ev2"
  
      refine ev_low (x := (p, q)) hpq ?_
      repeat walk_at "ev2"
  
      refine ⟨fun h => ?_, fun h => ?_⟩
      · have hh := of_decide_eq_true h
        rw [if_pos hh, ← List.append_assoc] at hj
        repeat walk_at "ev2"
  
        refine ev_bmL (ev_var rfl ⟨⟨_, _, rfl, get_last⟩, ?_⟩)
        repeat walk_at "ev2"
  
        refine ev_st (E := E) (p := low) (q := p) (by omega) ?_
        repeat walk_at "ev2"
  
        refine ev_low (x := (p, q)) hpq ?_
        repeat walk_at "ev2"
  
        refine vm_appL (by rw [lsD_len]; omega) ?_
        rw [lsD_snoc]
        exact ⟨acc ++ [(low, p)], by rw [List.length_append, List.length_singleton]; omega, hj, rfl⟩
      · have hh := of_decide_eq_false h
        rw [if_neg hh] at hj
        repeat walk_at "ev2"
  
        exact ⟨acc, by omega, hj, rfl⟩
    · rintro s3 ⟨acc2, hacc2, hj2, rfl⟩
      repeat walk_at "ev2"
  
      refine ev_high (x := (p, q)) hpq ?_
      repeat walk_at "ev2"
  
      exact ⟨acc2, q, _, hpq.2, hacc2, c3.mono (by omega), hj2, rfl⟩
  · rintro s2 ⟨acc, low, x3, hlow, hacc, hc, hj, rfl⟩
    rw [lsD_len] at hacc hj
    rw [List.drop_of_length_le (Nat.le_refl _)] at hj
    have hj : acc ++ (if low < 2 * E.length then [(low, 2 * E.length)] else []) = otherP (2 * E.length) 0 l := hj
    refine go_mid (fun s => s = ⟨[some a1, some (.o cs.length), some (.d (cuD (cut E low))), x3], cs ++ [.lst (lsD E (otherP (2 * E.length) 0 l))]⟩) ?_ ?_
    · repeat walk_at "ev2"
  
      by_cases hh : low < 2 * E.length
      · rw [if_pos hh] at hj
        have ec := cut_getD hh
        refine ⟨fun h => ?_, fun h => ?_⟩
        · repeat walk_at "ev2"
  
          refine ev_bmL (ev_var rfl ⟨⟨_, _, rfl, get_last⟩, ?_⟩)
          repeat walk_at "ev2"
  
          refine ev_st (E := E) (p := low) (q := 2 * E.length) hh ?_
          repeat walk_at "ev2"
  
          refine ⟨by rw [cut_none (Nat.le_refl _)], ?_⟩
          repeat walk_at "ev2"
  
          refine vm_appL (by rw [lsD_len]; omega) ?_
          rw [lsD_snoc, hj]
        · rw [ec] at h
          cases h
      · rw [if_neg hh, List.append_nil] at hj
        have ec : cut E low = none := cut_none (by omega)
        refine ⟨fun h => ?_, fun h => ?_⟩
        · rw [ec] at h
          cases h
        · repeat walk_at "ev2"
  
          rw [hj]
    · rintro s3 rfl
      refine go_ret (ev_var rfl (rt_new (Nat.le_refl _) get_last (fun z => nomatch z) (hcs _ _ ?_ rfl)))
      show (cs ++ _).take cs.length = cs
      rw [List.take_left]
end
def sp__law_mixed : Spc where
  I := Int × Int
  args := fun (n, c) => [.d (.int n), .d (.int c)]
  cells := fun _ => []
  pre := fun _ => True
  post := fun _ r _ => ∃ m : Int, r = .val (.int m)
section
variable {P : Program} {w : World} {K : PySem.W.Frag} {mg : Str → Option Value} {base : Heap}
theorem ok__law_mixed (T : Tx K mg) : FnOk P w K mg base CX0 1 T.a__law_mixed T.d__law_mixed ["number", "count"] (SpB K sp__law_mixed) := by
  refine T.F__law_mixed.ok sc__law_mixed (fun vs H Q E h => spB_len h (fun _ => rfl)) (fun cdv A outer s H vs Q E hr h => ⟨_, PSs.nox ((pss_cons (ps_set (i := 2) sc__law_mixed.nd rfl (.inl rfl) (pe_op op_mod (pe_callTy call_int1 (by rfl) T.z_int (by decide +kernel) (pa_cons (pe_op op_addA (pe_op op_mulA (pe_op op_addA (pe_op op_mod (pe_callTy call_int1 (by rfl) T.z_int (by decide +kernel) (pa_cons (pv 0) pa_nil)) pe_int) pe_int) pe_int) (pe_op op_mulA (pe_op op_addA (pv 1) pe_int) pe_int)) pa_nil)) pe_int))
      (pss_cons (ps_set (i := 3) sc__law_mixed.nd rfl (.inl rfl) (pe_op op_mod (pe_callTy call_int1 (by rfl) T.z_int (by decide +kernel) (pa_cons (pe_op op_addA (pe_op op_mulA (pv 2) (pe_op op_addA (pe_op op_fdivW (pv 2) pe_int) pe_int)) (pe_op op_mulA (pv 1) pe_int)) pa_nil)) pe_int))
      (pss_cons (ps_set (i := 4) sc__law_mixed.nd rfl (.inl rfl) (pe_op op_mod (pe_callTy call_int1 (by rfl) T.z_int (by decide +kernel) (pa_cons (pe_op op_addA (pe_op op_mulA (pv 3) (pe_op op_addA (pe_op op_fdivW (pv 3) pe_int) pe_int)) (pv 2)) pa_nil)) pe_int))
      (pss_one (ps_ret (pe_op op_fdivW (pv 4) pe_int))))))), ?_⟩)
  refine go_fn (L := ["number", "count", "first", "second", "third"]) h (fun b i hp hX => ?_)
  dsimp only [cxOf, L2.Cx.nox, L2.Cx.wish]
  
  obtain ⟨n, c⟩ := i
  repeat walk_at "bx3"
  
  exact ⟨_, rfl⟩
end
def sp__law_take : Spc where
  I := Bx × Int
  args := fun (x, n) => [.o 0, .d (.int n)]
  cells := fun (x, _) => [.dK x.kvs]
  pre := fun (x, n) => 0 ≤ x.index ∧ n < 2 ^ 60
  post := fun (x, n) r os => ∃ (m : Int) (y : Bx), r = .val (.int m) ∧ os = [.dK y.kvs] ∧ 0 ≤ y.index ∧ 0 ≤ m ∧ (m < n ∨ n < 2 ∧ m = 0)
section
variable {P : Program} {w : World} {K : PySem.W.Frag} {mg : Str → Option Value} {base : Heap}
theorem ok__law_take (T : Tx K mg) : FnOk P w K mg base CX0 2 T.a__law_take T.d__law_take ["box", "size"] (SpB K sp__law_take) := by
  refine T.F__law_take.ok sc__law_take (fun vs H Q E h => spB_len h (fun _ => rfl)) (fun cdv A outer s H vs Q E hr h => ⟨_, PSs.nox ((pss_cons (ps_if (pt_cmpR op_ltA (pv 1) pe_int (nomark _))
      (pss_one (ps_ret pe_int))
      pss_nil)
      (pss_cons (ps_dput (hu_of hr) (pv 0) pe_str (pe_op op_addA (pe_dget (hu_of hr) (pv 0) pe_str (fun _ _ => rfl)) pe_int) rfl)
      (pss_cons (ps_if (PW.pt (pw_and (pt_cmpR (op_eqD hr.units) (pe_dget (hu_of hr) (pv 0) pe_str (fun _ _ => rfl)) pe_int (nomark _)) (pw_and1 (pt_cmpR op_ltA (pe_dget (hu_of hr) (pv 0) pe_str (fun _ _ => rfl)) (pe_callB call_len (by rfl) T.z_len (by decide +kernel) (pa_cons (pe_dget (hu_of hr) (pv 0) pe_str (fun _ _ => rfl)) pa_nil)) (nomark _)))))
      (pss_cons (ps_dput (hu_of hr) (pv 0) pe_str (pe_callB call_abs (by rfl) T.z_abs (by decide +kernel) (pa_cons (pe_ix ix_seq (pe_dget (hu_of hr) (pv 0) pe_str (fun _ _ => rfl)) (pe_dget (hu_of hr) (pv 0) pe_str (fun _ _ => rfl)) (fun _ _ => rfl)) pa_nil)) rfl)
      (pss_cons (ps_dput (hu_of hr) (pv 0) pe_str (pe_op op_addA (pe_dget (hu_of hr) (pv 0) pe_str (fun _ _ => rfl)) pe_int) rfl)
      (pss_cons (ps_dput (hu_of hr) (pv 0) pe_str (pe_cmpR op_geA (pe_dget (hu_of hr) (pv 0) pe_str (fun _ _ => rfl)) (pe_op op_pow pe_int pe_int) (nomark _)) rfl)
      (pss_one (ps_dput (hu_of hr) (pv 0) pe_str (pe_op op_addA pe_int (pe_op op_mulA pe_int (pe_callTy call_int1 (by rfl) T.z_int (by decide +kernel) (pa_cons (pe_dget (hu_of hr) (pv 0) pe_str (fun _ _ => rfl)) pa_nil)))) rfl)))))
      pss_nil)
      (pss_cons (ps_if (pt_cmpR (op_eqD hr.units) (pe_dget (hu_of hr) (pv 0) pe_str (fun _ _ => rfl)) pe_int (nomark _))
      (pss_one (ps_ret (pe_op op_mod (pe_callTy call_int1 (by rfl) T.z_int (by decide +kernel) (pa_cons (pe_call (ok__law_mixed T) (hr.mono (by decide)) (by rfl) T.g__law_mixed T.F__law_mixed.kp (b__law_mixed T.F__law_mixed) .nil pass0 (pa_cons (pe_dget (hu_of hr) (pv 0) pe_str (fun _ _ => rfl)) (pa_cons (pe_dget (hu_of hr) (pv 0) pe_str (fun _ _ => rfl)) pa_nil))) pa_nil)) (pv 1))))
      pss_nil)
      (pss_cons (ps_dput (hu_of hr) (pv 0) pe_str (pe_op op_sub (pe_dget (hu_of hr) (pv 0) pe_str (fun _ _ => rfl)) pe_int) rfl)
      (pss_cons (ps_if (pt_not (pt_truth (pe_dget (hu_of hr) (pv 0) pe_str (fun _ _ => rfl)) (by intro _; rfl)))
      (pss_one (ps_ret (pe_op op_mod (pe_callTy call_int1 (by rfl) T.z_int (by decide +kernel) (pa_cons (pe_call (ok__law_mixed T) (hr.mono (by decide)) (by rfl) T.g__law_mixed T.F__law_mixed.kp (b__law_mixed T.F__law_mixed) .nil pass0 (pa_cons (pe_dget (hu_of hr) (pv 0) pe_str (fun _ _ => rfl)) (pa_cons (pe_dget (hu_of hr) (pv 0) pe_str (fun _ _ => rfl)) pa_nil))) pa_nil)) (pv 1))))
      pss_nil)
      (pss_cons (ps_set (i := 2) sc__law_take.nd rfl (.inl rfl) (pe_op op_mod (pe_callTy call_int1 (by rfl) T.z_int (by decide +kernel) (pa_cons (pe_dget (hu_of hr) (pv 0) pe_str (fun _ _ => rfl)) pa_nil)) (pv 1)))
      (pss_cons (ps_dput (hu_of hr) (pv 0) pe_str (pe_op op_fdivW (pe_dget (hu_of hr) (pv 0) pe_str (fun _ _ => rfl)) (pv 1)) rfl)
      (pss_cons (ps_if (pt_cmpR (op_eqD hr.units) (pe_dget (hu_of hr) (pv 0) pe_str (fun _ _ => rfl)) pe_int (nomark _))
      (pss_one (ps_dput (hu_of hr) (pv 0) pe_str pe_int rfl))
      pss_nil)
      (pss_one (ps_ret (pv 2))))))))))))), ?_⟩)
  refine go_fn (L := ["box", "size", "digit"]) h (fun b i hp hX => ?_)
  dsimp only [cxOf, L2.Cx.nox, L2.Cx.wish]
  
  obtain ⟨x, n⟩ := i
  obtain ⟨h0, h1⟩ := hp
  repeat walk_at "bx3"
  
  refine ⟨fun h => ?_, fun h => ?_⟩
  · repeat walk_at "bx3"
  
    exact ⟨0, x, rfl, rfl, h0, Int.le_refl 0, .inr ⟨of_decide_eq_true h, rfl⟩⟩
  have hn : 2 ≤ n := by have := of_decide_eq_false h; omega
  refine go_next ?_
  repeat walk_at "bx"
  
  refine go_mid (fun s => ∃ y : Bx, 0 ≤ y.index ∧ s = ⟨[some (.o 0), some (.d (.int n)), none], [.dK y.kvs]⟩) ?_ ?_
  · repeat walk_at "bx3"
  
    have fin : ∀ y : Bx, 0 ≤ y.index → ∃ z : Bx, 0 ≤ z.index ∧ (⟨[some (.o 0), some (.d (.int n)), none], [.dK y.kvs]⟩ : S) = ⟨[some (.o 0), some (.d (.int n)), none], [.dK z.kvs]⟩ := fun y hy => ⟨y, hy, rfl⟩
    refine ⟨fun h => ?_, fun h => ⟨fun z => (nomatch z), fun _ => ?_⟩⟩
    · repeat walk_at "bx3"
  
      refine ⟨fun h2 => ?_, fun h2 => ?_⟩
      · obtain ⟨c, hc⟩ := at_ints h0 (of_decide_eq_true h2)
        repeat walk_at "bx3"
  
        exact fin _ (show 0 ≤ x.index + 1 by omega)
      · repeat walk_at "bx3"
  
        exact fin _ h0
    · repeat walk_at "bx3"
  
      exact fin _ h0
  rintro s2 ⟨y, hy, rfl⟩
  have fin : ∀ (m : Int) (z : Bx), 0 ≤ z.index → 0 < n → ∃ (m' : Int) (y : Bx), Rv.val (PyData.int (m % n)) = .val (.int m') ∧ [C.dK z.kvs] = [.dK y.kvs] ∧ 0 ≤ y.index ∧ 0 ≤ m' ∧ (m' < n ∨ n < 2 ∧ m' = 0) := fun m z hz hn => ⟨_, z, rfl, rfl, hz, Int.emod_nonneg _ (by omega), .inl (Int.emod_lt_of_pos _ (by omega))⟩
  have mixed : ∀ (s : S) (td : TE) (z : Bx) (m : Int) (Φ : Dw.A → S → Prop), s = ⟨[some (.o 0), some (.d (.int n)), none], [.dK z.kvs]⟩ → EV K b td s (fun a s1 => a = .d (.int m) ∧ s1 = s) → (∀ m, Φ (.d (.int m)) s) → EV K b (tCall (SpB K sp__law_mixed) [] E0 (tCons td (tCons (tDGet (tVar 0) (tC (V.str (Str.ofString "count")))) tNil))) s Φ := fun s td z m Φ es h k => ev_call0 (ea_cons (fun σ H tv tl Hd ps R Q kk => h σ H tv tl Hd ps R Q fun v H1 a s1 Hd1 ps1 h1 R1 a1 => by
      obtain ⟨rfl, rfl⟩ := h1
      refine kk v H1 _ s1 Hd1 ps1 ?_ R1 a1
      subst es
      repeat walk_at "bx3"
  
      exact ⟨(m, z.count), rfl, rfl, rfl, trivial, fun r os' ⟨q, hq⟩ => by rw [hq]; exact k q, xok_no (fun _ _ h => h)⟩))
  repeat walk_at "bx3"
  
  refine ⟨fun h => ?_, fun h => ?_⟩
  · repeat walk_at "bx3"
  
    refine mixed _ _ y y.seed _ rfl ?_ fun m => ?_
    · repeat walk_at "bx3"
  
      exact ⟨rfl, rfl⟩
    repeat walk_at "bx3"
  
    exact fin _ _ hy (by omega)
  repeat walk_at "bx3"
  
  refine ⟨fun h => ?_, fun h => ?_⟩
  · repeat walk_at "bx3"
  
    refine mixed _ _ { y with left := y.left - 1 } y.cell _ rfl ?_ fun m => ?_
    · repeat walk_at "bx3"
  
      exact ⟨rfl, rfl⟩
    repeat walk_at "bx3"
  
    exact fin _ _ hy (by omega)
  repeat walk_at "bx3"
  
  refine ⟨fun h => ?_, fun h => ?_⟩
  · repeat walk_at "bx3"
  
    exact fin _ _ hy (by omega)
  · repeat walk_at "bx3"
  
    exact fin _ _ hy (by omega)
end
section
variable {K : PySem.W.Frag} {b : B} {s : S} {t : TA} {Φ : Dw.A → S → Prop}
theorem ev_take (h : EA K b t s fun as s1 => ∃ (x : Bx) (n : Int) (ss : List (Option Dw.A)) (cs : List C), as = [.o 0, .d (.int n)] ∧ s1 = ⟨ss, .dK x.kvs :: cs⟩ ∧ 0 ≤ x.index ∧ n < 2 ^ 60 ∧ ∀ (m : Int) (y : Bx), 0 ≤ y.index → 0 ≤ m → (m < n ∨ n < 2 ∧ m = 0) → Φ (.d (.int m)) ⟨ss, .dK y.kvs :: cs⟩) : EV K b (tCall (SpB K sp__law_take) [] E0 t) s Φ := by
  refine ev_call1 0 fun σ H tv tl Hd ps R Q k => h σ H tv tl Hd ps R Q fun vs H1 as s1 Hd1 ps1 h1 R1 a1 => k vs H1 as s1 Hd1 ps1 ?_ R1 a1
  obtain ⟨x, n, ss, cs, rfl, rfl, h0, hn, q⟩ := h1
  refine ⟨(x, n), .dK x.kvs, [.d (.int n)], rfl, rfl, rfl, rfl, (fun z => nomatch z), rfl, ⟨h0, hn⟩, fun r c' hr => ?_, fun x c' hx => (show False from hx).elim⟩
  obtain ⟨m, y, rfl, e, h1, h2, h3⟩ := hr
  cases e
  exact q m y h1 h2 h3
end
def sp__law_large : Spc where
  I := Bx × Nat
  args := fun (x, n) => [.o 0, .d (.int n)]
  cells := fun (x, _) => [.dK x.kvs]
  pre := fun (x, n) => 0 ≤ x.index ∧ n ≤ 13
  post := fun (x, n) r os => ∃ (m : Int) (y : Bx), r = .val (.int m) ∧ os = [.dK y.kvs] ∧ 0 ≤ y.index ∧ 0 ≤ m ∧ m < 10 ^ 39
section
variable {P : Program} {w : World} {K : PySem.W.Frag} {mg : Str → Option Value} {base : Heap}
theorem ok__law_large (T : Tx K mg) : FnOk P w K mg base CX0 3 T.a__law_large T.d__law_large ["box", "groups"] (SpB K sp__law_large) := by
  refine T.F__law_large.ok sc__law_large (fun vs H Q E h => spB_len h (fun _ => rfl)) (fun cdv A outer s H vs Q E hr h => ⟨_, PSs.nox ((pss_cons (ps_set (i := 2) sc__law_large.nd rfl (.inl rfl) pe_int)
      (pss_cons (ps_for PassesOwn.never rfl (pi_range1 (by rfl) T.z_range (pa_cons (pv 1) pa_nil)) (pg_name (i := 3) sc__law_large.nd rfl (.inl rfl) (.inr rfl))
      (pss_one (ps_set (i := 2) sc__law_large.nd rfl (.inl rfl) (pe_op op_addA (pe_op op_mulA (pv 2) pe_int) (pe_call (ok__law_take T) (hr.mono (by decide)) (by rfl) T.g__law_take T.F__law_take.kp (b__law_take T.F__law_take) .nil pass0 (pa_cons (pv 0) (pa_cons pe_int pa_nil)))))))
      (pss_one (ps_ret (pv 2)))))), ?_⟩)
  refine go_fn (L := ["box", "groups", "value", "k"]) h (fun b i hp hX => ?_)
  dsimp only [cxOf, L2.Cx.nox, L2.Cx.wish]
  
  obtain ⟨x, n⟩ := i
  obtain ⟨h0, h1⟩ := hp
  repeat walk_at "bx3"
  
  refine ⟨by omega, fun i s => ∃ (v : Int) (y : Bx) (x3 : Option Dw.A), 0 ≤ v ∧ v < 1000 ^ i ∧ 0 ≤ y.index ∧ s = ⟨[some (.o 0), some (.d (.int n)), some (.d (.int v)), x3], [.dK y.kvs]⟩, ⟨0, x, none, by decide, by decide, h0, rfl⟩, ?_, ?_⟩
  · rintro i s2 hi ⟨v, y, x3, v0, v1, hy, rfl⟩
    have hle : (1000 : Int) ^ (i + 1) ≤ 1000 ^ 13 := by
      exact_mod_cast Nat.pow_le_pow_right (by decide : 1000 > 0) (show i + 1 ≤ 13 by omega)
    have hs : (1000 : Int) ^ (i + 1) = 1000 ^ i * 1000 := Int.pow_succ ..
    repeat walk_at "bx3"
  
    (refine ev_take ?_; repeat walk_at "bx")
    refine ⟨y, _, _, _, rfl, rfl, hy, by first | decide | omega, fun m y2 hy2 hm0 hm1 => ?_⟩
    repeat walk_at "bx3"
  
    exact ⟨_, y2, _, by omega, by omega, hy2, rfl⟩
  · rintro s2 ⟨v, y, x3, v0, v1, hy, rfl⟩
    have hle : (1000 : Int) ^ n ≤ 1000 ^ 13 := by
      exact_mod_cast Nat.pow_le_pow_right (by decide : 1000 > 0) h1
    repeat walk_at "bx3"
  
    exact ⟨v, y, rfl, rfl, hy, v0, by omega⟩
end
def sp__law_lowest : Spc where
  I := Int × Int
  args := fun (n, d) => [.d (.int n), .d (.int d)]
  cells := fun _ => []
  pre := fun (n, d) => 0 ≤ n ∧ n < Lim ∧ 1 ≤ d ∧ d < Lim
  post := fun (n, d) r _ => r = .val (frD (n / (Int.gcd n d : Int), d / (Int.gcd n d : Int)))
section
variable {P : Program} {w : World} {K : PySem.W.Frag} {mg : Str → Option Value} {base : Heap}
theorem ok__law_lowest (T : Tx K mg) : FnOk P w K mg base CX0 1 T.a__law_lowest T.d__law_lowest ["n", "d"] (SpB K sp__law_lowest) := by
  refine T.F__law_lowest.ok sc__law_lowest (fun vs H Q E h => spB_len h (fun _ => rfl)) (fun cdv A outer s H vs Q E hr h => ⟨_, PSs.nox ((pss_cons (ps_set (i := 2) sc__law_lowest.nd rfl (.inl rfl) (pv 0))
      (pss_cons (ps_set (i := 3) sc__law_lowest.nd rfl (.inl rfl) (pv 1))
      (pss_cons (ps_for PassesOwn.never rfl (pi_range1 (by rfl) T.z_range (pa_cons pe_int pa_nil)) (pg_name (i := 4) sc__law_lowest.nd rfl (.inl rfl) (.inr rfl))
      (pss_cons (ps_if (pt_cmpR (op_eqD hr.units) (pv 3) pe_int (nomark _))
      (pss_one ps_break)
      pss_nil)
      (pss_cons (ps_set (i := 5) sc__law_lowest.nd rfl (.inl rfl) (pe_op op_mod (pe_callTy call_int1 (by rfl) T.z_int (by decide +kernel) (pa_cons (pv 2) pa_nil)) (pv 3)))
      (pss_cons (ps_set (i := 2) sc__law_lowest.nd rfl (.inl rfl) (pv 3))
      (pss_one (ps_set (i := 3) sc__law_lowest.nd rfl (.inl rfl) (pv 5)))))))
      (pss_one (ps_ret (pe_tup (pa_cons (pe_op op_fdivW (pv 0) (pv 2)) (pa_cons (pe_op op_fdivW (pv 1) (pv 2)) pa_nil))))))))), ?_⟩)
  refine go_fn (L := ["n", "d", "high", "low", "k", "rest"]) h (fun b i hp hX => ?_)
  dsimp only [cxOf, L2.Cx.nox, L2.Cx.wish]
  
  obtain ⟨n, d⟩ := i
  obtain ⟨n0, n1, d0, d1⟩ := hp
  have hg : 0 < Int.gcd n d := Int.gcd_pos_of_ne_zero_right n (by omega)
  have hle : (Int.gcd n d : Int) ≤ d := Int.le_of_dvd (by omega) (Int.gcd_dvd_right ..)
  have hG0 : (0 : Int) < (Int.gcd n d : Int) := by omega
  have hG1 : Sm (Int.gcd n d : Int) := Sm_lim (by omega) (by omega)
  unfold Lim at n1 d1
  refine go_sAsg (ev_var rfl (gt_name ?_))
  refine go_sAsg (ev_var rfl (gt_name ?_))
  refine go_mid (fun s => ∃ (x4 x5 x3 : Option Dw.A), s = ⟨[some (.d (.int n)), some (.d (.int d)), some (.d (.int (Int.gcd n d : Int))), x3, x4, x5], []⟩) ?_ ?_
  · repeat walk_at "bx"
  
    refine ⟨by decide, fun i s => ∃ (h l : Nat) (x4 x5 : Option Dw.A), Eu (Int.gcd n d) i h l ∧ s = ⟨[some (.d (.int n)), some (.d (.int d)), some (.d (.int h)), some (.d (.int l)), x4, x5], []⟩, ⟨n.natAbs, d.natAbs, none, none, ⟨rfl, by omega, by omega, .inl rfl⟩, ?_⟩, ?_, ?_⟩
    · rw [show ((n.natAbs : Nat) : Int) = n by omega, show ((d.natAbs : Nat) : Int) = d by omega]
      rfl
    · rintro i s2 hi ⟨h, l, x4, x5, he, rfl⟩
      repeat walk_at "bx3"
  
      refine ⟨fun z => ?_, fun z => ?_⟩
      · have e : l = 0 := by have := of_decide_eq_true z; omega
        subst e
        repeat walk_at "bx3"
  
        exact ⟨_, _, _, by rw [eu_zero he]; rfl⟩
      · have e : l ≠ 0 := by have := of_decide_eq_false z; omega
        repeat walk_at "bx3"
  
        exact ⟨l, h % l, _, _, eu_step he e, rfl⟩
    · rintro s2 ⟨h, l, x4, x5, he, rfl⟩
      have e := eu_end he
      subst e
      exact ⟨_, _, _, by rw [eu_zero he]⟩
  · rintro s2 ⟨x3, x4, x5, rfl⟩
    repeat walk_at "bx3"
  
    refine v2_ic (C := CDivW) (fdS hG0 hG1) ?_
    repeat walk_at "bx3"
    refine v2_ic (C := CDivW) (fdS hG0 hG1) ?_
    repeat walk_at "bx3"
    rfl
end
def sp__law_below : Spc where
  I := Fr × Fr
  args := fun (f, e) => [.d (frD f), .d (frD e)]
  cells := fun _ => []
  pre := fun (f, e) => (Sm f.1 ∧ Sm f.2) ∧ Sm e.1 ∧ Sm e.2
  post := fun (f, e) r _ => r = .val (.bool (decide (f.1 * e.2 < e.1 * f.2)))
section
variable {P : Program} {w : World} {K : PySem.W.Frag} {mg : Str → Option Value} {base : Heap}
theorem ok__law_below (T : Tx K mg) : FnOk P w K mg base CX0 1 T.a__law_below T.d__law_below ["first", "second"] (SpB K sp__law_below) := by
  refine T.F__law_below.ok sc__law_below (fun vs H Q E h => spB_len h (fun _ => rfl)) (fun cdv A outer s H vs Q E hr h => ⟨_, PSs.nox ((pss_one (ps_ret (pe_cmpR op_ltA (pe_op op_mulA (pe_ix ix_seq (pv 0) pe_int (fun _ _ => rfl)) (pe_ix ix_seq (pv 1) pe_int (fun _ _ => rfl))) (pe_op op_mulA (pe_ix ix_seq (pv 1) pe_int (fun _ _ => rfl)) (pe_ix ix_seq (pv 0) pe_int (fun _ _ => rfl))) (nomark _))))), ?_⟩)
  refine go_fn (L := ["first", "second"]) h (fun b i hp hX => ?_)
  dsimp only [cxOf, L2.Cx.nox, L2.Cx.wish]
  
  obtain ⟨⟨n, d⟩, n', d'⟩ := i
  obtain ⟨⟨g1, g2⟩, g3, g4⟩ := hp
  dsimp only at g1 g2 g3 g4
  repeat walk_at "ev3"
  
  rfl
end
def sp__law_with_end : Spc where
  I := List Fr × Fr
  args := fun (E, e) => [.d (.list (frL E)), .d (frD e)]
  cells := fun _ => []
  pre := fun (E, e) => Ends E ∧ Fok e ∧ E.length ≤ 100
  post := fun (E, e) r _ => ∃ E', r = .val (.list (frL E')) ∧ Ends E' ∧ E'.length ≤ E.length + 1
section
variable {P : Program} {w : World} {K : PySem.W.Frag} {mg : Str → Option Value} {base : Heap}
theorem ok__law_with_end (T : Tx K mg) : FnOk P w K mg base CX0 2 T.a__law_with_end T.d__law_with_end ["ends", "end"] (SpB K sp__law_with_end) := by
  refine T.F__law_with_end.ok sc__law_with_end (fun vs H Q E h => spB_len h (fun _ => rfl)) (fun cdv A outer s H vs Q E hr h => ⟨_, PSs.nox ((pss_cons (ps_for PassesOwn.never rfl (pi_range1 (by rfl) T.z_range (pa_cons (pe_callB call_len (by rfl) T.z_len (by decide +kernel) (pa_cons (pv 0) pa_nil)) pa_nil)) (pg_name (i := 2) sc__law_with_end.nd rfl (.inl rfl) (.inr rfl))
      (pss_cons (ps_if (pt_cmpR (op_eqD hr.units) (pe_ix ix_seq (pv 0) (pv 2) (fun _ _ => rfl)) (pv 1) (nomark _))
      (pss_one (ps_ret (pe_callTy call_list_of (by rfl) T.z_list (by decide +kernel) (pa_cons (pv 0) pa_nil))))
      pss_nil)
      (pss_one (ps_if (pt_truth (pe_call (ok__law_below T) (hr.mono (by decide)) (by rfl) T.g__law_below T.F__law_below.kp (b__law_below T.F__law_below) .nil pass0 (pa_cons (pv 1) (pa_cons (pe_ix ix_seq (pv 0) (pv 2) (fun _ _ => rfl)) pa_nil))) (by intro _; rfl))
      (pss_one (ps_ret (pe_op op_addA (pe_op op_addA (pe_slice sl_any (pv 0) po_none (po_some (pv 2))) (pe_lst (pa_cons (pv 1) pa_nil))) (pe_slice sl_any (pv 0) (po_some (pv 2)) po_none))))
      pss_nil))))
      (pss_one (ps_ret (pe_op op_addA (pv 0) (pe_lst (pa_cons (pv 1) pa_nil))))))), ?_⟩)
  refine go_fn (L := ["ends", "end", "k"]) h (fun b i hp hX => ?_)
  dsimp only [cxOf, L2.Cx.nox, L2.Cx.wish]
  
  obtain ⟨E, e⟩ := i
  obtain ⟨hE, he, hlen⟩ := hp
  have hl : (frL E).length = E.length := frL_len
  repeat walk_at "bx3"
  
  rw [hl]
  refine ⟨by omega, fun i s => ∃ (x2 : Option Dw.A), (∀ j f, j < i → E[j]? = some f → f.1 * e.2 < e.1 * f.2) ∧ s = ⟨[some (.d (.list (frL E))), some (.d (frD e)), x2], []⟩, ⟨none, fun j f h => absurd h (Nat.not_lt_zero j), rfl⟩, ?_, ?_⟩
  · rintro i s2 hi ⟨x2, hlo, rfl⟩
    obtain ⟨f, hf⟩ : ∃ x, E[i]? = some x := ⟨_, List.getElem?_eq_getElem hi⟩
    have ef := frL_get hf
    have ff := hE.fok hf
    repeat walk_at "bx3"
  
    refine v2_eq (d := frD f) (e := frD e) rfl rfl rfl rfl ?_
    rw [eqv_fr]
    repeat walk_at "bx3"
  
    refine ⟨fun z => ?_, fun z => ?_⟩
    · repeat walk_at "bx3"
  
      refine vc_list (ds := frL E) (.inl rfl) ?_
      repeat walk_at "bx3"
  
      exact ⟨E, rfl, hE, by omega⟩
    · have hne : f ≠ e := of_decide_eq_false z
      repeat walk_at "bx3"
  
      refine ev_callV ?_
      repeat walk_at "bx3"
  
      refine ⟨(e, f), _, rfl, rfl, rfl, ⟨he.sm, ff.sm⟩, fun _ _ h => h, fun _ _ h => h, ?_⟩
      repeat walk_at "bx3"
  
      refine ⟨fun z => ?_, fun z => ?_⟩
      · have hlt : e.1 * f.2 < f.1 * e.2 := of_decide_eq_true z
        have hi1 : 1 ≤ i := by
          rcases Nat.eq_zero_or_pos i with e0 | e0
          · subst e0
            rw [hE.fst] at hf
            cases hf
            have := he.n0
            simp at hlt
            omega
          · exact e0
        repeat walk_at "bx3"
  
        refine vs_list (ds := frL E) rfl ?_
        repeat walk_at "bx3"
  
        refine ev_lst ?_
        repeat walk_at "bx3"
  
        refine v2_addL rfl rfl ?_ ?_
        · rw [cutD_to (by omega), List.length_take]
          exact Nat.le_trans (show _ ≤ 1000 by simp; omega) (by decide)
        repeat walk_at "bx3"
  
        refine vs_list (ds := frL E) rfl ?_
        repeat walk_at "bx3"
  
        refine v2_addL rfl rfl ?_ ?_
        · rw [cutD_to (by omega), cutD_from (by omega), List.length_append, List.length_take, List.length_drop]
          exact Nat.le_trans (show _ ≤ 1000 by simp; omega) (by decide)
        repeat walk_at "bx3"
  
        rw [cutD_to (by omega), cutD_from (by omega)]
        refine ⟨E.take i ++ [e] ++ E.drop i, ?_, ends_ins hE he (by omega) hi1 hlo (fun g hg => ?_), ?_⟩
        · rw [frL, frL, List.map_append, List.map_append, List.map_take, List.map_drop]
          rfl
        · rw [hf] at hg
          cases hg
          exact hlt
        · simp; omega
      · have hge : ¬ e.1 * f.2 < f.1 * e.2 := of_decide_eq_false z
        repeat walk_at "bx3"
  
        refine ⟨_, fun j g hj hg => ?_, rfl⟩
        rcases Nat.lt_or_ge j i with l | l
        · exact hlo j g l hg
        · have : j = i := by omega
          subst this
          rw [hf] at hg
          cases hg
          have : f.1 * e.2 ≠ e.1 * f.2 := fun z => hne (low_eq ff.d0 he.d0 ff.gc he.gc z)
          omega
  · rintro s2 ⟨x2, hlo, rfl⟩
    repeat walk_at "bx3"
  
    refine ev_lst ?_
    repeat walk_at "bx3"
  
    refine v2_addL rfl rfl ?_ ?_
    · exact Nat.le_trans (show _ ≤ 1000 by simp; omega) (by decide)
    repeat walk_at "bx3"
  
    have e0 : E ++ [e] = E.take E.length ++ [e] ++ E.drop E.length := by simp
    refine ⟨E ++ [e], ?_, ?_, ?_⟩
    · rw [frL, frL, List.map_append]
      rfl
    · rw [e0]
      exact ends_ins hE he (Nat.le_refl _) hE.ne hlo (fun g hg => by simp at hg)
    · simp
end
section
variable {K : PySem.W.Frag} {b : B} {s : S} {t : TA} {Φ : Dw.A → S → Prop}
theorem ev_large (h : EA K b t s fun as s1 => ∃ (x : Bx) (n : Nat) (ss : List (Option Dw.A)) (cs : List C), as = [.o 0, .d (.int n)] ∧ s1 = ⟨ss, .dK x.kvs :: cs⟩ ∧ 0 ≤ x.index ∧ n ≤ 13 ∧ ∀ (m : Int) (y : Bx), 0 ≤ y.index → 0 ≤ m → m < 10 ^ 39 → Φ (.d (.int m)) ⟨ss, .dK y.kvs :: cs⟩) : EV K b (tCall (SpB K sp__law_large) [] E0 t) s Φ := by
  refine ev_call1 0 fun σ H tv tl Hd ps R Q k => h σ H tv tl Hd ps R Q fun vs H1 as s1 Hd1 ps1 h1 R1 a1 => k vs H1 as s1 Hd1 ps1 ?_ R1 a1
  obtain ⟨x, n, ss, cs, rfl, rfl, h0, hn, q⟩ := h1
  refine ⟨(x, n), .dK x.kvs, [.d (.int n)], rfl, rfl, rfl, rfl, (fun z => nomatch z), rfl, ⟨h0, hn⟩, fun r c' hr => ?_, fun x c' hx => (show False from hx).elim⟩
  obtain ⟨m, y, rfl, e, h1, h2, h3⟩ := hr
  cases e
  exact q m y h1 h2 h3
theorem ev_lowest (h : EA K b t s fun as s1 => ∃ (n d : Int), as = [.d (.int n), .d (.int d)] ∧ 0 ≤ n ∧ n < Lim ∧ 1 ≤ d ∧ d < Lim ∧ ∀ e : Fr, Fok e → Φ (.d (frD e)) s1) : EV K b (tCall (SpB K sp__law_lowest) [] E0 t) s Φ := by
  refine ev_callV fun σ H tv tl Hd ps R Q k => h σ H tv tl Hd ps R Q fun vs H1 as s1 Hd1 ps1 h1 R1 a1 => k vs H1 as s1 Hd1 ps1 ?_ R1 a1
  obtain ⟨n, d, rfl, n0, n1, d0, d1, q⟩ := h1
  exact ⟨(n, d), _, rfl, rfl, rfl, ⟨n0, n1, d0, d1⟩, fun _ _ h => h, fun _ _ h => h, q _ (lowest_fok n0 n1 d0 d1)⟩
theorem ev_with (h : EA K b t s fun as s1 => ∃ (E : List Fr) (e : Fr), as = [.d (.list (frL E)), .d (frD e)] ∧ Ends E ∧ Fok e ∧ E.length ≤ 100 ∧ ∀ E', Ends E' → E'.length ≤ E.length + 1 → Φ (.d (.list (frL E'))) s1) : EV K b (tCall (SpB K sp__law_with_end) [] E0 t) s Φ := by
  refine ev_call0 fun σ H tv tl Hd ps R Q k => h σ H tv tl Hd ps R Q fun vs H1 as s1 Hd1 ps1 h1 R1 a1 => k vs H1 as s1 Hd1 ps1 ?_ R1 a1
  obtain ⟨E, e, rfl, h0, h1, h2, q⟩ := h1
  refine ⟨(E, e), rfl, rfl, rfl, ⟨h0, h1, h2⟩, fun r os' hr => ?_, xok_no (fun _ _ h => h)⟩
  obtain ⟨E', rfl, g1, g2⟩ := hr
  exact q E' g1 g2
end
def sp__law_ends : Spc where
  I := Bx × Int
  args := fun (x, n) => [.o 0, .d (.int n)]
  cells := fun (x, _) => [.dK x.kvs]
  pre := fun (x, n) => 0 ≤ x.index
  post := fun (x, n) r os => ∃ (E : List Fr) (y : Bx), r = .val (.list (frL E)) ∧ os = [.dK y.kvs] ∧ 0 ≤ y.index ∧ Ends E ∧ E.length ≤ 60
section
variable {P : Program} {w : World} {K : PySem.W.Frag} {mg : Str → Option Value} {base : Heap}
theorem ok__law_ends (T : Tx K mg) : FnOk P w K mg base CX0 4 T.a__law_ends T.d__law_ends ["box", "shape"] (SpB K sp__law_ends) := by
  refine T.F__law_ends.ok sc__law_ends (fun vs H Q E h => spB_len h (fun _ => rfl)) (fun cdv A outer s H vs Q E hr h => ⟨_, PSs.nox ((pss_cons (ps_set (i := 2) sc__law_ends.nd rfl (.inl rfl) (pe_call (ok__law_take T) (hr.mono (by decide)) (by rfl) T.g__law_take T.F__law_take.kp (b__law_take T.F__law_take) .nil pass0 (pa_cons (pv 0) (pa_cons pe_int pa_nil))))
      (pss_cons (ps_if (pt_cmpR (op_eqD hr.units) (pv 1) pe_int (nomark _))
      (pss_one (ps_set (i := 2) sc__law_ends.nd rfl (.inl rfl) (pe_op op_addA pe_int (pe_call (ok__law_take T) (hr.mono (by decide)) (by rfl) T.g__law_take T.F__law_take.kp (b__law_take T.F__law_take) .nil pass0 (pa_cons (pv 0) (pa_cons pe_int pa_nil))))))
      pss_nil)
      (pss_cons (ps_set (i := 3) sc__law_ends.nd rfl (.inl rfl) (pe_lst (pa_cons (pe_tup (pa_cons pe_int (pa_cons pe_int pa_nil))) pa_nil)))
      (pss_cons (ps_for PassesOwn.never rfl (pi_range1 (by rfl) T.z_range (pa_cons (pv 2) pa_nil)) (pg_name (i := 4) sc__law_ends.nd rfl (.inl rfl) (.inr rfl))
      (pss_cons (ps_if (pt_cmpR (op_eqD hr.units) (pv 1) pe_int (nomark _))
      (pss_cons (ps_set (i := 5) sc__law_ends.nd rfl (.inl rfl) (pe_call (ok__law_large T) (hr.mono (by decide)) (by rfl) T.g__law_large T.F__law_large.kp (b__law_large T.F__law_large) .nil pass0 (pa_cons (pv 0) (pa_cons (pe_op op_addA pe_int (pe_call (ok__law_take T) (hr.mono (by decide)) (by rfl) T.g__law_take T.F__law_take.kp (b__law_take T.F__law_take) .nil pass0 (pa_cons (pv 0) (pa_cons pe_int pa_nil)))) pa_nil))))
      (pss_cons (ps_set (i := 6) sc__law_ends.nd rfl (.inl rfl) (pe_op op_addA pe_int (pe_call (ok__law_large T) (hr.mono (by decide)) (by rfl) T.g__law_large T.F__law_large.kp (b__law_large T.F__law_large) .nil pass0 (pa_cons (pv 0) (pa_cons (pe_op op_addA pe_int (pe_call (ok__law_take T) (hr.mono (by decide)) (by rfl) T.g__law_take T.F__law_take.kp (b__law_take T.F__law_take) .nil pass0 (pa_cons (pv 0) (pa_cons pe_int pa_nil)))) pa_nil)))))
      (pss_one (ps_if (pt_cmpR op_gtA (pv 6) (pe_op op_sub (pe_op op_pow pe_int pe_int) pe_int) (nomark _))
      (pss_one (ps_set (i := 6) sc__law_ends.nd rfl (.inl rfl) (pe_op op_sub (pe_op op_pow pe_int pe_int) pe_int)))
      pss_nil))))
      (pss_one (ps_if (pt_cmpR (op_eqD hr.units) (pv 1) pe_int (nomark _))
      (pss_cons (ps_set (i := 5) sc__law_ends.nd rfl (.inl rfl) (pe_call (ok__law_take T) (hr.mono (by decide)) (by rfl) T.g__law_take T.F__law_take.kp (b__law_take T.F__law_take) .nil pass0 (pa_cons (pv 0) (pa_cons pe_int pa_nil))))
      (pss_one (ps_set (i := 6) sc__law_ends.nd rfl (.inl rfl) (pe_op op_addA pe_int (pe_call (ok__law_take T) (hr.mono (by decide)) (by rfl) T.g__law_take T.F__law_take.kp (b__law_take T.F__law_take) .nil pass0 (pa_cons (pv 0) (pa_cons pe_int pa_nil)))))))
      (pss_cons (ps_set (i := 5) sc__law_ends.nd rfl (.inl rfl) (pe_call (ok__law_take T) (hr.mono (by decide)) (by rfl) T.g__law_take T.F__law_take.kp (b__law_take T.F__law_take) .nil pass0 (pa_cons (pv 0) (pa_cons pe_int pa_nil))))
      (pss_one (ps_set (i := 6) sc__law_ends.nd rfl (.inl rfl) (pe_op op_addA pe_int (pe_call (ok__law_take T) (hr.mono (by decide)) (by rfl) T.g__law_take T.F__law_take.kp (b__law_take T.F__law_take) .nil pass0 (pa_cons (pv 0) (pa_cons pe_int pa_nil))))))))))
      (pss_one (ps_set (i := 3) sc__law_ends.nd rfl (.inl rfl) (pe_call (ok__law_with_end T) (hr.mono (by decide)) (by rfl) T.g__law_with_end T.F__law_with_end.kp (b__law_with_end T.F__law_with_end) .nil pass0 (pa_cons (pv 3) (pa_cons (pe_call (ok__law_lowest T) (hr.mono (by decide)) (by rfl) T.g__law_lowest T.F__law_lowest.kp (b__law_lowest T.F__law_lowest) .nil pass0 (pa_cons (pv 5) (pa_cons (pv 6) pa_nil))) pa_nil)))))))
      (pss_one (ps_ret (pv 3)))))))), ?_⟩)
  refine go_fn (L := ["box", "shape", "count", "ends", "k", "n", "d"]) h (fun b i hp hX => ?_)
  dsimp only [cxOf, L2.Cx.nox, L2.Cx.wish]
  
  obtain ⟨x, sh⟩ := i
  have h0 : 0 ≤ x.index := hp
  repeat walk_at "bx"
  
  (refine ev_take ?_; repeat walk_at "bx")
  refine ⟨x, _, _, _, rfl, rfl, h0, by first | decide | omega, fun c0 y hy hc0 hc1 => ?_⟩
  repeat walk_at "bx"
  
  refine go_mid (fun s => ∃ (c : Nat) (y : Bx), c ≤ 50 ∧ 0 ≤ y.index ∧ s = ⟨[some (.o 0), some (.d (.int sh)), some (.d (.int c)), none, none, none, none], [.dK y.kvs]⟩) ?_ ?_
  · repeat walk_at "bx"
  
    refine ⟨fun z => ?_, fun z => ?_⟩
    · repeat walk_at "bx"
  
      (refine ev_take ?_; repeat walk_at "bx")
      refine ⟨y, _, _, _, rfl, rfl, hy, by first | decide | omega, fun c1 y2 hy2 hd0 hd1 => ?_⟩
      repeat walk_at "bx"
  
      exact ⟨(20 + c1).toNat, y2, by omega, hy2, by rw [show (((20 + c1).toNat : Nat) : Int) = 20 + c1 by omega]; rfl⟩
    · repeat walk_at "bx"
  
      exact ⟨c0.toNat, y, by omega, hy, by rw [show ((c0.toNat : Nat) : Int) = c0 by omega]; rfl⟩
  rintro s2 ⟨c, y, hc, hy, rfl⟩
  refine go_sAsg (ev_lst ?_)
  repeat walk_at "bx3"
  
  refine ⟨by omega, fun i s => ∃ (E : List Fr) (y : Bx) (x4 x5 x6 : Option Dw.A), Ends E ∧ E.length ≤ i + 1 ∧ 0 ≤ y.index ∧ s = ⟨[some (.o 0), some (.d (.int sh)), some (.d (.int c)), some (.d (.list (frL E))), x4, x5, x6], [.dK y.kvs]⟩, ⟨[(0, 1)], y, none, none, none, ⟨by decide, by simp, by decide, rfl⟩, by decide, hy, rfl⟩, ?_, ?_⟩
  · rintro i s2 hi ⟨E, y, x4, x5, x6, hE, hlen, hy, rfl⟩
    refine gt_name ?_
    refine go_mid (fun s => ∃ (n d : Int) (y : Bx) (x4 : Option Dw.A), 0 ≤ n ∧ n < Lim ∧ 1 ≤ d ∧ d < Lim ∧ 0 ≤ y.index ∧ s = ⟨[some (.o 0), some (.d (.int sh)), some (.d (.int c)), some (.d (.list (frL E))), x4, some (.d (.int n)), some (.d (.int d))], [.dK y.kvs]⟩) ?_ ?_
    · repeat walk_at "bx"
  
      refine ⟨fun z => ?_, fun z => ?_⟩
      · repeat walk_at "bx"
  
        refine ev_large ?_
        repeat walk_at "bx"
  
        (refine ev_take ?_; repeat walk_at "bx")
        refine ⟨y, _, _, _, rfl, rfl, hy, by first | decide | omega, fun a1 y1 hy1 ha0 ha1 => ?_⟩
        repeat walk_at "bx"
  
        refine ⟨y1, (1 + a1).toNat, _, _, by rw [show (((1 + a1).toNat : Nat) : Int) = 1 + a1 by omega], rfl, hy1, by omega, fun n y2 hy2 hn0 hn1 => ?_⟩
        repeat walk_at "bx"
  
        refine ev_large ?_
        repeat walk_at "bx"
  
        (refine ev_take ?_; repeat walk_at "bx")
        refine ⟨y2, _, _, _, rfl, rfl, hy2, by first | decide | omega, fun a2 y3 hy3 hb0 hb1 => ?_⟩
        repeat walk_at "bx"
  
        refine ⟨y3, (1 + a2).toNat, _, _, by rw [show (((1 + a2).toNat : Nat) : Int) = 1 + a2 by omega], rfl, hy3, by omega, fun d y4 hy4 hd0 hd1 => ?_⟩
        repeat walk_at "bx"
  
        refine ⟨fun z => ?_, fun z => ?_⟩
        · repeat walk_at "bx"
  
          exact ⟨n, 10 ^ 39 - 1, y4, _, hn0, by unfold Lim; omega, by decide, by decide, hy4, rfl⟩
        · repeat walk_at "bx"
  
          exact ⟨n, 1 + d, y4, _, hn0, by unfold Lim; omega, by omega, by unfold Lim; omega, hy4, rfl⟩
      · repeat walk_at "bx"
  
        refine ⟨fun z => ?_, fun z => ?_⟩
        · repeat walk_at "bx"
  
          (refine ev_take ?_; repeat walk_at "bx")
          refine ⟨y, _, _, _, rfl, rfl, hy, by first | decide | omega, fun a1 y1 hy1 ha0 ha1 => ?_⟩
          repeat walk_at "bx"
  
          (refine ev_take ?_; repeat walk_at "bx")
          refine ⟨y1, _, _, _, rfl, rfl, hy1, by first | decide | omega, fun a2 y2 hy2 hb0 hb1 => ?_⟩
          repeat walk_at "bx"
  
          exact ⟨a1, 1 + a2, y2, _, ha0, by unfold Lim; omega, by omega, by unfold Lim; omega, hy2, rfl⟩
        · repeat walk_at "bx"
  
          (refine ev_take ?_; repeat walk_at "bx")
          refine ⟨y, _, _, _, rfl, rfl, hy, by first | decide | omega, fun a1 y1 hy1 ha0 ha1 => ?_⟩
          repeat walk_at "bx"
  
          (refine ev_take ?_; repeat walk_at "bx")
          refine ⟨y1, _, _, _, rfl, rfl, hy1, by first | decide | omega, fun a2 y2 hy2 hb0 hb1 => ?_⟩
          repeat walk_at "bx"
  
          exact ⟨a1, 1 + a2, y2, _, ha0, by unfold Lim; omega, by omega, by unfold Lim; omega, hy2, rfl⟩
    · rintro s3 ⟨n, d, y, x4, n0, n1, d0, d1, hy, rfl⟩
      repeat walk_at "bx"
  
      refine ev_with ?_
      repeat walk_at "bx"
  
      refine ev_lowest ?_
      repeat walk_at "bx"
  
      refine ⟨n, d, rfl, n0, n1, d0, d1, fun e he => ?_⟩
      repeat walk_at "bx"
  
      refine ⟨E, e, rfl, hE, he, by omega, fun E' hE' hl' => ?_⟩
      repeat walk_at "bx"
  
      exact ⟨E', y, _, _, _, hE', by omega, hy, rfl⟩
  · rintro s2 ⟨E, y, x4, x5, x6, hE, hlen, hy, rfl⟩
    repeat walk_at "bx3"
  
    exact ⟨E, y, rfl, rfl, hy, hE, by omega⟩
end
def sp__law_bits : Spc where
  I := Bx × Nat
  args := fun (x, n) => [.o 0, .d (.int n)]
  cells := fun (x, _) => [.dK x.kvs]
  pre := fun (x, n) => 0 ≤ x.index ∧ n ≤ 1000
  post := fun (x, n) r os => ∃ (bs : List Bool) (y : Bx), r = .val (.list (bL bs)) ∧ os = [.dK y.kvs] ∧ 0 ≤ y.index ∧ bs.length = n
section
variable {P : Program} {w : World} {K : PySem.W.Frag} {mg : Str → Option Value} {base : Heap}
theorem ok__law_bits (T : Tx K mg) : FnOk P w K mg base CX0 3 T.a__law_bits T.d__law_bits ["box", "count"] (SpB K sp__law_bits) := by
  refine T.F__law_bits.ok sc__law_bits (fun vs H Q E h => spB_len h (fun _ => rfl)) (fun cdv A outer s H vs Q E hr h => ⟨_, PSs.nox ((pss_cons (ps_set (i := 2) sc__law_bits.nd rfl (.inl rfl) (pe_op op_addA pe_int (pe_op op_mulA pe_int (pe_call (ok__law_take T) (hr.mono (by decide)) (by rfl) T.g__law_take T.F__law_take.kp (b__law_take T.F__law_take) .nil pass0 (pa_cons (pv 0) (pa_cons pe_int pa_nil))))))
      (pss_cons (ps_set (i := 3) sc__law_bits.nd rfl (.inl rfl) (pe_lst pa_nil))
      (pss_cons (ps_set (i := 4) sc__law_bits.nd rfl (.inl rfl) (pe_cmpR (op_eqD hr.units) (pe_call (ok__law_take T) (hr.mono (by decide)) (by rfl) T.g__law_take T.F__law_take.kp (b__law_take T.F__law_take) .nil pass0 (pa_cons (pv 0) (pa_cons pe_int pa_nil))) pe_int (nomark _)))
      (pss_cons (ps_for PassesOwn.never rfl (pi_range1 (by rfl) T.z_range (pa_cons (pv 1) pa_nil)) (pg_name (i := 5) sc__law_bits.nd rfl (.inl rfl) (.inr rfl))
      (pss_cons (ps_expr (pe_bm PySem.F.plainAttrs_list PySem.F.slot_list_append PySem.F.type_list_append mt_append (pv 3) (pa_cons (pv 4) pa_nil)))
      (pss_one (ps_if (pt_cmpR (op_eqD hr.units) (pe_call (ok__law_take T) (hr.mono (by decide)) (by rfl) T.g__law_take T.F__law_take.kp (b__law_take T.F__law_take) .nil pass0 (pa_cons (pv 0) (pa_cons (pv 2) pa_nil))) pe_int (nomark _))
      (pss_one (ps_set (i := 4) sc__law_bits.nd rfl (.inl rfl) (pe_notT (pv 4))))
      pss_nil))))
      (pss_one (ps_ret (pv 3)))))))), ?_⟩)
  refine go_fn (L := ["box", "count", "sides", "bits", "bit", "k"]) h (fun b i hp hX => ?_)
  dsimp only [cxOf, L2.Cx.nox, L2.Cx.wish]
  
  obtain ⟨x, n⟩ := i
  obtain ⟨h0, hn⟩ := hp
  repeat walk_at "bx"
  
  (refine ev_take ?_; repeat walk_at "bx")
  refine ⟨x, _, _, _, rfl, rfl, h0, by first | decide | omega, fun c0 y hy hc0 hc1 => ?_⟩
  repeat walk_at "bx"
  
  refine ev_lstO ?_
  repeat walk_at "bx"
  
  (refine ev_take ?_; repeat walk_at "bx")
  refine ⟨y, _, _, _, rfl, rfl, hy, by first | decide | omega, fun c1 y2 hy2 hd0 hd1 => ?_⟩
  repeat walk_at "bx3"
  
  refine ⟨by omega, fun i s => ∃ (bs : List Bool) (bit : Bool) (y : Bx) (x5 : Option Dw.A), bs.length = i ∧ 0 ≤ y.index ∧ s = ⟨[some (.o 0), some (.d (.int n)), some (.d (.int (2 + 3 * c0))), some (.o 1), some (.d (.bool bit)), x5], [.dK y.kvs, .lst (bL bs)]⟩, ⟨[], _, y2, none, rfl, hy2, rfl⟩, ?_, ?_⟩
  · rintro i s2 hi ⟨bs, bit, y, x5, hlen, hy, rfl⟩
    repeat walk_at "bx"
  
    refine ev_bmL (ev_var rfl ⟨⟨_, _, rfl, rfl⟩, ?_⟩)
    repeat walk_at "bx"
  
    refine vm_append (ds := bL bs) rfl (Nat.lt_of_le_of_lt (show _ ≤ 1000 by rw [bL_len]; omega) (by decide)) ?_
    rw [bL_snoc]
    repeat walk_at "bx"
  
    (refine ev_take ?_; repeat walk_at "bx")
    refine ⟨y, _, _, _, rfl, rfl, hy, by first | decide | omega, fun c2 y3 hy3 he0 he1 => ?_⟩
    repeat walk_at "bx"
  
    refine ⟨fun z => ?_, fun z => ?_⟩
    · repeat walk_at "bx"
  
      exact ⟨bs ++ [bit], !bit, y3, _, by rw [List.length_append, hlen]; rfl, hy3, rfl⟩
    · repeat walk_at "bx"
  
      exact ⟨bs ++ [bit], bit, y3, _, by rw [List.length_append, hlen]; rfl, hy3, rfl⟩
  · rintro s2 ⟨bs, bit, y, x5, hlen, hy, rfl⟩
    refine go_ret (ev_frz (xs := bL bs) rfl rfl (rt_val ?_))
    exact ⟨bs, y, rfl, rfl, hy, hlen⟩
end
def sp__law_form : Spc where
  I := List Fr × List Bool
  args := fun (E, bs) => [.d (.list (frL E)), .d (.list (bL bs))]
  cells := fun _ => []
  pre := fun (E, bs) => bs.length = 2 * E.length ∧ E.length ≤ 100
  post := fun (E, bs) r _ => r = .val (.list (lsD E (formP bs)))
section
variable {P : Program} {w : World} {K : PySem.W.Frag} {mg : Str → Option Value} {base : Heap}
theorem ok__law_form (T : Tx K mg) : FnOk P w K mg base CX0 1 T.a__law_form T.d__law_form ["ends", "bits"] (SpB K sp__law_form) := by
  refine T.F__law_form.ok sc__law_form (fun vs H Q E h => spB_len h (fun _ => rfl)) (fun cdv A outer s H vs Q E hr h => ⟨_, PSs.nox ((pss_cons (ps_set (i := 2) sc__law_form.nd rfl (.inl rfl) (pe_lst pa_nil))
      (pss_cons (ps_set (i := 3) sc__law_form.nd rfl (.inl rfl) pe_non)
      (pss_cons (ps_for PassesOwn.never rfl (pi_range1 (by rfl) T.z_range (pa_cons (pe_callB call_len (by rfl) T.z_len (by decide +kernel) (pa_cons (pv 0) pa_nil)) pa_nil)) (pg_name (i := 4) sc__law_form.nd rfl (.inl rfl) (.inr rfl))
      (pss_cons (ps_if (PW.pt (pw_and (pt_truth (pe_ix ix_seq (pv 1) (pe_op op_mulA pe_int (pv 4)) (fun _ _ => rfl)) (by intro _; rfl)) (pw_and1 (pt_cmpR op_isA (pv 3) pe_non (nomark _)))))
      (pss_one (ps_set (i := 3) sc__law_form.nd rfl (.inl rfl) (pe_tup (pa_cons (pe_ix ix_seq (pv 0) (pv 4) (fun _ _ => rfl)) (pa_cons pe_bl pa_nil)))))
      pss_nil)
      (pss_cons (ps_if (PW.pt (pw_and (pt_not (pt_truth (pe_ix ix_seq (pv 1) (pe_op op_mulA pe_int (pv 4)) (fun _ _ => rfl)) (by intro _; rfl))) (pw_and1 (pt_cmpR op_notA (pv 3) pe_non (nomark _)))))
      (pss_cons (ps_expr (pe_bm PySem.F.plainAttrs_list PySem.F.slot_list_append PySem.F.type_list_append mt_append (pv 2) (pa_cons (pe_tup (pa_cons (pe_ix ix_seq (pv 3) pe_int (fun _ _ => rfl)) (pa_cons (pe_ix ix_seq (pv 3) pe_int (fun _ _ => rfl)) (pa_cons (pe_ix ix_seq (pv 0) (pv 4) (fun _ _ => rfl)) (pa_cons pe_bl pa_nil))))) pa_nil)))
      (pss_one (ps_set (i := 3) sc__law_form.nd rfl (.inl rfl) pe_non)))
      pss_nil)
      (pss_cons (ps_if (PW.pt (pw_and (pt_truth (pe_ix ix_seq (pv 1) (pe_op op_addA (pe_op op_mulA pe_int (pv 4)) pe_int) (fun _ _ => rfl)) (by intro _; rfl)) (pw_and1 (pt_cmpR op_isA (pv 3) pe_non (nomark _)))))
      (pss_one (ps_set (i := 3) sc__law_form.nd rfl (.inl rfl) (pe_tup (pa_cons (pe_ix ix_seq (pv 0) (pv 4) (fun _ _ => rfl)) (pa_cons pe_bl pa_nil)))))
      pss_nil)
      (pss_one (ps_if (PW.pt (pw_and (pt_not (pt_truth (pe_ix ix_seq (pv 1) (pe_op op_addA (pe_op op_mulA pe_int (pv 4)) pe_int) (fun _ _ => rfl)) (by intro _; rfl))) (pw_and1 (pt_cmpR op_notA (pv 3) pe_non (nomark _)))))
      (pss_cons (ps_expr (pe_bm PySem.F.plainAttrs_list PySem.F.slot_list_append PySem.F.type_list_append mt_append (pv 2) (pa_cons (pe_tup (pa_cons (pe_ix ix_seq (pv 3) pe_int (fun _ _ => rfl)) (pa_cons (pe_ix ix_seq (pv 3) pe_int (fun _ _ => rfl)) (pa_cons (pe_ix ix_seq (pv 0) (pv 4) (fun _ _ => rfl)) (pa_cons pe_bl pa_nil))))) pa_nil)))
      (pss_one (ps_set (i := 3) sc__law_form.nd rfl (.inl rfl) pe_non)))
      pss_nil))))))
      (pss_cons (ps_if (pt_cmpR op_notA (pv 3) pe_non (nomark _))
      (pss_one (ps_expr (pe_bm PySem.F.plainAttrs_list PySem.F.slot_list_append PySem.F.type_list_append mt_append (pv 2) (pa_cons (pe_tup (pa_cons (pe_ix ix_seq (pv 3) pe_int (fun _ _ => rfl)) (pa_cons (pe_ix ix_seq (pv 3) pe_int (fun _ _ => rfl)) (pa_cons pe_non (pa_cons pe_bl pa_nil))))) pa_nil))))
      pss_nil)
      (pss_one (ps_ret (pv 2)))))))), ?_⟩)
  refine go_fn (L := ["ends", "bits", "rows", "low", "k"]) h (fun b i hp hX => ?_)
  dsimp only [cxOf, L2.Cx.nox, L2.Cx.wish]
  
  obtain ⟨E, bs⟩ := i
  obtain ⟨hb, hlen⟩ := hp
  have hl : (frL E).length = E.length := frL_len
  refine go_sAsg (ev_lstO (ea_nil ⟨[], rfl, rfl, gt_name ?_⟩))
  refine go_sAsg (ev_non (gt_name ?_))
  repeat walk_at "bx"
  
  rw [hl]
  refine ⟨by omega, fun i s => ∃ (rows : List PQ) (low : Option Nat) (x4 : Option Dw.A), rows.length ≤ 2 * i ∧ (∀ p, low = some p → p < 2 * i) ∧ rows ++ formF (2 * i) low (bs.drop (2 * i)) = formP bs ∧ s = ⟨[some (.d (.list (frL E))), some (.d (.list (bL bs))), some (.o 0), some (.d (loD E low)), x4], [.lst (lsD E rows)]⟩, ⟨[], none, none, Nat.zero_le _, (fun p h => nomatch h), rfl, rfl⟩, ?_, ?_⟩
  · rintro i s2 hi ⟨rows, low, x4, hr, hlow, hf, rfl⟩
    obtain ⟨f, hE⟩ : ∃ x, E[i]? = some x := ⟨_, List.getElem?_eq_getElem hi⟩
    obtain ⟨b0, h0⟩ : ∃ x, bs[2 * i]? = some x := ⟨_, List.getElem?_eq_getElem (by omega)⟩
    obtain ⟨b1, h1⟩ : ∃ x, bs[2 * i + 1]? = some x := ⟨_, List.getElem?_eq_getElem (by omega)⟩
    have eE := frL_get hE
    have e0 : atI (bL bs) (2 * (i : Int)) = some (.bool b0) := bL_get (i := 2 * i) h0
    have e1 : atI (bL bs) (2 * (i : Int) + 1) = some (.bool b1) := bL_get (i := 2 * i + 1) h1
    have d0 := drop_at h0
    have d1 := drop_at h1
    rw [d0, d1] at hf
    have app : ∀ (ss : List (Option Dw.A)) (rs : List PQ) (p q : Nat) (v : PyData) (Φ : Dw.A → S → Prop), rs.length ≤ 2 * i + 1 → v = stD E (p, q) → Φ (.d .none) ⟨ss, [.lst (lsD E (rs ++ [(p, q)]))]⟩ → VM K b rAppend (.o 0) [.d v] ⟨ss, [.lst (lsD E rs)]⟩ Φ := fun ss rs p q v Φ hl e k => by
      subst e
      refine vm_append (ds := lsD E rs) rfl (Nat.lt_of_le_of_lt (show _ ≤ 1000 by rw [lsD_len]; omega) (by decide)) ?_
      rw [lsD_snoc]
      exact k
    have ev0 : decide ((2 * i) % 2 = 0) = true := by simp
    have ev1 : decide ((2 * i + 1) % 2 = 0) = false := by simp
    have g0 : (E[(2 * i) / 2]?).getD (0, 1) = f := by rw [show 2 * i / 2 = i by omega, hE]; rfl
    have g1 : (E[(2 * i + 1) / 2]?).getD (0, 1) = f := by rw [show (2 * i + 1) / 2 = i by omega, hE]; rfl
    have row0 : ∀ p, p < 2 * i + 1 → PyData.tuple [frD ((E[p / 2]?).getD (0, 1)), .bool (decide (p % 2 = 0)), frD f, .bool false] = stD E (p, 2 * i) := fun p hp => by
      rw [st_row (f := f) (by omega) (by rw [show 2 * i / 2 = i by omega]; exact hE)]
      rw [show decide (2 * i % 2 = 1) = false by simp]
    have row1 : ∀ p, p < 2 * i + 1 → PyData.tuple [frD ((E[p / 2]?).getD (0, 1)), .bool (decide (p % 2 = 0)), frD f, .bool true] = stD E (p, 2 * i + 1) := fun p hp => by
      rw [st_row (f := f) (by omega) (by rw [show (2 * i + 1) / 2 = i by omega]; exact hE)]
      rw [show decide ((2 * i + 1) % 2 = 1) = true by simp]
    have fin : ∀ (rs : List PQ) (lw : Option Nat) (v : PyData), rs.length ≤ 2 * i + 2 → (∀ p, lw = some p → p < 2 * i + 2) → rs ++ formF (2 * i + 1 + 1) lw (bs.drop (2 * i + 1 + 1)) = formP bs → v = loD E lw → ∃ (rows : List PQ) (low : Option Nat) (x4 : Option Dw.A), rows.length ≤ 2 * (i + 1) ∧ (∀ p, low = some p → p < 2 * (i + 1)) ∧ rows ++ formF (2 * (i + 1)) low (bs.drop (2 * (i + 1))) = formP bs ∧ (⟨[some (.d (.list (frL E))), some (.d (.list (bL bs))), some (.o 0), some (.d v), some (.d (.int i))], [.lst (lsD E rs)]⟩ : S) = ⟨[some (.d (.list (frL E))), some (.d (.list (bL bs))), some (.o 0), some (.d (loD E low)), x4], [.lst (lsD E rows)]⟩ := fun rs lw v a1 a2 a3 a4 => ⟨rs, lw, some (.d (.int i)), a1, a2, a3, by rw [a4]⟩
    have l0 : PyData.tuple [frD f, .bool true] = loD E (some (2 * i)) := by
      show _ = PyData.tuple [frD ((E[(2 * i) / 2]?).getD (0, 1)), .bool (decide ((2 * i) % 2 = 0))]
      rw [g0, ev0]
    have l1 : PyData.tuple [frD f, .bool false] = loD E (some (2 * i + 1)) := by
      show _ = PyData.tuple [frD ((E[(2 * i + 1) / 2]?).getD (0, 1)), .bool (decide ((2 * i + 1) % 2 = 0))]
      rw [g1, ev1]
    have r0 : PyData.tuple [frD f, .bool true, frD f, .bool true] = stD E (2 * i, 2 * i + 1) := by
      have := row1 (2 * i) (by omega)
      rw [g0, ev0] at this
      exact this
    refine gt_name ?_
    cases b0 <;> cases b1 <;> cases low
    · repeat walk_at "cs"
  
      refine fin rows none _ (by first | omega | (simp; omega)) (fun q hq => ?_) ?_ rfl
      · cases hq
      · rw [← hf]; simp [formF]
    · have hp := hlow _ rfl
      rename_i p
      have ep : loD E (some p) = .tuple [frD ((E[p / 2]?).getD (0, 1)), .bool (decide (p % 2 = 0))] := rfl
      rw [ep]
      repeat walk_at "cs"
  
      refine ev_bmL (ev_var rfl ⟨⟨_, _, rfl, rfl⟩, ?_⟩)
      repeat walk_at "cs"
  
      refine app _ rows p (2 * i) _ _ (by omega) (row0 p (by omega)) ?_
      repeat walk_at "cs"
  
      refine fin (rows ++ [(p, 2 * i)]) none _ (by first | omega | (simp; omega)) (fun q hq => ?_) ?_ rfl
      · cases hq
      · rw [← hf]; simp [formF]
    · repeat walk_at "cs"
  
      refine fin rows (some (2 * i + 1)) _ (by first | omega | (simp; omega)) (fun q hq => ?_) ?_ l1
      · cases hq; omega
      · rw [← hf]; simp [formF]
    · have hp := hlow _ rfl
      rename_i p
      have ep : loD E (some p) = .tuple [frD ((E[p / 2]?).getD (0, 1)), .bool (decide (p % 2 = 0))] := rfl
      rw [ep]
      repeat walk_at "cs"
  
      refine ev_bmL (ev_var rfl ⟨⟨_, _, rfl, rfl⟩, ?_⟩)
      repeat walk_at "cs"
  
      refine app _ rows p (2 * i) _ _ (by omega) (row0 p (by omega)) ?_
      repeat walk_at "cs"
  
      refine fin (rows ++ [(p, 2 * i)]) (some (2 * i + 1)) _ (by first | omega | (simp; omega)) (fun q hq => ?_) ?_ l1
      · cases hq; omega
      · rw [← hf]; simp [formF]
    · repeat walk_at "cs"
  
      refine ev_bmL (ev_var rfl ⟨⟨_, _, rfl, rfl⟩, ?_⟩)
      repeat walk_at "cs"
  
      refine app _ rows (2 * i) (2 * i + 1) _ _ (by first | omega | (simp; omega)) r0 ?_
      repeat walk_at "cs"
  
      refine fin (rows ++ [((2 * i), 2 * i + 1)]) none _ (by first | omega | (simp; omega)) (fun q hq => ?_) ?_ rfl
      · cases hq
      · rw [← hf]; simp [formF]
    · have hp := hlow _ rfl
      rename_i p
      have ep : loD E (some p) = .tuple [frD ((E[p / 2]?).getD (0, 1)), .bool (decide (p % 2 = 0))] := rfl
      rw [ep]
      repeat walk_at "cs"
  
      refine ev_bmL (ev_var rfl ⟨⟨_, _, rfl, rfl⟩, ?_⟩)
      repeat walk_at "cs"
  
      refine app _ rows p (2 * i + 1) _ _ (by first | omega | (simp; omega)) (row1 p (by omega)) ?_
      repeat walk_at "cs"
  
      refine fin (rows ++ [(p, 2 * i + 1)]) none _ (by first | omega | (simp; omega)) (fun q hq => ?_) ?_ rfl
      · cases hq
      · rw [← hf]; simp [formF]
    · repeat walk_at "cs"
  
      refine fin rows (some (2 * i)) _ (by first | omega | (simp; omega)) (fun q hq => ?_) ?_ l0
      · cases hq; omega
      · rw [← hf]; simp [formF]
    · have hp := hlow _ rfl
      rename_i p
      have ep : loD E (some p) = .tuple [frD ((E[p / 2]?).getD (0, 1)), .bool (decide (p % 2 = 0))] := rfl
      rw [ep]
      repeat walk_at "cs"
  
      refine fin rows (some p) _ (by first | omega | (simp; omega)) (fun q hq => ?_) ?_ rfl
      · cases hq; omega
      · rw [← hf]; simp [formF]
  · rintro s2 ⟨rows, low, x4, hr, hlow, hf, rfl⟩
    rw [List.drop_of_length_le (by omega)] at hf
    refine go_mid (fun s => ∃ (x3 x4 : Option Dw.A), s = ⟨[some (.d (.list (frL E))), some (.d (.list (bL bs))), some (.o 0), x3, x4], [.lst (lsD E (formP bs))]⟩) ?_ ?_
    · cases low with
      | none =>
        repeat walk_at "cs"
  
        have hf : rows ++ [] = formP bs := hf
        rw [List.append_nil] at hf
        exact ⟨_, _, by rw [hf]⟩
      | some p =>
        have hp := hlow p rfl
        have hf : rows ++ [(p, 2 * E.length)] = formP bs := hf
        have ep : loD E (some p) = .tuple [frD ((E[p / 2]?).getD (0, 1)), .bool (decide (p % 2 = 0))] := rfl
        rw [ep]
        repeat walk_at "cs"
  
        refine ev_bmL (ev_var rfl ⟨⟨_, _, rfl, rfl⟩, ?_⟩)
        repeat walk_at "cs"
  
        refine vm_append (ds := lsD E rows) rfl (Nat.lt_of_le_of_lt (show _ ≤ 1000 by rw [lsD_len]; omega) (by decide)) ?_
        have key : lsD E rows ++ [.tuple [frD ((E[p / 2]?).getD (0, 1)), .bool (decide (p % 2 = 0)), .none, .bool false]] = lsD E (formP bs) := by rw [← st_top hp (Nat.le_refl _), lsD_snoc, hf]
        show ∃ (x3' x4' : Option Dw.A), (S.mk [some (.d (.list (frL E))), some (.d (.list (bL bs))), some (.o 0), some (.d (.tuple [frD ((E[p / 2]?).getD (0, 1)), .bool (decide (p % 2 = 0))])), x4] [C.lst (lsD E rows ++ [.tuple [frD ((E[p / 2]?).getD (0, 1)), .bool (decide (p % 2 = 0)), .none, .bool false]])] : S) = _
        rw [key]
        exact ⟨_, _, rfl⟩
    · rintro s3 ⟨x3, x4, rfl⟩
      refine go_ret (ev_frz (xs := lsD E (formP bs)) rfl rfl (rt_val rfl))
end
def sp__law_is_integer : Spc where
  I := Int
  args := fun n => [.d (.int n)]
  cells := fun _ => []
  pre := fun _ => True
  post := fun _ r _ => r = .val (.bool true)
section
variable {P : Program} {w : World} {K : PySem.W.Frag} {mg : Str → Option Value} {base : Heap}
theorem ok__law_is_integer (T : Tx K mg) : FnOk P w K mg base CX0 1 T.a__law_is_integer T.d__law_is_integer ["value"] (SpB K sp__law_is_integer) := by
  refine T.F__law_is_integer.ok sc__law_is_integer (fun vs H Q E h => spB_len h (fun _ => rfl)) (fun cdv A outer s H vs Q E hr h => ⟨_, PSs.nox ((pss_one (ps_ret (pe_and (pe_callB call_isi (by rfl) T.z_isinstance (by decide +kernel) (pa_cons (pv 0) (pa_cons (pe_bltn (v := .ty "int") (by rfl) T.z_int (by decide +kernel) rfl) pa_nil))) (pe_one (pe_notT (pe_callB call_isi (by rfl) T.z_isinstance (by decide +kernel) (pa_cons (pv 0) (pa_cons (pe_bltn (v := .ty "bool") (by rfl) T.z_bool (by decide +kernel) rfl) pa_nil))))))))), ?_⟩)
  refine go_fn (L := ["value"]) h (fun b i hp hX => ?_)
  dsimp only [cxOf, L2.Cx.nox, L2.Cx.wish]
  
  repeat walk_at "dd"
  
  rfl
end
section
variable {K : PySem.W.Frag} {b : B} {s : S} {t : TA} {Φ : Dw.A → S → Prop}
theorem ev_isint (h : EA K b t s fun as s1 => ∃ n : Int, as = [.d (.int n)] ∧ Φ (.d (.bool true)) s1) : EV K b (tCall (SpB K sp__law_is_integer) [] E0 t) s Φ := by
  refine ev_callV fun σ H tv tl Hd ps R Q k => h σ H tv tl Hd ps R Q fun vs H1 as s1 Hd1 ps1 h1 R1 a1 => k vs H1 as s1 Hd1 ps1 ?_ R1 a1
  obtain ⟨n, rfl, q⟩ := h1
  exact ⟨n, _, rfl, rfl, rfl, trivial, fun _ _ h => h, fun _ _ h => h, q⟩
end
def sp__law_same_fraction : Spc where
  I := Option Fr
  args := fun n => [.d (foD n), .d (foD n)]
  cells := fun _ => []
  pre := fun _ => True
  post := fun _ r _ => r = .val (.bool true)
section
variable {P : Program} {w : World} {K : PySem.W.Frag} {mg : Str → Option Value} {base : Heap}
theorem ok__law_same_fraction (T : Tx K mg) : FnOk P w K mg base CX0 2 T.a__law_same_fraction T.d__law_same_fraction ["got", "due"] (SpB K sp__law_same_fraction) := by
  refine T.F__law_same_fraction.ok sc__law_same_fraction (fun vs H Q E h => spB_len h (fun _ => rfl)) (fun cdv A outer s H vs Q E hr h => ⟨_, PSs.nox ((pss_cons (ps_if (pt_cmpR op_isA (pv 1) pe_non (nomark _))
      (pss_one (ps_ret (pe_cmpR op_isA (pv 0) pe_non (nomark _))))
      pss_nil)
      (pss_cons (ps_if (PW.pt (pw_or (pt_not (pt_truth (pe_callB call_isi (by rfl) T.z_isinstance (by decide +kernel) (pa_cons (pv 0) (pa_cons (pe_bltn (v := .ty "tuple") (by rfl) T.z_tuple (by decide +kernel) rfl) pa_nil))) (by intro _; rfl))) (pw_or1 (pt_cmpR (op_neD hr.units) (pe_callB call_len (by rfl) T.z_len (by decide +kernel) (pa_cons (pv 0) pa_nil)) pe_int (nomark _)))))
      (pss_one (ps_ret pe_bl))
      pss_nil)
      (pss_cons (ps_if (PW.pt (pw_or (pt_not (pt_truth (pe_call (ok__law_is_integer T) (hr.mono (by decide)) (by rfl) T.g__law_is_integer T.F__law_is_integer.kp (b__law_is_integer T.F__law_is_integer) .nil pass0 (pa_cons (pe_ix ix_seq (pv 0) pe_int (fun _ _ => rfl)) pa_nil)) (by intro _; rfl))) (pw_or1 (pt_not (pt_truth (pe_call (ok__law_is_integer T) (hr.mono (by decide)) (by rfl) T.g__law_is_integer T.F__law_is_integer.kp (b__law_is_integer T.F__law_is_integer) .nil pass0 (pa_cons (pe_ix ix_seq (pv 0) pe_int (fun _ _ => rfl)) pa_nil)) (by intro _; rfl))))))
      (pss_one (ps_ret pe_bl))
      pss_nil)
      (pss_one (ps_ret (pe_and (pe_cmpR (op_eqD hr.units) (pe_ix ix_seq (pv 0) pe_int (fun _ _ => rfl)) (pe_ix ix_seq (pv 1) pe_int (fun _ _ => rfl)) (nomark _)) (pe_one (pe_cmpR (op_eqD hr.units) (pe_ix ix_seq (pv 0) pe_int (fun _ _ => rfl)) (pe_ix ix_seq (pv 1) pe_int (fun _ _ => rfl)) (nomark _)))))))))), ?_⟩)
  refine go_fn (L := ["got", "due"]) h (fun b i hp hX => ?_)
  dsimp only [cxOf, L2.Cx.nox, L2.Cx.wish]
  
  cases i with
  | none =>
    have e : foD none = .none := rfl
    show GO K b _ ⟨[some (.d .none), some (.d .none)], []⟩ _
    repeat walk_at "dd"
  
    rfl
  | some f =>
    show GO K b _ ⟨[some (.d (.tuple [.int f.1, .int f.2])), some (.d (.tuple [.int f.1, .int f.2]))], []⟩ _
    repeat walk_at "dd"
  
    refine ev_isint ?_
    repeat walk_at "dd"
  
    refine ev_isint ?_
    repeat walk_at "dd"
  
    rfl
end
section
variable {K : PySem.W.Frag} {b : B} {s : S} {t : TA} {Φ : Dw.A → S → Prop}
theorem ev_samef (h : EA K b t s fun as s1 => ∃ n : Option Fr, as = [.d (foD n), .d (foD n)] ∧ Φ (.d (.bool true)) s1) : EV K b (tCall (SpB K sp__law_same_fraction) [] E0 t) s Φ := by
  refine ev_callV fun σ H tv tl Hd ps R Q k => h σ H tv tl Hd ps R Q fun vs H1 as s1 Hd1 ps1 h1 R1 a1 => k vs H1 as s1 Hd1 ps1 ?_ R1 a1
  obtain ⟨n, rfl, q⟩ := h1
  exact ⟨n, _, rfl, rfl, rfl, trivial, fun _ _ h => h, fun _ _ h => h, q⟩
end
def sp__law_same : Spc where
  I := List Fr × List PQ
  args := fun (E, l) => [.d (.list (lsD E l)), .d (.list (lsD E l))]
  cells := fun _ => []
  pre := fun (E, l) => l.length ≤ 1000
  post := fun _ r _ => r = .val (.bool true)
section
variable {P : Program} {w : World} {K : PySem.W.Frag} {mg : Str → Option Value} {base : Heap}
theorem ok__law_same (T : Tx K mg) : FnOk P w K mg base CX0 3 T.a__law_same T.d__law_same ["got", "due"] (SpB K sp__law_same) := by
  refine T.F__law_same.ok sc__law_same (fun vs H Q E h => spB_len h (fun _ => rfl)) (fun cdv A outer s H vs Q E hr h => ⟨_, PSs.nox ((pss_cons (ps_if (PW.pt (pw_or (pt_not (pt_truth (pe_callB call_isi (by rfl) T.z_isinstance (by decide +kernel) (pa_cons (pv 0) (pa_cons (pe_bltn (v := .ty "list") (by rfl) T.z_list (by decide +kernel) rfl) pa_nil))) (by intro _; rfl))) (pw_or1 (pt_cmpR (op_neD hr.units) (pe_callB call_len (by rfl) T.z_len (by decide +kernel) (pa_cons (pv 0) pa_nil)) (pe_callB call_len (by rfl) T.z_len (by decide +kernel) (pa_cons (pv 1) pa_nil)) (nomark _)))))
      (pss_one (ps_ret pe_bl))
      pss_nil)
      (pss_cons (ps_for PassesOwn.never rfl (pi_range1 (by rfl) T.z_range (pa_cons (pe_callB call_len (by rfl) T.z_len (by decide +kernel) (pa_cons (pv 1) pa_nil)) pa_nil)) (pg_name (i := 2) sc__law_same.nd rfl (.inl rfl) (.inr rfl))
      (pss_cons (ps_set (i := 3) sc__law_same.nd rfl (.inl rfl) (pe_ix ix_seq (pv 0) (pv 2) (fun _ _ => rfl)))
      (pss_cons (ps_if (PW.pt (pw_or (pt_not (pt_truth (pe_callB call_isi (by rfl) T.z_isinstance (by decide +kernel) (pa_cons (pv 3) (pa_cons (pe_bltn (v := .ty "tuple") (by rfl) T.z_tuple (by decide +kernel) rfl) pa_nil))) (by intro _; rfl))) (pw_or1 (pt_cmpR (op_neD hr.units) (pe_callB call_len (by rfl) T.z_len (by decide +kernel) (pa_cons (pv 3) pa_nil)) pe_int (nomark _)))))
      (pss_one (ps_ret pe_bl))
      pss_nil)
      (pss_cons (ps_if (PW.pt (pw_or (pt_not (pt_truth (pe_callB call_isi (by rfl) T.z_isinstance (by decide +kernel) (pa_cons (pe_ix ix_seq (pv 3) pe_int (fun _ _ => rfl)) (pa_cons (pe_bltn (v := .ty "bool") (by rfl) T.z_bool (by decide +kernel) rfl) pa_nil))) (by intro _; rfl))) (pw_or1 (pt_not (pt_truth (pe_callB call_isi (by rfl) T.z_isinstance (by decide +kernel) (pa_cons (pe_ix ix_seq (pv 3) pe_int (fun _ _ => rfl)) (pa_cons (pe_bltn (v := .ty "bool") (by rfl) T.z_bool (by decide +kernel) rfl) pa_nil))) (by intro _; rfl))))))
      (pss_one (ps_ret pe_bl))
      pss_nil)
      (pss_cons (ps_if (PW.pt (pw_or (pt_not (pt_truth (pe_call (ok__law_same_fraction T) (hr.mono (by decide)) (by rfl) T.g__law_same_fraction T.F__law_same_fraction.kp (b__law_same_fraction T.F__law_same_fraction) .nil pass0 (pa_cons (pe_ix ix_seq (pv 3) pe_int (fun _ _ => rfl)) (pa_cons (pe_ix ix_seq (pe_ix ix_seq (pv 1) (pv 2) (fun _ _ => rfl)) pe_int (fun _ _ => rfl)) pa_nil))) (by intro _; rfl))) (pw_or1 (pt_not (pt_truth (pe_call (ok__law_same_fraction T) (hr.mono (by decide)) (by rfl) T.g__law_same_fraction T.F__law_same_fraction.kp (b__law_same_fraction T.F__law_same_fraction) .nil pass0 (pa_cons (pe_ix ix_seq (pv 3) pe_int (fun _ _ => rfl)) (pa_cons (pe_ix ix_seq (pe_ix ix_seq (pv 1) (pv 2) (fun _ _ => rfl)) pe_int (fun _ _ => rfl)) pa_nil))) (by intro _; rfl))))))
      (pss_one (ps_ret pe_bl))
      pss_nil)
      (pss_one (ps_if (PW.pt (pw_or (pt_cmpR (op_neD hr.units) (pe_ix ix_seq (pv 3) pe_int (fun _ _ => rfl)) (pe_ix ix_seq (pe_ix ix_seq (pv 1) (pv 2) (fun _ _ => rfl)) pe_int (fun _ _ => rfl)) (nomark _)) (pw_or1 (pt_cmpR (op_neD hr.units) (pe_ix ix_seq (pv 3) pe_int (fun _ _ => rfl)) (pe_ix ix_seq (pe_ix ix_seq (pv 1) (pv 2) (fun _ _ => rfl)) pe_int (fun _ _ => rfl)) (nomark _)))))
      (pss_one (ps_ret pe_bl))
      pss_nil)))))))
      (pss_one (ps_ret pe_bl))))), ?_⟩)
  refine go_fn (L := ["got", "due", "k", "row"]) h (fun b i hp hX => ?_)
  dsimp only [cxOf, L2.Cx.nox, L2.Cx.wish]
  
  obtain ⟨E, l⟩ := i
  have hlen : l.length ≤ 1000 := hp
  have hl : (lsD E l).length = l.length := lsD_len
  show GO K b _ ⟨[some (.d (.list (lsD E l))), some (.d (.list (lsD E l))), none, none], []⟩ _
  repeat walk_at "dd"
  
  rw [hl]
  refine ⟨by omega, fun i s => ∃ (x2 x3 : Option Dw.A), s = ⟨[some (.d (.list (lsD E l))), some (.d (.list (lsD E l))), x2, x3], []⟩, ⟨none, none, rfl⟩, ?_, ?_⟩
  · rintro i s2 hi ⟨x2, x3, rfl⟩
    obtain ⟨x, hx⟩ : ∃ x, l[i]? = some x := ⟨_, List.getElem?_eq_getElem hi⟩
    have ex := lsD_get (E := E) hx
    obtain ⟨f, u, v, g, e⟩ := st_shape (E := E) (x := x)
    rw [e] at ex
    repeat walk_at "dd"
  
    refine ev_samef ?_
    repeat walk_at "dd"
  
    try refine ⟨some f, rfl, ?_⟩
    repeat walk_at "dd"
  
    refine ev_samef ?_
    repeat walk_at "dd"
  
    try refine ⟨g, rfl, ?_⟩
    repeat walk_at "dd"
  
    exact ⟨_, _, rfl⟩
  · rintro s2 ⟨x2, x3, rfl⟩
    repeat walk_at "dd"
  
    rfl
end
section
variable {K : PySem.W.Frag} {b : B} {s : S} {t : TA} {Φ : Dw.A → S → Prop}
theorem ev_same (E : List Fr) (l : List PQ) (h : EA K b t s fun as s1 => ∃ a c, as = [a, c] ∧ l.length ≤ 1000 ∧ Vw s1 a (.list (lsD E l)) ∧ Vw s1 c (.list (lsD E l)) ∧ Φ (.d (.bool true)) s1) : EV K b (tCall (SpB K sp__law_same) [] E0 t) s Φ := by
  refine ev_callS fun σ H tv tl Hd ps R Q k => h σ H tv tl Hd ps R Q fun vs H1 as s1 Hd1 ps1 h1 R1 a1 => k vs H1 as s1 Hd1 ps1 ?_ R1 a1
  obtain ⟨a, c, rfl, hl, v1, v2, q⟩ := h1
  exact ⟨(E, l), [.list (lsD E l), .list (lsD E l)], .cons v1 (.cons v2 .nil), rfl, rfl, hl, fun r _ h => ⟨_, h, rfl, q⟩, fun x _ h => (show False from h).elim, xok_no (fun _ _ h => h)⟩
end
def sp__law_questions : Spc where
  I := Bx × List Fr × Int
  args := fun (x, E, n) => [.o 0, .d (.list (frL E)), .d (.int n)]
  cells := fun (x, _) => [.dK x.kvs]
  pre := fun (x, E, n) => 0 ≤ x.index ∧ Ends E ∧ E.length ≤ 100
  post := fun (x, E, n) r os => ∃ (qs : List Qu) (y : Bx), r = .val (.list (quL qs)) ∧ os = [.dK y.kvs] ∧ 0 ≤ y.index ∧ qs.length = 2 * E.length ∧ ∀ q, q ∈ qs → Loc E q.1 q.2.1 q.2.2
section
variable {P : Program} {w : World} {K : PySem.W.Frag} {mg : Str → Option Value} {base : Heap}
theorem ok__law_questions (T : Tx K mg) : FnOk P w K mg base CX0 3 T.a__law_questions T.d__law_questions ["box", "ends", "shape"] (SpB K sp__law_questions) := by
  refine T.F__law_questions.ok sc__law_questions (fun vs H Q E h => spB_len h (fun _ => rfl)) (fun cdv A outer s H vs Q E hr h => ⟨_, PSs.nox ((pss_cons (ps_set (i := 3) sc__law_questions.nd rfl (.inl rfl) (pe_lst (pa_cons pe_int (pa_cons pe_int (pa_cons pe_int (pa_cons pe_int (pa_cons (pe_op op_pow pe_int pe_int) (pa_cons (pe_op op_pow pe_int pe_int) pa_nil))))))))
      (pss_cons (ps_if (pt_cmpR (op_eqD hr.units) (pv 2) pe_int (nomark _))
      (pss_one (ps_set (i := 3) sc__law_questions.nd rfl (.inl rfl) (pe_lst (pa_cons pe_int (pa_cons pe_int (pa_cons pe_int (pa_cons pe_int pa_nil)))))))
      pss_nil)
      (pss_cons (ps_set (i := 4) sc__law_questions.nd rfl (.inl rfl) (pe_lst pa_nil))
      (pss_cons (ps_for PassesOwn.never rfl (pi_range1 (by rfl) T.z_range (pa_cons (pe_callB call_len (by rfl) T.z_len (by decide +kernel) (pa_cons (pv 1) pa_nil)) pa_nil)) (pg_name (i := 5) sc__law_questions.nd rfl (.inl rfl) (.inr rfl))
      (pss_cons (ps_set (i := 6) sc__law_questions.nd rfl (.inl rfl) pe_int)
      (pss_cons (ps_if (pt_cmpR (op_neD hr.units) (pv 2) pe_int (nomark _))
      (pss_one (ps_set (i := 6) sc__law_questions.nd rfl (.inl rfl) (pe_op op_addA pe_int (pe_call (ok__law_take T) (hr.mono (by decide)) (by rfl) T.g__law_take T.F__law_take.kp (b__law_take T.F__law_take) .nil pass0 (pa_cons (pv 0) (pa_cons pe_int pa_nil))))))
      pss_nil)
      (pss_cons (ps_expr (pe_bm PySem.F.plainAttrs_list PySem.F.slot_list_append PySem.F.type_list_append mt_append (pv 4) (pa_cons (pe_tup (pa_cons (pe_op op_mulA pe_int (pv 5)) (pa_cons (pe_op op_mulA (pe_ix ix_seq (pe_ix ix_seq (pv 1) (pv 5) (fun _ _ => rfl)) pe_int (fun _ _ => rfl)) (pv 6)) (pa_cons (pe_op op_mulA (pe_ix ix_seq (pe_ix ix_seq (pv 1) (pv 5) (fun _ _ => rfl)) pe_int (fun _ _ => rfl)) (pv 6)) pa_nil)))) pa_nil)))
      (pss_cons (ps_set (i := 7) sc__law_questions.nd rfl (.inl rfl) (pe_ix ix_seq (pv 3) (pe_call (ok__law_take T) (hr.mono (by decide)) (by rfl) T.g__law_take T.F__law_take.kp (b__law_take T.F__law_take) .nil pass0 (pa_cons (pv 0) (pa_cons (pe_callB call_len (by rfl) T.z_len (by decide +kernel) (pa_cons (pv 3) pa_nil)) pa_nil))) (fun _ _ => rfl)))
      (pss_one (ps_if (pt_cmpR (op_eqD hr.units) (pe_op op_addA (pv 5) pe_int) (pe_callB call_len (by rfl) T.z_len (by decide +kernel) (pa_cons (pv 1) pa_nil)) (nomark _))
      (pss_one (ps_expr (pe_bm PySem.F.plainAttrs_list PySem.F.slot_list_append PySem.F.type_list_append mt_append (pv 4) (pa_cons (pe_tup (pa_cons (pe_op op_addA (pe_op op_mulA pe_int (pv 5)) pe_int) (pa_cons (pe_op op_mulA (pe_op op_addA (pe_op op_mulA (pe_ix ix_seq (pe_ix ix_seq (pv 1) (pv 5) (fun _ _ => rfl)) pe_int (fun _ _ => rfl)) (pv 7)) pe_int) (pv 6)) (pa_cons (pe_op op_mulA (pe_op op_mulA (pe_ix ix_seq (pe_ix ix_seq (pv 1) (pv 5) (fun _ _ => rfl)) pe_int (fun _ _ => rfl)) (pv 7)) (pv 6)) pa_nil)))) pa_nil))))
      (pss_one (ps_if (pt_cmpR (op_eqD hr.units) (pe_call (ok__law_take T) (hr.mono (by decide)) (by rfl) T.g__law_take T.F__law_take.kp (b__law_take T.F__law_take) .nil pass0 (pa_cons (pv 0) (pa_cons pe_int pa_nil))) pe_int (nomark _))
      (pss_cons (ps_set (i := 8) sc__law_questions.nd rfl (.inl rfl) (pe_op op_addA (pe_op op_mulA (pe_ix ix_seq (pe_ix ix_seq (pv 1) (pv 5) (fun _ _ => rfl)) pe_int (fun _ _ => rfl)) (pv 7)) (pe_ix ix_seq (pe_ix ix_seq (pv 1) (pe_op op_addA (pv 5) pe_int) (fun _ _ => rfl)) pe_int (fun _ _ => rfl))))
      (pss_cons (ps_set (i := 9) sc__law_questions.nd rfl (.inl rfl) (pe_op op_addA (pe_op op_mulA (pe_ix ix_seq (pe_ix ix_seq (pv 1) (pv 5) (fun _ _ => rfl)) pe_int (fun _ _ => rfl)) (pv 7)) (pe_ix ix_seq (pe_ix ix_seq (pv 1) (pe_op op_addA (pv 5) pe_int) (fun _ _ => rfl)) pe_int (fun _ _ => rfl))))
      (pss_one (ps_expr (pe_bm PySem.F.plainAttrs_list PySem.F.slot_list_append PySem.F.type_list_append mt_append (pv 4) (pa_cons (pe_tup (pa_cons (pe_op op_addA (pe_op op_mulA pe_int (pv 5)) pe_int) (pa_cons (pe_op op_mulA (pv 8) (pv 6)) (pa_cons (pe_op op_mulA (pv 9) (pv 6)) pa_nil)))) pa_nil))))))
      (pss_cons (ps_set (i := 8) sc__law_questions.nd rfl (.inl rfl) (pe_op op_addA (pe_ix ix_seq (pe_ix ix_seq (pv 1) (pv 5) (fun _ _ => rfl)) pe_int (fun _ _ => rfl)) (pe_op op_mulA (pe_ix ix_seq (pe_ix ix_seq (pv 1) (pe_op op_addA (pv 5) pe_int) (fun _ _ => rfl)) pe_int (fun _ _ => rfl)) (pv 7))))
      (pss_cons (ps_set (i := 9) sc__law_questions.nd rfl (.inl rfl) (pe_op op_addA (pe_ix ix_seq (pe_ix ix_seq (pv 1) (pv 5) (fun _ _ => rfl)) pe_int (fun _ _ => rfl)) (pe_op op_mulA (pe_ix ix_seq (pe_ix ix_seq (pv 1) (pe_op op_addA (pv 5) pe_int) (fun _ _ => rfl)) pe_int (fun _ _ => rfl)) (pv 7))))
      (pss_one (ps_expr (pe_bm PySem.F.plainAttrs_list PySem.F.slot_list_append PySem.F.type_list_append mt_append (pv 4) (pa_cons (pe_tup (pa_cons (pe_op op_addA (pe_op op_mulA pe_int (pv 5)) pe_int) (pa_cons (pe_op op_mulA (pv 8) (pv 6)) (pa_cons (pe_op op_mulA (pv 9) (pv 6)) pa_nil)))) pa_nil)))))))))))))))
      (pss_one (ps_ret (pv 4)))))))), ?_⟩)
  refine go_fn (L := ["box", "ends", "shape", "weights", "rows", "k", "factor", "weight", "n", "d"]) h (fun b i hp hX => ?_)
  dsimp only [cxOf, L2.Cx.nox, L2.Cx.wish]
  
  obtain ⟨x, E, sh⟩ := i
  obtain ⟨h0, hE, hlen⟩ := hp
  have hl : (frL E).length = E.length := frL_len
  refine go_sAsg (ev_lst ?_)
  repeat walk_at "bx"
  
  refine go_mid (fun s => ∃ (ws : List Int), ws.length ≤ 6 ∧ 1 ≤ ws.length ∧ (∀ w, w ∈ ws → 1 ≤ w ∧ w ≤ 10 ^ 30) ∧ s = ⟨[some (.o 0), some (.d (.list (frL E))), some (.d (.int sh)), some (.d (.list (inL ws))), none, none, none, none, none, none], [.dK x.kvs]⟩) ?_ ?_
  · repeat walk_at "bx"
  
    refine ⟨fun z => ?_, fun z => ?_⟩
    · refine go_asg (ev_lst ?_)
      repeat walk_at "bx"
  
      exact ⟨[1, 2, 3, 4], by decide, by decide, by decide, rfl⟩
    · repeat walk_at "bx"
  
      exact ⟨[1, 2, 3, 1000, 10 ^ (9 : Int).toNat, 10 ^ (30 : Int).toNat], by decide, by decide, by decide, rfl⟩
  rintro s2 ⟨ws, hw1, hw2, hws, rfl⟩
  refine go_sAsg (ev_lstO (ea_nil ⟨[], rfl, rfl, gt_name ?_⟩))
  repeat walk_at "bx"
  
  rw [hl]
  refine ⟨by omega, fun i s => ∃ (qs : List Qu) (y : Bx) (x5 x6 x7 x8 x9 : Option Dw.A), qs.length = 2 * i ∧ (∀ q, q ∈ qs → Loc E q.1 q.2.1 q.2.2) ∧ 0 ≤ y.index ∧ s = ⟨[some (.o 0), some (.d (.list (frL E))), some (.d (.int sh)), some (.d (.list (inL ws))), some (.o 1), x5, x6, x7, x8, x9], [.dK y.kvs, .lst (quL qs)]⟩, ⟨[], x, none, none, none, none, none, rfl, (fun q h => nomatch h), h0, rfl⟩, ?_, ?_⟩
  · rintro i s2 hi ⟨qs, y, x5, x6, x7, x8, x9, hq, hL, hy, rfl⟩
    obtain ⟨f, hf⟩ : ∃ x, E[i]? = some x := ⟨_, List.getElem?_eq_getElem hi⟩
    have ef := frL_get hf
    have ff := hE.fok hf
    obtain ⟨sf1, sf2⟩ := ff.sm
    have app : ∀ (ss : List (Option Dw.A)) (z : Bx) (rs : List Qu) (q : Qu) (v : PyData) (Φ : Dw.A → S → Prop), rs.length ≤ 2 * i + 1 → v = quD q → Φ (.d .none) ⟨ss, [.dK z.kvs, .lst (quL (rs ++ [q]))]⟩ → VM K b rAppend (.o 1) [.d v] ⟨ss, [.dK z.kvs, .lst (quL rs)]⟩ Φ := fun ss z rs q v Φ hl e k => by
      subst e
      refine vm_append (ds := quL rs) rfl (Nat.lt_of_le_of_lt (show _ ≤ 1000 by rw [quL_len]; omega) (by decide)) ?_
      rw [quL_snoc]
      exact k
    have add : ∀ (rs : List Qu) (q : Qu), (∀ q, q ∈ rs → Loc E q.1 q.2.1 q.2.2) → Loc E q.1 q.2.1 q.2.2 → ∀ q', q' ∈ rs ++ [q] → Loc E q'.1 q'.2.1 q'.2.2 := fun rs q h1 h2 q' hq' => by
      rcases List.mem_append.mp hq' with h | h
      · exact h1 q' h
      · rw [List.mem_singleton.mp h]; exact h2
    refine gt_name ?_
    refine go_sAsg (ev_int (gt_name ?_))
    refine go_mid (fun s => ∃ (u : Int) (y : Bx), 1 ≤ u ∧ u ≤ 9 ∧ 0 ≤ y.index ∧ s = ⟨[some (.o 0), some (.d (.list (frL E))), some (.d (.int sh)), some (.d (.list (inL ws))), some (.o 1), some (.d (.int i)), some (.d (.int u)), x7, x8, x9], [.dK y.kvs, .lst (quL qs)]⟩) ?_ ?_
    · repeat walk_at "bx"
  
      refine ⟨fun z => ?_, fun z => ?_⟩
      · repeat walk_at "bx"
  
        (refine ev_take ?_; repeat walk_at "bx")
        refine ⟨y, _, _, _, rfl, rfl, hy, by first | decide | omega, fun a1 y1 hy1 ha0 ha1 => ?_⟩
        repeat walk_at "bx"
  
        exact ⟨1 + a1, y1, by omega, by omega, hy1, rfl⟩
      · repeat walk_at "bx"
  
        exact ⟨1, y, by decide, by decide, hy, rfl⟩
    rintro s3 ⟨u, y, u1, u2, hy, rfl⟩
    repeat walk_at "bx"
  
    refine ev_bmL (ev_var rfl ⟨⟨_, _, rfl, rfl⟩, ?_⟩)
    repeat walk_at "bx"
  
    refine app _ _ qs (2 * i, f.1 * u, f.2 * u) _ _ (by omega) rfl ?_
    have hL1 := add qs (2 * i, f.1 * u, f.2 * u) hL (loc_ev hE hf u1 u2)
    have hq1 : (qs ++ [(2 * i, f.1 * u, f.2 * u)]).length = 2 * i + 1 := by simp; omega
    generalize qs ++ [(2 * i, f.1 * u, f.2 * u)] = qs1 at *
    repeat walk_at "bx"
  
    (refine ev_take ?_; repeat walk_at "bx")
    refine ⟨y, ws.length, _, _, by rw [show (inL ws).length = ws.length from List.length_map ..], rfl, hy, by omega, fun m y2 hy2 m0 m1 => ?_⟩
    obtain ⟨k, rfl⟩ : ∃ k : Nat, m = k := ⟨m.toNat, by omega⟩
    obtain ⟨w, hw⟩ : ∃ x, ws[k]? = some x := ⟨_, List.getElem?_eq_getElem (by omega)⟩
    obtain ⟨w1, w2⟩ := hws w (List.mem_of_getElem? hw)
    have ew : atI (inL ws) (k : Int) = some (.int w) := atI_n (by rw [inL, List.getElem?_map, hw]; rfl)
    have sw : Sm w := sm_b (by omega) (by omega)
    refine v2_ixL ew ?_
    repeat walk_at "bx"
  
    rw [hl]
    refine ⟨fun z => ?_, fun z => ?_⟩
    · have e : i + 1 = E.length := by have := of_decide_eq_true z; omega
      repeat walk_at "bx"
  
      refine ev_bmL (ev_var rfl ⟨⟨_, _, rfl, rfl⟩, ?_⟩)
      repeat walk_at "bx"
  
      refine app _ _ qs1 (2 * i + 1, (f.1 * w + 1) * u, f.2 * w * u) _ _ (by omega) rfl ?_
      exact ⟨_, y2, _, _, _, _, _, by simp; omega, add _ _ hL1 (loc_last hE hf e w1 w2 u1 u2), hy2, rfl⟩
    · have e : i + 1 < E.length := by have := of_decide_eq_false z; omega
      obtain ⟨g, hg⟩ : ∃ x, E[i + 1]? = some x := ⟨_, List.getElem?_eq_getElem e⟩
      have eg : atI (frL E) ((i : Int) + 1) = some (frD g) := frL_get (i := i + 1) hg
      have fg := hE.fok hg
      obtain ⟨sg1, sg2⟩ := fg.sm
      repeat walk_at "bx"
  
      (refine ev_take ?_; repeat walk_at "bx")
      refine ⟨y2, _, _, _, rfl, rfl, hy2, by first | decide | omega, fun a3 y3 hy3 hd0 hd1 => ?_⟩
      repeat walk_at "bx"
  
      refine ⟨fun z => ?_, fun z => ?_⟩
      · repeat walk_at "bx"
  
        refine ev_bmL (ev_var rfl ⟨⟨_, _, rfl, rfl⟩, ?_⟩)
        repeat walk_at "bx"
  
        refine app _ _ qs1 (2 * i + 1, (f.1 * w + g.1) * u, (f.2 * w + g.2) * u) _ _ (by omega) rfl ?_
        have lm := loc_med hE hf hg w1 w2 (show (1 : Int) ≤ 1 by decide) (by decide) u1 u2
        rw [Int.mul_one, Int.mul_one] at lm
        exact ⟨_, y3, _, _, _, _, _, by simp; omega, add _ _ hL1 lm, hy3, rfl⟩
      · repeat walk_at "bx"
  
        refine ev_bmL (ev_var rfl ⟨⟨_, _, rfl, rfl⟩, ?_⟩)
        repeat walk_at "bx"
  
        refine app _ _ qs1 (2 * i + 1, (f.1 + g.1 * w) * u, (f.2 + g.2 * w) * u) _ _ (by omega) rfl ?_
        have lm := loc_med hE hf hg (show (1 : Int) ≤ 1 by decide) (by decide) w1 w2 u1 u2
        rw [Int.mul_one, Int.mul_one] at lm
        exact ⟨_, y3, _, _, _, _, _, by simp; omega, add _ _ hL1 lm, hy3, rfl⟩
  · rintro s2 ⟨qs, y, x5, x6, x7, x8, x9, hq, hL, hy, rfl⟩
    refine go_ret (ev_frz (xs := quL qs) rfl rfl (rt_val ?_))
    exact ⟨qs, y, rfl, rfl, hy, hq, hL⟩
end
section
variable {K : PySem.W.Frag} {b : B} {s : S} {t : TA} {Φ : Dw.A → S → Prop} {E : List Fr} {l m : List PQ} {bs : List Bool}
theorem ev_form (hb : bs.length = 2 * E.length) (hl : E.length ≤ 100) (h : EA K b t s fun as s1 => as = [.d (.list (frL E)), .d (.list (bL bs))] ∧ Φ (.d (.list (lsD E (formP bs)))) s1) : EV K b (tCall (SpB K sp__law_form) [] E0 t) s Φ := by
  refine ev_callV fun σ H tv tl Hd ps R Q k => h σ H tv tl Hd ps R Q fun vs H1 as s1 Hd1 ps1 h1 R1 a1 => k vs H1 as s1 Hd1 ps1 ?_ R1 a1
  obtain ⟨rfl, q⟩ := h1
  exact ⟨(E, bs), _, rfl, rfl, rfl, ⟨hb, hl⟩, fun _ _ h => h, fun _ _ h => h, q⟩
theorem ev_meetD (hE : Ends E) (hl : E.length ≤ 100) (fl : Fit E l) (fm : Fit E m) (h : EA K b t s fun as s1 => as = [.d (.list (lsD E l)), .d (.list (lsD E m))] ∧ Φ (.o s1.os.length) (s1.add (.lst (lsD E (meetP l m))))) : EV K b (tCall (SpB K sp_meet_stretches) [] E0 t) s Φ := by
  have := fl.len
  have := fm.len
  refine ev_callA (o := false) (n := 0) (m := 1) (xs := lsD E l) (ys := lsD E m) (f := sp_meet_stretches) (i := (false, E, l, m)) rfl rfl ⟨hE, fl.ok, fm.ok, by omega⟩ (fun _ _ h => h) (fun r os' h => h.2) (by decide) fun σ H tv tl Hd ps R Q k => h σ H tv tl Hd ps R Q fun vs H1 as s1 Hd1 ps1 h1 R1 a1 => k vs H1 as s1 Hd1 ps1 ?_ R1 a1
  obtain ⟨rfl, q⟩ := h1
  exact ⟨rfl, (fun z => nomatch z), fun r os' h => by rw [h.1]; exact q⟩
theorem ev_meetO {n k : Nat} (hnk : n ≠ k) (hE : Ends E) (hl : E.length ≤ 100) (fl : Fit E l) (fm : Fit E m) (h : EA K b t s fun as s1 => as = [.o n, .o k] ∧ s1.os[n]? = some (.lst (lsD E l)) ∧ s1.os[k]? = some (.lst (lsD E m)) ∧ Φ (.o s1.os.length) (s1.add (.lst (lsD E (meetP l m))))) : EV K b (tCall (SpB K sp_meet_stretches) [] E0 t) s Φ := by
  have := fl.len
  have := fm.len
  refine ev_callA (o := true) (n := n) (m := k) (xs := lsD E l) (ys := lsD E m) (f := sp_meet_stretches) (i := (true, E, l, m)) rfl rfl ⟨hE, fl.ok, fm.ok, by omega⟩ (fun _ _ h => h) (fun r os' h => h.2) hnk fun σ H tv tl Hd ps R Q k => h σ H tv tl Hd ps R Q fun vs H1 as s1 Hd1 ps1 h1 R1 a1 => k vs H1 as s1 Hd1 ps1 ?_ R1 a1
  obtain ⟨rfl, o1, o2, q⟩ := h1
  exact ⟨rfl, fun _ => ⟨o1, o2⟩, fun r os' h => by rw [h.1]; exact q⟩
theorem ev_joinD (hE : Ends E) (hl : E.length ≤ 100) (fl : Fit E l) (fm : Fit E m) (h : EA K b t s fun as s1 => as = [.d (.list (lsD E l)), .d (.list (lsD E m))] ∧ Φ (.o s1.os.length) (s1.add (.lst (lsD E (joinP l m))))) : EV K b (tCall (SpB K sp_join_stretches) [] E0 t) s Φ := by
  have := fl.len
  have := fm.len
  refine ev_callA (o := false) (n := 0) (m := 1) (xs := lsD E l) (ys := lsD E m) (f := sp_join_stretches) (i := (false, E, l, m)) rfl rfl ⟨hE, fl.ok, fm.ok, by omega⟩ (fun _ _ h => h) (fun r os' h => h.2) (by decide) fun σ H tv tl Hd ps R Q k => h σ H tv tl Hd ps R Q fun vs H1 as s1 Hd1 ps1 h1 R1 a1 => k vs H1 as s1 Hd1 ps1 ?_ R1 a1
  obtain ⟨rfl, q⟩ := h1
  exact ⟨rfl, (fun z => nomatch z), fun r os' h => by rw [h.1]; exact q⟩
theorem ev_joinO {n k : Nat} (hnk : n ≠ k) (hE : Ends E) (hl : E.length ≤ 100) (fl : Fit E l) (fm : Fit E m) (h : EA K b t s fun as s1 => as = [.o n, .o k] ∧ s1.os[n]? = some (.lst (lsD E l)) ∧ s1.os[k]? = some (.lst (lsD E m)) ∧ Φ (.o s1.os.length) (s1.add (.lst (lsD E (joinP l m))))) : EV K b (tCall (SpB K sp_join_stretches) [] E0 t) s Φ := by
  have := fl.len
  have := fm.len
  refine ev_callA (o := true) (n := n) (m := k) (xs := lsD E l) (ys := lsD E m) (f := sp_join_stretches) (i := (true, E, l, m)) rfl rfl ⟨hE, fl.ok, fm.ok, by omega⟩ (fun _ _ h => h) (fun r os' h => h.2) hnk fun σ H tv tl Hd ps R Q k => h σ H tv tl Hd ps R Q fun vs H1 as s1 Hd1 ps1 h1 R1 a1 => k vs H1 as s1 Hd1 ps1 ?_ R1 a1
  obtain ⟨rfl, o1, o2, q⟩ := h1
  exact ⟨rfl, fun _ => ⟨o1, o2⟩, fun r os' h => by rw [h.1]; exact q⟩
theorem ev_otherD (hE : Ends E) (hl : E.length ≤ 100) (hb : bs.length = 2 * E.length) (h : EA K b t s fun as s1 => as = [.d (.list (lsD E (formP bs)))] ∧ Φ (.o s1.os.length) (s1.add (.lst (lsD E (formP (bs.map (!·))))))) : EV K b (tCall (SpB K sp_other_stretches) [] E0 t) s Φ := by
  have fl := fit_form (E := E) hb
  have := fl.len
  refine ev_callA1 (o := false) (n := 0) (xs := lsD E (formP bs)) (f := sp_other_stretches) (i := (false, E, formP bs)) rfl rfl ⟨hE, fl.ok, fl.can, by omega⟩ (fun _ _ h => h) (fun r os' h => h.2) fun σ H tv tl Hd ps R Q k => h σ H tv tl Hd ps R Q fun vs H1 as s1 Hd1 ps1 h1 R1 a1 => k vs H1 as s1 Hd1 ps1 ?_ R1 a1
  obtain ⟨rfl, q⟩ := h1
  refine ⟨rfl, (fun z => nomatch z), fun r os' h => ?_⟩
  rw [h.1, ← hb, other_form]
  exact q
theorem ev_otherO {n : Nat} (hE : Ends E) (hl : E.length ≤ 100) (hb : bs.length = 2 * E.length) (h : EA K b t s fun as s1 => as = [.o n] ∧ s1.os[n]? = some (.lst (lsD E (formP bs))) ∧ Φ (.o s1.os.length) (s1.add (.lst (lsD E (formP (bs.map (!·))))))) : EV K b (tCall (SpB K sp_other_stretches) [] E0 t) s Φ := by
  have fl := fit_form (E := E) hb
  have := fl.len
  refine ev_callA1 (o := true) (n := n) (xs := lsD E (formP bs)) (f := sp_other_stretches) (i := (true, E, formP bs)) rfl rfl ⟨hE, fl.ok, fl.can, by omega⟩ (fun _ _ h => h) (fun r os' h => h.2) fun σ H tv tl Hd ps R Q k => h σ H tv tl Hd ps R Q fun vs H1 as s1 Hd1 ps1 h1 R1 a1 => k vs H1 as s1 Hd1 ps1 ?_ R1 a1
  obtain ⟨rfl, o1, q⟩ := h1
  refine ⟨rfl, fun _ => o1, fun r os' h => ?_⟩
  rw [h.1, ← hb, other_form]
  exact q
/-- a list of bits, each turned over -/
theorem ev_nots {i : Nat} {os : List C} {wi : TI} {tt : TT} {te : TE} {ss : List (Option Dw.A)}
    (h : ∀ Ξ : List PyData → (List C → Prop) → S → Prop, Ξ (bL bs) (fun _ => True) ⟨ss, os⟩ → EI K b wi ⟨ss, os⟩ Ξ)
    (hv : ∀ (x : Bool) (js : List PyData) (Ψ : Bool → S → Prop), Ψ true ⟨(S.wp ⟨ss, os⟩ [i]).ss.set i (some (.d (.bool x))), os ++ [.lst js]⟩ → ET K b tt ⟨(S.wp ⟨ss, os⟩ [i]).ss.set i (some (.d (.bool x))), os ++ [.lst js]⟩ Ψ)
    (he : ∀ (x : Bool) (js : List PyData) (Ψ : Dw.A → S → Prop), Ψ (.d (.bool (!x))) ⟨(S.wp ⟨ss, os⟩ [i]).ss.set i (some (.d (.bool x))), os ++ [.lst js]⟩ → EV K b te ⟨(S.wp ⟨ss, os⟩ [i]).ss.set i (some (.d (.bool x))), os ++ [.lst js]⟩ Ψ)
    (hl : bs.length ≤ 1000)
    (q : Φ (.d (.list (bL (bs.map (!·))))) (S.frz ⟨(S.wp ⟨ss, os⟩ [i]).ss, os ++ [.lst (bL (bs.map (!·)))]⟩ os.length (bL (bs.map (!·))))) : EV K b (tLc wi (gName i) tt te [i]) ⟨ss, os⟩ Φ := by
  have ww : ∀ (l : List (Option Dw.A)) (z : Option Dw.A), ((l.set i none).set i z).set i none = l.set i none := fun l z => by rw [List.set_set, List.set_set]
  refine ev_dat (ev_lc (tg_name (.head _)) mg_name (h _ ?_))
  refine ⟨fun k js s => js = bL ((bs.take k).map (!·)) ∧ s = ⟨(S.wp ⟨ss, os⟩ [i]).ss, os ++ [.lst js]⟩, ⟨rfl, rfl⟩, ?_, ?_, ?_⟩
  · rintro k js s3 _ ⟨_, rfl⟩
    exact ⟨trivial, List.getElem?_concat_length⟩
  · rintro k x js s3 hx ⟨rfl, rfl⟩
    obtain ⟨y, hy⟩ : ∃ y, bs[k]? = some y := by
      cases e : bs[k]? with
      | some y => exact ⟨y, rfl⟩
      | none => rw [bL, List.getElem?_map, e] at hx; cases hx
    have e : x = .bool y := by
      rw [bL, List.getElem?_map, hy] at hx
      exact (Option.some.inj hx).symm
    subst e
    have hk : k < bs.length := (List.getElem?_eq_some_iff.mp hy).1
    refine gt_name ?_
    have e1 : (S.wp ⟨(S.wp ⟨ss, os⟩ [i]).ss, os ++ [.lst (bL ((bs.take k).map (!·)))]⟩ [i]).set i (.d (.bool y)) = ⟨(S.wp ⟨ss, os⟩ [i]).ss.set i (some (.d (.bool y))), os ++ [.lst (bL ((bs.take k).map (!·)))]⟩ := by
      show S.mk (((ss.set i none).set i none).set i _) _ = S.mk ((ss.set i none).set i _) _
      rw [List.set_set, List.set_set]
      rfl
    rw [e1]
    refine hv y _ _ ⟨fun _ => ?_, fun h => (nomatch h)⟩
    refine he y _ _ ⟨_, rfl, List.getElem?_concat_length, Nat.lt_of_le_of_lt (show _ ≤ 1000 by simp [bL, List.length_take]; omega) (by decide), ?_, ?_⟩
    · rw [bL_snoc, List.take_add_one, hy]
      simp
    · show S.wp ((S.mk _ (os ++ [C.lst _])).put os.length _) [i] = _
      rw [put_last]
      show S.mk ((((ss.set i none).set i _)).set i none) _ = S.mk (ss.set i none) _
      rw [ww]
  · rintro js s3 ⟨rfl, rfl⟩
    rw [bL_len, List.take_of_length_le (Nat.le_refl _)]
    exact ⟨_, _, rfl, List.getElem?_concat_length, q⟩
end
def sp__law_others : Spc where
  I := List Fr × List Bool
  args := fun (E, bs) => [.d (.list (frL E)), .d (.list (bL bs))]
  cells := fun _ => []
  pre := fun (E, bs) => Ends E ∧ E.length ≤ 100 ∧ bs.length = 2 * E.length
  post := fun _ r _ => r = .val (.bool true)
section
variable {P : Program} {w : World} {K : PySem.W.Frag} {mg : Str → Option Value} {base : Heap}
theorem ok__law_others (T : Tx K mg) : FnOk P w K mg base CX0 4 T.a__law_others T.d__law_others ["ends", "bits"] (SpB K sp__law_others) := by
  refine T.F__law_others.ok sc__law_others (fun vs H Q E h => spB_len h (fun _ => rfl)) (fun cdv A outer s H vs Q E hr h => ⟨_, PSs.nox ((pss_cons (ps_set (i := 2) sc__law_others.nd rfl (.inl rfl) (pe_call (ok__law_form T) (hr.mono (by decide)) (by rfl) T.g__law_form T.F__law_form.kp (b__law_form T.F__law_form) .nil pass0 (pa_cons (pv 0) (pa_cons (pv 1) pa_nil))))
      (pss_cons (ps_set (i := 3) sc__law_others.nd rfl (.inl rfl) (pe_call (ok__law_form T) (hr.mono (by decide)) (by rfl) T.g__law_form T.F__law_form.kp (b__law_form T.F__law_form) .nil pass0 (pa_cons (pv 0) (pa_cons (pe_lc (own := [("bit", 7)]) rfl sc__law_others.nd (pi_any (pv 1)) (blkOk_by (own := [("bit", 7)]) (N := ["ends", "bits", "one", "due", "handed", "got", "back", "bit"]) (sc := defScope s__law_others) (by decide +kernel)) (fun _ _ _ _ _ => (pg_name (i := 7) sc__law_others.nd rfl (.inl rfl) (.inr rfl))) (fun _ _ _ _ _ => pts_nil) (fun _ _ _ _ _ => (pe_notTK (K := K) rfl (pv 7)))) pa_nil))))
      (pss_cons (ps_set (i := 4) sc__law_others.nd rfl (.inl rfl) (pe_callTy call_list_of (by rfl) T.z_list (by decide +kernel) (pa_cons (pv 2) pa_nil)))
      (pss_cons (ps_set (i := 5) sc__law_others.nd rfl (.inl rfl) (pe_call (ok_other_stretches T) (hr.mono (by decide)) (by rfl) T.g_other_stretches T.F_other_stretches.kp (b_other_stretches T.F_other_stretches) .nil pass0 (pa_cons (pv 4) pa_nil)))
      (pss_cons (ps_if (pt_not (pt_truth (pe_call (ok__law_same T) (hr.mono (by decide)) (by rfl) T.g__law_same T.F__law_same.kp (b__law_same T.F__law_same) .nil pass0 (pa_cons (pv 5) (pa_cons (pv 3) pa_nil))) (by intro _; rfl)))
      (pss_one (ps_ret pe_bl))
      pss_nil)
      (pss_cons (ps_set (i := 6) sc__law_others.nd rfl (.inl rfl) (pe_call (ok_other_stretches T) (hr.mono (by decide)) (by rfl) T.g_other_stretches T.F_other_stretches.kp (b_other_stretches T.F_other_stretches) .nil pass0 (pa_cons (pv 5) pa_nil)))
      (pss_cons (ps_if (PW.pt (pw_or (pt_not (pt_truth (pe_call (ok__law_same T) (hr.mono (by decide)) (by rfl) T.g__law_same T.F__law_same.kp (b__law_same T.F__law_same) .nil pass0 (pa_cons (pv 6) (pa_cons (pv 2) pa_nil))) (by intro _; rfl))) (pw_or1 (pt_not (pt_truth (pe_call (ok__law_same T) (hr.mono (by decide)) (by rfl) T.g__law_same T.F__law_same.kp (b__law_same T.F__law_same) .nil pass0 (pa_cons (pv 5) (pa_cons (pv 3) pa_nil))) (by intro _; rfl))))))
      (pss_one (ps_ret pe_bl))
      pss_nil)
      (pss_cons (ps_expr (pe_bm PySem.F.plainAttrs_list PySem.F.slot_list_append PySem.F.type_list_append mt_append (pv 5) (pa_cons (pe_tup (pa_cons (pe_tup (pa_cons pe_int (pa_cons pe_int pa_nil))) (pa_cons pe_bl (pa_cons pe_non (pa_cons pe_bl pa_nil))))) pa_nil)))
      (pss_cons (ps_expr (pe_bm0 PySem.F.plainAttrs_list PySem.F.slot_list_clear PySem.F.type_list_clear mt_clear (pv 6)))
      (pss_cons (ps_if (pt_not (pt_truth (pe_call (ok__law_same T) (hr.mono (by decide)) (by rfl) T.g__law_same T.F__law_same.kp (b__law_same T.F__law_same) .nil pass0 (pa_cons (pv 4) (pa_cons (pv 2) pa_nil))) (by intro _; rfl)))
      (pss_one (ps_ret pe_bl))
      pss_nil)
      (pss_one (ps_ret (pe_and (pe_call (ok__law_same T) (hr.mono (by decide)) (by rfl) T.g__law_same T.F__law_same.kp (b__law_same T.F__law_same) .nil pass0 (pa_cons (pe_call (ok_other_stretches T) (hr.mono (by decide)) (by rfl) T.g_other_stretches T.F_other_stretches.kp (b_other_stretches T.F_other_stretches) .nil pass0 (pa_cons (pv 4) pa_nil)) (pa_cons (pv 3) pa_nil))) (pe_one (pe_call (ok__law_same T) (hr.mono (by decide)) (by rfl) T.g__law_same T.F__law_same.kp (b__law_same T.F__law_same) .nil pass0 (pa_cons (pv 4) (pa_cons (pv 2) pa_nil)))))))))))))))))), ?_⟩)
  refine go_fn (L := ["ends", "bits", "one", "due", "handed", "got", "back", "bit"]) h (fun b i hp hX => ?_)
  dsimp only [cxOf, L2.Cx.nox, L2.Cx.wish]
  
  obtain ⟨E, bs⟩ := i
  obtain ⟨hE, hl, hb⟩ := hp
  have hb2 : (bs.map (!·)).length = 2 * E.length := by rw [List.length_map]; exact hb
  have hbb := not_not_map bs
  have f1 := (fit_form (E := E) hb).len
  have f2 := (fit_form (E := E) hb2).len
  show GO K b _ ⟨[some (.d (.list (frL E))), some (.d (.list (bL bs))), none, none, none, none, none, none], []⟩ _
  repeat walk_at "dd"
  
  refine ev_form hb hl ?_
  repeat walk_at "dd"
  
  refine ev_form hb2 hl ?_
  repeat walk_at "dd"
  
  refine ev_nots (bs := bs) (i := 7) (fun Ξ h => ei_anyL (ei_list (ev_var rfl ⟨bL bs, fun _ => True, .inl rfl, trivial, h⟩))) (fun x js Ψ h => fun σ H tv tl Hd ps R Q k => k true H _ Hd ps h R) (fun x js Ψ h => ?_) (by omega) ?_
  · repeat walk_at "dd"
  
    exact h
  repeat walk_at "dd"
  
  refine vc_list (ds := lsD E (formP bs)) (.inl rfl) ?_
  repeat walk_at "dd"
  
  refine ev_otherD hE hl hb ?_
  repeat walk_at "dd"
  
  (refine ev_same E (formP (bs.map (!·))) ?_; repeat walk_at "dd"); (refine ⟨_, _, rfl, by omega, ⟨_, rfl, rfl⟩, rfl, ?_⟩)
  repeat walk_at "dd"
  
  refine ev_otherO (n := 1) hE hl hb2 ?_
  repeat walk_at "dd"
  
  refine ⟨rfl, ?_⟩
  rw [hbb]
  repeat walk_at "dd"
  
  (refine ev_same E (formP bs) ?_; repeat walk_at "dd"); (refine ⟨_, _, rfl, by omega, ⟨_, rfl, rfl⟩, rfl, ?_⟩)
  repeat walk_at "dd"
  
  (refine ev_same E (formP (bs.map (!·))) ?_; repeat walk_at "dd"); (refine ⟨_, _, rfl, by omega, ⟨_, rfl, rfl⟩, rfl, ?_⟩)
  repeat walk_at "dd"
  
  (refine ev_bmL (ev_var (a := .o 1) (by with_unfolding_all exact rfl) ⟨⟨1, lsD E (formP (bs.map (!·))), rfl, (by with_unfolding_all exact rfl)⟩, ?_⟩); repeat walk_at "dd"); (refine vm_append (n := 1) (ds := lsD E (formP (bs.map (!·)))) (by with_unfolding_all exact rfl) (Nat.lt_of_le_of_lt (show _ ≤ 1000 by rw [lsD_len]; omega) (by decide)) ?_)
  repeat walk_at "dd"
  (refine ev_bmL0 (ev_var (a := .o 2) (by with_unfolding_all exact rfl) ⟨⟨2, lsD E (formP bs), rfl, (by with_unfolding_all exact rfl)⟩, ?_⟩)); (refine vm_clear (n := 2) (ds := lsD E (formP bs)) (by with_unfolding_all exact rfl) ?_)
  show GO K b _ ⟨[some (.d (.list (frL E))), some (.d (.list (bL bs))), some (.d (.list (lsD E (formP bs)))), some (.d (.list (lsD E (formP (bs.map (!·)))))), some (.d (.list (lsD E (formP bs)))), some (.o 1), some (.o 2), none], [.dead, .lst (lsD E (formP (bs.map (!·))) ++ [PyData.tuple [.tuple [.int 0, .int 1], .bool true, .none, .bool false]]), .lst []]⟩ _
  repeat walk_at "dd"
  
  (refine ev_same E (formP bs) ?_; repeat walk_at "dd"); (refine ⟨_, _, rfl, by omega, rfl, rfl, ?_⟩)
  repeat walk_at "dd"
  
  (refine ev_same E (formP (bs.map (!·))) ?_; repeat walk_at "dd")
  refine ev_otherD hE hl hb ?_
  repeat walk_at "dd"
  
  (refine ⟨_, _, rfl, by omega, ⟨_, rfl, rfl⟩, rfl, ?_⟩)
  repeat walk_at "dd"
  
  (refine ev_same E (formP bs) ?_; repeat walk_at "dd"); (refine ⟨_, _, rfl, by omega, rfl, rfl, ?_⟩)
  repeat walk_at "dd"
  
  rfl
end
def sp__law_pairs : Spc where
  I := List Fr × List PQ × List PQ
  args := fun (E, l, m) => [.d (.list (lsD E l)), .d (.list (lsD E m)), .d (.list (lsD E (meetP l m))), .d (.list (lsD E (joinP l m)))]
  cells := fun _ => []
  pre := fun (E, l, m) => Ends E ∧ E.length ≤ 100 ∧ Fit E l ∧ Fit E m
  post := fun _ r _ => r = .val (.bool true)
section
variable {P : Program} {w : World} {K : PySem.W.Frag} {mg : Str → Option Value} {base : Heap}
theorem ok__law_pairs (T : Tx K mg) : FnOk P w K mg base CX0 4 T.a__law_pairs T.d__law_pairs ["first", "second", "due_meet", "due_join"] (SpB K sp__law_pairs) := by
  refine T.F__law_pairs.ok sc__law_pairs (fun vs H Q E h => spB_len h (fun _ => rfl)) (fun cdv A outer s H vs Q E hr h => ⟨_, PSs.nox ((pss_cons (ps_set (i := 4) sc__law_pairs.nd rfl (.inl rfl) (pe_callTy call_list_of (by rfl) T.z_list (by decide +kernel) (pa_cons (pv 0) pa_nil)))
      (pss_cons (ps_set (i := 5) sc__law_pairs.nd rfl (.inl rfl) (pe_callTy call_list_of (by rfl) T.z_list (by decide +kernel) (pa_cons (pv 1) pa_nil)))
      (pss_cons (ps_set (i := 6) sc__law_pairs.nd rfl (.inl rfl) (pe_call (ok_meet_stretches T) (hr.mono (by decide)) (by rfl) T.g_meet_stretches T.F_meet_stretches.kp (b_meet_stretches T.F_meet_stretches) .nil pass0 (pa_cons (pv 4) (pa_cons (pv 5) pa_nil))))
      (pss_cons (ps_set (i := 7) sc__law_pairs.nd rfl (.inl rfl) (pe_call (ok_join_stretches T) (hr.mono (by decide)) (by rfl) T.g_join_stretches T.F_join_stretches.kp (b_join_stretches T.F_join_stretches) .nil pass0 (pa_cons (pv 4) (pa_cons (pv 5) pa_nil))))
      (pss_cons (ps_if (PW.pt (pw_or (pt_not (pt_truth (pe_call (ok__law_same T) (hr.mono (by decide)) (by rfl) T.g__law_same T.F__law_same.kp (b__law_same T.F__law_same) .nil pass0 (pa_cons (pv 6) (pa_cons (pv 2) pa_nil))) (by intro _; rfl))) (pw_or1 (pt_not (pt_truth (pe_call (ok__law_same T) (hr.mono (by decide)) (by rfl) T.g__law_same T.F__law_same.kp (b__law_same T.F__law_same) .nil pass0 (pa_cons (pv 7) (pa_cons (pv 3) pa_nil))) (by intro _; rfl))))))
      (pss_one (ps_ret pe_bl))
      pss_nil)
      (pss_cons (ps_if (pt_not (pt_truth (pe_call (ok__law_same T) (hr.mono (by decide)) (by rfl) T.g__law_same T.F__law_same.kp (b__law_same T.F__law_same) .nil pass0 (pa_cons (pe_call (ok_meet_stretches T) (hr.mono (by decide)) (by rfl) T.g_meet_stretches T.F_meet_stretches.kp (b_meet_stretches T.F_meet_stretches) .nil pass0 (pa_cons (pv 7) (pa_cons (pv 6) pa_nil))) (pa_cons (pv 2) pa_nil))) (by intro _; rfl)))
      (pss_one (ps_ret pe_bl))
      pss_nil)
      (pss_cons (ps_if (PW.pt (pw_or (pt_not (pt_truth (pe_call (ok__law_same T) (hr.mono (by decide)) (by rfl) T.g__law_same T.F__law_same.kp (b__law_same T.F__law_same) .nil pass0 (pa_cons (pe_call (ok_join_stretches T) (hr.mono (by decide)) (by rfl) T.g_join_stretches T.F_join_stretches.kp (b_join_stretches T.F_join_stretches) .nil pass0 (pa_cons (pv 6) (pa_cons (pv 7) pa_nil))) (pa_cons (pv 3) pa_nil))) (by intro _; rfl))) (pw_or1 (pt_not (pt_truth (pe_call (ok__law_same T) (hr.mono (by decide)) (by rfl) T.g__law_same T.F__law_same.kp (b__law_same T.F__law_same) .nil pass0 (pa_cons (pv 7) (pa_cons (pv 3) pa_nil))) (by intro _; rfl))))))
      (pss_one (ps_ret pe_bl))
      pss_nil)
      (pss_cons (ps_expr (pe_bm PySem.F.plainAttrs_list PySem.F.slot_list_append PySem.F.type_list_append mt_append (pv 6) (pa_cons (pe_tup (pa_cons (pe_tup (pa_cons pe_int (pa_cons pe_int pa_nil))) (pa_cons pe_bl (pa_cons pe_non (pa_cons pe_bl pa_nil))))) pa_nil)))
      (pss_cons (ps_expr (pe_bm0 PySem.F.plainAttrs_list PySem.F.slot_list_clear PySem.F.type_list_clear mt_clear (pv 7)))
      (pss_cons (ps_if (PW.pt (pw_or (pt_not (pt_truth (pe_call (ok__law_same T) (hr.mono (by decide)) (by rfl) T.g__law_same T.F__law_same.kp (b__law_same T.F__law_same) .nil pass0 (pa_cons (pv 4) (pa_cons (pv 0) pa_nil))) (by intro _; rfl))) (pw_or1 (pt_not (pt_truth (pe_call (ok__law_same T) (hr.mono (by decide)) (by rfl) T.g__law_same T.F__law_same.kp (b__law_same T.F__law_same) .nil pass0 (pa_cons (pv 5) (pa_cons (pv 1) pa_nil))) (by intro _; rfl))))))
      (pss_one (ps_ret pe_bl))
      pss_nil)
      (pss_cons (ps_if (pt_not (pt_truth (pe_call (ok__law_same T) (hr.mono (by decide)) (by rfl) T.g__law_same T.F__law_same.kp (b__law_same T.F__law_same) .nil pass0 (pa_cons (pe_call (ok_meet_stretches T) (hr.mono (by decide)) (by rfl) T.g_meet_stretches T.F_meet_stretches.kp (b_meet_stretches T.F_meet_stretches) .nil pass0 (pa_cons (pv 4) (pa_cons (pv 5) pa_nil))) (pa_cons (pv 2) pa_nil))) (by intro _; rfl)))
      (pss_one (ps_ret pe_bl))
      pss_nil)
      (pss_cons (ps_if (pt_not (pt_truth (pe_call (ok__law_same T) (hr.mono (by decide)) (by rfl) T.g__law_same T.F__law_same.kp (b__law_same T.F__law_same) .nil pass0 (pa_cons (pe_call (ok_join_stretches T) (hr.mono (by decide)) (by rfl) T.g_join_stretches T.F_join_stretches.kp (b_join_stretches T.F_join_stretches) .nil pass0 (pa_cons (pv 4) (pa_cons (pv 5) pa_nil))) (pa_cons (pv 3) pa_nil))) (by intro _; rfl)))
      (pss_one (ps_ret pe_bl))
      pss_nil)
      (pss_one (ps_ret (pe_and (pe_call (ok__law_same T) (hr.mono (by decide)) (by rfl) T.g__law_same T.F__law_same.kp (b__law_same T.F__law_same) .nil pass0 (pa_cons (pv 4) (pa_cons (pv 0) pa_nil))) (pe_one (pe_call (ok__law_same T) (hr.mono (by decide)) (by rfl) T.g__law_same T.F__law_same.kp (b__law_same T.F__law_same) .nil pass0 (pa_cons (pv 5) (pa_cons (pv 1) pa_nil)))))))))))))))))))), ?_⟩)
  refine go_fn (L := ["first", "second", "due_meet", "due_join", "one", "two", "common", "either"]) h (fun b i hp hX => ?_)
  dsimp only [cxOf, L2.Cx.nox, L2.Cx.wish]
  
  obtain ⟨E, l, m⟩ := i
  obtain ⟨hE, hl, fl, fm⟩ := hp
  have fme := fl.meet fm
  have fjo := fl.join fm
  have n1 := fl.len
  have n2 := fm.len
  have n3 := fme.len
  have n4 := fjo.len
  have a1 := meet_abs fl fm
  have a2 := join_abs fl fm
  show GO K b _ ⟨[some (.d (.list (lsD E l))), some (.d (.list (lsD E m))), some (.d (.list (lsD E (meetP l m)))), some (.d (.list (lsD E (joinP l m)))), none, none, none, none], []⟩ _
  generalize hme : meetP l m = me at *
  generalize hjo : joinP l m = jo at *
  repeat walk_at "dd"
  
  refine vc_list (ds := lsD E l) (.inl rfl) ?_
  repeat walk_at "dd"
  
  refine vc_list (ds := lsD E m) (.inl rfl) ?_
  repeat walk_at "dd"
  
  refine ev_meetD hE hl fl fm ?_
  repeat walk_at "dd"
  
  rw [hme]
  refine ev_joinD hE hl fl fm ?_
  repeat walk_at "dd"
  
  rw [hjo]
  (refine ev_same E me ?_; repeat walk_at "dd"); (refine ⟨_, _, rfl, by omega, ⟨_, rfl, rfl⟩, rfl, ?_⟩)
  repeat walk_at "dd"
  
  (refine ev_same E jo ?_; repeat walk_at "dd"); (refine ⟨_, _, rfl, by omega, ⟨_, rfl, rfl⟩, rfl, ?_⟩)
  repeat walk_at "dd"
  
  (refine ev_same E me ?_; repeat walk_at "dd")
  refine ev_meetO (n := 1) (k := 0) (by decide) hE hl fjo fme ?_
  repeat walk_at "dd"
  
  refine ⟨rfl, rfl, ?_⟩
  rw [a1]
  repeat walk_at "dd"
  
  (refine ⟨_, _, rfl, by omega, ⟨_, rfl, rfl⟩, rfl, ?_⟩)
  repeat walk_at "dd"
  
  (refine ev_same E jo ?_; repeat walk_at "dd")
  refine ev_joinO (n := 0) (k := 1) (by decide) hE hl fme fjo ?_
  repeat walk_at "dd"
  
  refine ⟨rfl, rfl, ?_⟩
  rw [a2]
  repeat walk_at "dd"
  
  (refine ⟨_, _, rfl, by omega, ⟨_, rfl, rfl⟩, rfl, ?_⟩)
  repeat walk_at "dd"
  
  (refine ev_same E jo ?_; repeat walk_at "dd"); (refine ⟨_, _, rfl, by omega, ⟨_, rfl, rfl⟩, rfl, ?_⟩)
  repeat walk_at "dd"
  
  (refine ev_bmL (ev_var (a := .o 0) (by with_unfolding_all exact rfl) ⟨⟨0, lsD E me, rfl, (by with_unfolding_all exact rfl)⟩, ?_⟩); repeat walk_at "dd"); (refine vm_append (n := 0) (ds := lsD E me) (by with_unfolding_all exact rfl) (Nat.lt_of_le_of_lt (show _ ≤ 1000 by rw [lsD_len]; omega) (by decide)) ?_)
  repeat walk_at "dd"
  
  (refine ev_bmL0 (ev_var (a := .o 1) (by with_unfolding_all exact rfl) ⟨⟨1, lsD E jo, rfl, (by with_unfolding_all exact rfl)⟩, ?_⟩)); (refine vm_clear (n := 1) (ds := lsD E jo) (by with_unfolding_all exact rfl) ?_)
  show GO K b _ ⟨[some (.d (.list (lsD E l))), some (.d (.list (lsD E m))), some (.d (.list (lsD E me))), some (.d (.list (lsD E jo))), some (.d (.list (lsD E l))), some (.d (.list (lsD E m))), some (.o 0), some (.o 1)], [.lst (lsD E me ++ [PyData.tuple [.tuple [.int 0, .int 1], .bool true, .none, .bool false]]), .lst [], .lst (lsD E me), .lst (lsD E jo)]⟩ _
  repeat walk_at "dd"
  
  (refine ev_same E l ?_; repeat walk_at "dd"); (refine ⟨_, _, rfl, by omega, rfl, rfl, ?_⟩)
  repeat walk_at "dd"
  
  (refine ev_same E m ?_; repeat walk_at "dd"); (refine ⟨_, _, rfl, by omega, rfl, rfl, ?_⟩)
  repeat walk_at "dd"
  
  (refine ev_same E me ?_; repeat walk_at "dd")
  refine ev_meetD hE hl fl fm ?_
  repeat walk_at "dd"
  
  rw [hme]
  (refine ⟨_, _, rfl, by omega, ⟨_, rfl, rfl⟩, rfl, ?_⟩)
  repeat walk_at "dd"
  
  (refine ev_same E jo ?_; repeat walk_at "dd")
  refine ev_joinD hE hl fl fm ?_
  repeat walk_at "dd"
  
  rw [hjo]
  (refine ⟨_, _, rfl, by omega, ⟨_, rfl, rfl⟩, rfl, ?_⟩)
  repeat walk_at "dd"
  
  (refine ev_same E l ?_; repeat walk_at "dd"); (refine ⟨_, _, rfl, by omega, rfl, rfl, ?_⟩)
  repeat walk_at "dd"
  
  (refine ev_same E m ?_; repeat walk_at "dd"); (refine ⟨_, _, rfl, by omega, rfl, rfl, ?_⟩)
  repeat walk_at "dd"
  
  rfl
end
def sp__law_alone : Spc where
  I := List Fr × List PQ
  args := fun (E, l) => [.d (.list (lsD E l))]
  cells := fun _ => []
  pre := fun (E, l) => Ends E ∧ E.length ≤ 100 ∧ Fit E l
  post := fun _ r _ => r = .val (.bool true)
section
variable {P : Program} {w : World} {K : PySem.W.Frag} {mg : Str → Option Value} {base : Heap}
theorem ok__law_alone (T : Tx K mg) : FnOk P w K mg base CX0 4 T.a__law_alone T.d__law_alone ["first"] (SpB K sp__law_alone) := by
  refine T.F__law_alone.ok sc__law_alone (fun vs H Q E h => spB_len h (fun _ => rfl)) (fun cdv A outer s H vs Q E hr h => ⟨_, PSs.nox ((pss_cons (ps_set (i := 1) sc__law_alone.nd rfl (.inl rfl) (pe_callTy call_list_of (by rfl) T.z_list (by decide +kernel) (pa_cons (pv 0) pa_nil)))
      (pss_cons (ps_set (i := 2) sc__law_alone.nd rfl (.inl rfl) (pe_lst (pa_cons (pe_tup (pa_cons (pe_tup (pa_cons pe_int (pa_cons pe_int pa_nil))) (pa_cons pe_bl (pa_cons pe_non (pa_cons pe_bl pa_nil))))) pa_nil)))
      (pss_cons (ps_set (i := 3) sc__law_alone.nd rfl (.inl rfl) (pe_call (ok_join_stretches T) (hr.mono (by decide)) (by rfl) T.g_join_stretches T.F_join_stretches.kp (b_join_stretches T.F_join_stretches) .nil pass0 (pa_cons (pv 1) (pa_cons (pv 1) pa_nil))))
      (pss_cons (ps_if (PW.pt (pw_or (pt_not (pt_truth (pe_call (ok__law_same T) (hr.mono (by decide)) (by rfl) T.g__law_same T.F__law_same.kp (b__law_same T.F__law_same) .nil pass0 (pa_cons (pv 3) (pa_cons (pv 0) pa_nil))) (by intro _; rfl))) (pw_or1 (pt_not (pt_truth (pe_call (ok__law_same T) (hr.mono (by decide)) (by rfl) T.g__law_same T.F__law_same.kp (b__law_same T.F__law_same) .nil pass0 (pa_cons (pe_call (ok_meet_stretches T) (hr.mono (by decide)) (by rfl) T.g_meet_stretches T.F_meet_stretches.kp (b_meet_stretches T.F_meet_stretches) .nil pass0 (pa_cons (pv 1) (pa_cons (pv 1) pa_nil))) (pa_cons (pv 0) pa_nil))) (by intro _; rfl))))))
      (pss_one (ps_ret pe_bl))
      pss_nil)
      (pss_cons (ps_expr (pe_bm0 PySem.F.plainAttrs_list PySem.F.slot_list_clear PySem.F.type_list_clear mt_clear (pv 3)))
      (pss_cons (ps_set (i := 4) sc__law_alone.nd rfl (.inl rfl) (pe_call (ok_join_stretches T) (hr.mono (by decide)) (by rfl) T.g_join_stretches T.F_join_stretches.kp (b_join_stretches T.F_join_stretches) .nil pass0 (pa_cons (pv 1) (pa_cons (pe_lst pa_nil) pa_nil))))
      (pss_cons (ps_set (i := 5) sc__law_alone.nd rfl (.inl rfl) (pe_call (ok_meet_stretches T) (hr.mono (by decide)) (by rfl) T.g_meet_stretches T.F_meet_stretches.kp (b_meet_stretches T.F_meet_stretches) .nil pass0 (pa_cons (pv 2) (pa_cons (pv 1) pa_nil))))
      (pss_cons (ps_if (PW.pt (pw_or (pt_not (pt_truth (pe_call (ok__law_same T) (hr.mono (by decide)) (by rfl) T.g__law_same T.F__law_same.kp (b__law_same T.F__law_same) .nil pass0 (pa_cons (pv 4) (pa_cons (pv 0) pa_nil))) (by intro _; rfl))) (pw_or1 (pt_not (pt_truth (pe_call (ok__law_same T) (hr.mono (by decide)) (by rfl) T.g__law_same T.F__law_same.kp (b__law_same T.F__law_same) .nil pass0 (pa_cons (pv 5) (pa_cons (pv 0) pa_nil))) (by intro _; rfl))))))
      (pss_one (ps_ret pe_bl))
      pss_nil)
      (pss_cons (ps_expr (pe_bm PySem.F.plainAttrs_list PySem.F.slot_list_append PySem.F.type_list_append mt_append (pv 4) (pa_cons (pe_tup (pa_cons (pe_tup (pa_cons pe_int (pa_cons pe_int pa_nil))) (pa_cons pe_bl (pa_cons (pe_tup (pa_cons pe_int (pa_cons pe_int pa_nil))) (pa_cons pe_bl pa_nil))))) pa_nil)))
      (pss_cons (ps_expr (pe_bm0 PySem.F.plainAttrs_list PySem.F.slot_list_clear PySem.F.type_list_clear mt_clear (pv 5)))
      (pss_cons (ps_if (PW.pt (pw_or (pt_not (pt_truth (pe_call (ok__law_same T) (hr.mono (by decide)) (by rfl) T.g__law_same T.F__law_same.kp (b__law_same T.F__law_same) .nil pass0 (pa_cons (pv 1) (pa_cons (pv 0) pa_nil))) (by intro _; rfl))) (pw_or1 (pt_not (pt_truth (pe_call (ok__law_same T) (hr.mono (by decide)) (by rfl) T.g__law_same T.F__law_same.kp (b__law_same T.F__law_same) .nil pass0 (pa_cons (pv 2) (pa_cons (pe_lst (pa_cons (pe_tup (pa_cons (pe_tup (pa_cons pe_int (pa_cons pe_int pa_nil))) (pa_cons pe_bl (pa_cons pe_non (pa_cons pe_bl pa_nil))))) pa_nil)) pa_nil))) (by intro _; rfl))))))
      (pss_one (ps_ret pe_bl))
      pss_nil)
      (pss_cons (ps_if (PW.pt (pw_or (pt_not (pt_truth (pe_call (ok__law_same T) (hr.mono (by decide)) (by rfl) T.g__law_same T.F__law_same.kp (b__law_same T.F__law_same) .nil pass0 (pa_cons (pe_call (ok_join_stretches T) (hr.mono (by decide)) (by rfl) T.g_join_stretches T.F_join_stretches.kp (b_join_stretches T.F_join_stretches) .nil pass0 (pa_cons (pe_lst pa_nil) (pa_cons (pv 1) pa_nil))) (pa_cons (pv 0) pa_nil))) (by intro _; rfl))) (pw_or1 (pt_not (pt_truth (pe_call (ok__law_same T) (hr.mono (by decide)) (by rfl) T.g__law_same T.F__law_same.kp (b__law_same T.F__law_same) .nil pass0 (pa_cons (pe_call (ok_meet_stretches T) (hr.mono (by decide)) (by rfl) T.g_meet_stretches T.F_meet_stretches.kp (b_meet_stretches T.F_meet_stretches) .nil pass0 (pa_cons (pv 1) (pa_cons (pv 2) pa_nil))) (pa_cons (pv 0) pa_nil))) (by intro _; rfl))))))
      (pss_one (ps_ret pe_bl))
      pss_nil)
      (pss_cons (ps_if (PW.pt (pw_or (pt_not (pt_truth (pe_call (ok__law_same T) (hr.mono (by decide)) (by rfl) T.g__law_same T.F__law_same.kp (b__law_same T.F__law_same) .nil pass0 (pa_cons (pe_call (ok_meet_stretches T) (hr.mono (by decide)) (by rfl) T.g_meet_stretches T.F_meet_stretches.kp (b_meet_stretches T.F_meet_stretches) .nil pass0 (pa_cons (pv 1) (pa_cons (pe_lst pa_nil) pa_nil))) (pa_cons (pe_lst pa_nil) pa_nil))) (by intro _; rfl))) (pw_or1 (pt_not (pt_truth (pe_call (ok__law_same T) (hr.mono (by decide)) (by rfl) T.g__law_same T.F__law_same.kp (b__law_same T.F__law_same) .nil pass0 (pa_cons (pe_call (ok_meet_stretches T) (hr.mono (by decide)) (by rfl) T.g_meet_stretches T.F_meet_stretches.kp (b_meet_stretches T.F_meet_stretches) .nil pass0 (pa_cons (pe_lst pa_nil) (pa_cons (pv 1) pa_nil))) (pa_cons (pe_lst pa_nil) pa_nil))) (by intro _; rfl))))))
      (pss_one (ps_ret pe_bl))
      pss_nil)
      (pss_one (ps_ret (pe_and (pe_call (ok__law_same T) (hr.mono (by decide)) (by rfl) T.g__law_same T.F__law_same.kp (b__law_same T.F__law_same) .nil pass0 (pa_cons (pe_call (ok_join_stretches T) (hr.mono (by decide)) (by rfl) T.g_join_stretches T.F_join_stretches.kp (b_join_stretches T.F_join_stretches) .nil pass0 (pa_cons (pv 2) (pa_cons (pv 1) pa_nil))) (pa_cons (pv 2) pa_nil))) (pe_one (pe_call (ok__law_same T) (hr.mono (by decide)) (by rfl) T.g__law_same T.F__law_same.kp (b__law_same T.F__law_same) .nil pass0 (pa_cons (pe_call (ok_join_stretches T) (hr.mono (by decide)) (by rfl) T.g_join_stretches T.F_join_stretches.kp (b_join_stretches T.F_join_stretches) .nil pass0 (pa_cons (pv 1) (pa_cons (pv 2) pa_nil))) (pa_cons (pv 2) pa_nil))))))))))))))))))))), ?_⟩)
  refine go_fn (L := ["first", "one", "every", "again", "joined_none", "met_every"]) h (fun b i hp hX => ?_)
  dsimp only [cxOf, L2.Cx.nox, L2.Cx.wish]
  
  obtain ⟨E, l⟩ := i
  obtain ⟨hE, hl, fl⟩ := hp
  have hN := hE.ne
  have fa := fit_all hN
  have fn := fit_nil (E := E)
  have n1 := fl.len
  have n2 : [(0, 2 * E.length)].length ≤ 1000 := by simp
  have n3 : ([] : List PQ).length ≤ 1000 := by decide
  have ev := every_eq hE
  show GO K b _ ⟨[some (.d (.list (lsD E l))), none, none, none, none, none], []⟩ _
  repeat walk_at "dd"
  
  refine vc_list (ds := lsD E l) (.inl rfl) ?_
  repeat walk_at "dd"
  (refine ev_lst ?_)
  repeat walk_at "dd"
  
  show EV K b _ ⟨[some (.d (.list (lsD E l))), some (.d (.list (lsD E l))), some (.d (.list [PyData.tuple [.tuple [.int 0, .int 1], .bool true, .none, .bool false]])), none, none, none], []⟩ _
  rw [ev]
  repeat walk_at "dd"
  
  refine ev_joinD hE hl fl fl ?_
  repeat walk_at "dd"
  
  rw [join_self fl]
  (refine ev_same E l ?_; repeat walk_at "dd"); (refine ⟨_, _, rfl, by omega, ⟨_, rfl, rfl⟩, rfl, ?_⟩)
  repeat walk_at "dd"
  (refine ev_same E l ?_; repeat walk_at "dd")
  refine ev_meetD hE hl fl fl ?_
  repeat walk_at "dd"
  
  rw [meet_self fl]
  (refine ⟨_, _, rfl, by omega, ⟨_, rfl, rfl⟩, rfl, ?_⟩)
  repeat walk_at "dd"
  (refine ev_bmL0 (ev_var (a := .o 0) (by with_unfolding_all exact rfl) ⟨⟨0, lsD E l, rfl, (by with_unfolding_all exact rfl)⟩, ?_⟩)); (refine vm_clear (n := 0) (ds := lsD E l) (by with_unfolding_all exact rfl) ?_)
  repeat walk_at "dd"
  
  refine ev_joinD hE hl fl fn ?_
  repeat walk_at "dd"
  (refine ev_lst ?_)
  repeat walk_at "dd"
  
  rw [join_nilR fl]
  refine ev_meetD hE hl fa fl ?_
  repeat walk_at "dd"
  
  rw [meet_allL hN fl]
  (refine ev_same E l ?_; repeat walk_at "dd"); (refine ⟨_, _, rfl, by omega, ⟨_, rfl, rfl⟩, rfl, ?_⟩)
  repeat walk_at "dd"
  
  (refine ev_same E l ?_; repeat walk_at "dd"); (refine ⟨_, _, rfl, by omega, ⟨_, rfl, rfl⟩, rfl, ?_⟩)
  repeat walk_at "dd"
  
  (refine ev_bmL (ev_var (a := .o 2) (by with_unfolding_all exact rfl) ⟨⟨2, lsD E l, rfl, (by with_unfolding_all exact rfl)⟩, ?_⟩); repeat walk_at "dd"); (refine vm_append (n := 2) (ds := lsD E l) (by with_unfolding_all exact rfl) (Nat.lt_of_le_of_lt (show _ ≤ 1000 by rw [lsD_len]; omega) (by decide)) ?_)
  repeat walk_at "dd"
  
  (refine ev_bmL0 (ev_var (a := .o 3) (by with_unfolding_all exact rfl) ⟨⟨3, lsD E l, rfl, (by with_unfolding_all exact rfl)⟩, ?_⟩)); (refine vm_clear (n := 3) (ds := lsD E l) (by with_unfolding_all exact rfl) ?_)
  show GO K b _ ⟨[some (.d (.list (lsD E l))), some (.d (.list (lsD E l))), some (.d (.list (lsD E [(0, 2 * E.length)]))), some (.o 0), some (.o 2), some (.o 3)], [.lst [], .lst (lsD E l), .lst (lsD E l ++ [.tuple [.tuple [.int 0, .int 1], .bool true, .tuple [.int 0, .int 1], .bool true]]), .lst []]⟩ _
  repeat walk_at "dd"
  
  (refine ev_same E l ?_; repeat walk_at "dd"); (refine ⟨_, _, rfl, by omega, rfl, rfl, ?_⟩)
  repeat walk_at "dd"
  
  (refine ev_same E [(0, 2 * E.length)] ?_; repeat walk_at "dd")
  (refine ev_lst ?_)
  repeat walk_at "dd"
  
  (refine ⟨_, _, rfl, by omega, rfl, congrArg PyData.list ev, ?_⟩)
  repeat walk_at "dd"
  
  (refine ev_same E l ?_; repeat walk_at "dd")
  refine ev_joinD hE hl fn fl ?_
  repeat walk_at "dd"
  (refine ev_lst ?_)
  repeat walk_at "dd"
  
  rw [join_nilL fl]
  (refine ⟨_, _, rfl, by omega, ⟨_, rfl, rfl⟩, rfl, ?_⟩)
  repeat walk_at "dd"
  
  (refine ev_same E l ?_; repeat walk_at "dd")
  refine ev_meetD hE hl fl fa ?_
  repeat walk_at "dd"
  
  rw [meet_allR hN fl]
  (refine ⟨_, _, rfl, by omega, ⟨_, rfl, rfl⟩, rfl, ?_⟩)
  repeat walk_at "dd"
  
  (refine ev_same E [] ?_; repeat walk_at "dd")
  refine ev_meetD hE hl fl fn ?_
  repeat walk_at "dd"
  (refine ev_lst ?_)
  repeat walk_at "dd"
  
  rw [meetP_nil2]
  (refine ev_lst ?_)
  repeat walk_at "dd"
  
  (refine ⟨_, _, rfl, by omega, ⟨_, rfl, rfl⟩, rfl, ?_⟩)
  repeat walk_at "dd"
  
  (refine ev_same E [] ?_; repeat walk_at "dd")
  refine ev_meetD hE hl fn fl ?_
  repeat walk_at "dd"
  (refine ev_lst ?_)
  repeat walk_at "dd"
  
  rw [meetP_nil1]
  (refine ev_lst ?_)
  repeat walk_at "dd"
  
  (refine ⟨_, _, rfl, by omega, ⟨_, rfl, rfl⟩, rfl, ?_⟩)
  repeat walk_at "dd"
  
  (refine ev_same E [(0, 2 * E.length)] ?_; repeat walk_at "dd")
  refine ev_joinD hE hl fa fl ?_
  repeat walk_at "dd"
  
  rw [join_allL hN fl]
  (refine ⟨_, _, rfl, by omega, ⟨_, rfl, rfl⟩, rfl, ?_⟩)
  repeat walk_at "dd"
  
  (refine ev_same E [(0, 2 * E.length)] ?_; repeat walk_at "dd")
  refine ev_joinD hE hl fl fa ?_
  repeat walk_at "dd"
  
  rw [join_allR hN fl]
  (refine ⟨_, _, rfl, by omega, ⟨_, rfl, rfl⟩, rfl, ?_⟩)
  repeat walk_at "dd"
  
  rfl
end
def hasB (l : List PQ) (c : Nat) : Bool := l.any fun x => decide (x.1 ≤ c) && decide (c < x.2)
theorem hasB_iff {l : List PQ} {c : Nat} : hasB l c = true ↔ Has l c := by
  unfold hasB Has
  rw [List.any_eq_true]
  exact ⟨fun ⟨x, hx, h⟩ => by simp at h; exact ⟨x, hx, h.1, h.2⟩, fun ⟨x, hx, h1, h2⟩ => ⟨x, hx, by simp; exact ⟨h1, h2⟩⟩⟩
theorem hasB_form {bs : List Bool} {c : Nat} {y : Bool} (h : bs[c]? = some y) : hasB (formP bs) c = y := by
  cases y with
  | true => exact hasB_iff.mpr (form_has.mpr h)
  | false =>
    cases e : hasB (formP bs) c with
    | false => rfl
    | true =>
      have := form_has.mp (hasB_iff.mp e)
      rw [h] at this
      cases this
section
variable {K : PySem.W.Frag} {b : B} {s : S} {t : TA} {Φ : Dw.A → S → Prop}
theorem ev_befG {u v : Option Cut} (h1 : ∀ c, u = some c → Sm c.1 ∧ Sm c.2.1) (h2 : ∀ c, v = some c → Sm c.1 ∧ Sm c.2.1) {r : Bool} (hr : cl u v = r) (h : EA K b t s fun as s1 => as = [.d (cuD u), .d (cuD v)] ∧ Φ (.d (.bool r)) s1) : EV K b (tCall (SpB K sp_is_before) [] E0 t) s Φ := by
  refine ev_callV fun σ H tv tl Hd ps R Q k => h σ H tv tl Hd ps R Q fun vs H1 as s1 Hd1 ps1 h1' R1 a1 => k vs H1 as s1 Hd1 ps1 ?_ R1 a1
  obtain ⟨rfl, q⟩ := h1'
  exact ⟨(u, v), _, rfl, rfl, rfl, ⟨h1, h2⟩, fun _ _ h => h, fun _ _ h => h, by rw [hr]; exact q⟩
end
def sp_in_stretches (cB : Addr) : Spc where
  I := Bool × List Fr × List PQ × Nat × Int × Int
  args := fun (_, E, l, _, n, d) => [.d (.list (lsD E l)), .d (.int n), .d (.int d)]
  cells := fun _ => []
  pre := fun (o, E, l, c, n, d) => match o with | true => n < 0 ∨ d < 1 | false => Ends E ∧ E.length ≤ 100 ∧ Fit E l ∧ Loc E c n d
  post := fun (o, _, l, c, _, _) r _ => o = false ∧ r = .val (.bool (hasB l c))
  xpost := fun (o, _) x _ => o = true ∧ x = ⟨.ref cB, none⟩
section
variable {P : Program} {w : World} {K : PySem.W.Frag} {mg : Str → Option Value} {base : Heap}
theorem ok_in_stretches (T : Tx K mg) : FnOk P w K mg base (L2.CX P w) 2 T.a_in_stretches T.d_in_stretches ["stretches", "n", "d"] (SpB K (sp_in_stretches T.c_BadValue)) := by
  refine T.F_in_stretches.ok sc_in_stretches (fun vs H Q E h => spB_len h (fun _ => rfl)) (fun cdv A outer s H vs Q E hr h => ⟨_, ((pss_cons (ps_if (PW.pt (pw_or (pt_cmpR op_ltA (pv 1) pe_int (nomark _)) (pw_or1 (pt_cmpR op_ltA (pv 2) pe_int (nomark _)))))
      (pss_one (ps_raise rfl (takes_of rfl rfl rfl rfl) (pmk_own PySem.F.excBase_ValueError T.x_BadValue T.gc_BadValue T.kc_BadValue (raises_own T.bc_BadValue T.tc_BadValue) rfl)))
      pss_nil)
      (pss_cons (ps_set (i := 3) sc_in_stretches.nd rfl (.inl rfl) (pe_tup (pa_cons (pv 1) (pa_cons (pv 2) (pa_cons pe_int pa_nil)))))
      (pss_cons (ps_set (i := 4) sc_in_stretches.nd rfl (.inl rfl) (pe_tup (pa_cons (pv 1) (pa_cons (pv 2) (pa_cons pe_int pa_nil)))))
      (pss_cons (ps_for (passes_of rfl) rfl (pi_any (pv 0)) (pg_name (i := 5) sc_in_stretches.nd rfl (.inl rfl) (.inr rfl))
      (pss_one (ps_if (PW.pt (pw_and (pt_not (pt_truth (pe_call (ok_is_before T) (hr.mono (by decide)) (by rfl) T.g_is_before T.F_is_before.kp (b_is_before T.F_is_before) .nil pass0 (pa_cons (pv 3) (pa_cons (pe_call (ok_low_cut T) (hr.mono (by decide)) (by rfl) T.g_low_cut T.F_low_cut.kp (b_low_cut T.F_low_cut) .nil pass0 (pa_cons (pv 5) pa_nil)) pa_nil))) (by intro _; rfl))) (pw_and1 (pt_not (pt_truth (pe_call (ok_is_before T) (hr.mono (by decide)) (by rfl) T.g_is_before T.F_is_before.kp (b_is_before T.F_is_before) .nil pass0 (pa_cons (pe_call (ok_high_cut T) (hr.mono (by decide)) (by rfl) T.g_high_cut T.F_high_cut.kp (b_high_cut T.F_high_cut) .nil pass0 (pa_cons (pv 5) pa_nil)) (pa_cons (pv 4) pa_nil))) (by intro _; rfl))))))
      (pss_one (ps_ret pe_bl))
      pss_nil)))
      (pss_one (ps_ret pe_bl))))))), ?_⟩)
  refine go_fn (L := ["stretches", "n", "d", "before", "behind", "stretch"]) h (fun b i hp hX => ?_)
  dsimp only [cxOf, L2.Cx.nox, L2.Cx.wish]
  
  have rz : i.1 = true → ∀ (t : TS) (s : S) (N : EE), (∀ D σ H, t D σ H = E (.ref T.c_BadValue) none H) → GO K b t s N := fun hi t s N e => go_rz fun D σ H tv ta Hd ps R => by
    rw [e]
    exact hX ⟨.ref T.c_BadValue, none⟩ none _ _ _ _ _ _ _ (by obtain ⟨o, E, l, c, n, d⟩ := i; exact ⟨hi, rfl⟩) R rfl
  obtain ⟨o, E, l, c, n, d⟩ := i
  cases o with
  | true =>
    have hp : n < 0 ∨ d < 1 := hp
    have rz := rz rfl
    repeat walk_at "dd"
  
    refine ⟨fun h => ⟨fun _ => ?_, fun z => (nomatch z)⟩, fun h => ?_⟩
    · exact rz _ _ _ fun _ _ _ => rfl
    · have h1 : d < 1 := by
        have := of_decide_eq_false h
        omega
      repeat walk_at "dd"
  
      refine ⟨fun h => ?_, fun z => absurd h1 (of_decide_eq_false z)⟩
      exact rz _ _ _ fun _ _ _ => rfl
  | false =>
    obtain ⟨hE, hl, fl, hL⟩ := hp
    have n0 := hL.n0
    have d1 := hL.d1
    repeat walk_at "dd"
  
    refine ⟨fun h => absurd (of_decide_eq_true h) (by omega), fun _ => ?_⟩
    repeat walk_at "dd"
  
    refine ⟨fun h => absurd (of_decide_eq_true h) (by omega), fun _ => ?_⟩
    repeat walk_at "dd"
  
    refine go_for (ei_anyL (ei_list (ev_var rfl ⟨lsD E l, fun _ => True, .inl rfl, trivial, ?_⟩)))
    refine ⟨fun i s => ∃ (x5 : Option Dw.A), (∀ x, x ∈ l.take i → ¬ (x.1 ≤ c ∧ c < x.2)) ∧ s = ⟨[some (.d (.list (lsD E l))), some (.d (.int n)), some (.d (.int d)), some (.d (cuD (some (n, d, 0)))), some (.d (cuD (some (n, d, 1)))), x5], []⟩, ⟨none, fun x h => by simp at h, rfl⟩, fun _ _ _ _ => trivial, ?_, ?_⟩
    · rintro i x s2 hx ⟨x5, hno, rfl⟩
      have hi : i < l.length := by
        have := (List.getElem?_eq_some_iff.mp hx).1
        rw [lsD_len] at this
        exact this
      obtain ⟨⟨p, q⟩, hy⟩ : ∃ y, l[i]? = some y := ⟨_, List.getElem?_eq_getElem hi⟩
      have e : x = stD E (p, q) := by
        rw [lsD, List.getElem?_map, hy] at hx
        exact (Option.some.inj hx).symm
      subst e
      have hpq := fl.ok _ (List.mem_of_getElem? hy)
      dsimp only at hpq
      have c1 := hL.bef p (by omega)
      have c2 : cl (cut E q) (some (n, d, 1)) = decide (q ≤ c) := by
        rcases Nat.lt_or_ge q (2 * E.length) with h | h
        · exact hL.aft q h
        · rw [cut_none h]
          exact (decide_eq_false (by have := hL.hc; omega)).symm
      have sm1 : ∀ (z : Int) (w : Cut), some (n, d, z) = some w → Sm w.1 ∧ Sm w.2.1 := fun z w h => by cases h; exact ⟨hL.sn, hL.sd⟩
      have step : ¬ (p ≤ c ∧ c < q) → ∀ z, z ∈ l.take (i + 1) → ¬ (z.1 ≤ c ∧ c < z.2) := fun h z hz => by
        rw [List.take_add_one, hy] at hz
        rcases List.mem_append.mp hz with hz | hz
        · exact hno z hz
        · rw [List.mem_singleton.mp hz]; exact h
      repeat walk_at "dd"
  
      refine ev_befG (sm1 0) (fun w hw => cut_sm hE hw) c1 ?_
      repeat walk_at "dd"
  
      refine ev_low (x := (p, q)) hpq ?_
      repeat walk_at "dd"
  
      refine ⟨fun h => ?_, fun h => ⟨fun z => (nomatch z), fun _ => ?_⟩⟩
      · have h1 : ¬ c < p := by simpa using h
        repeat walk_at "dd"
  
        refine ev_befG (fun w hw => cut_sm hE hw) (sm1 1) c2 ?_
        repeat walk_at "dd"
  
        refine ev_high (x := (p, q)) hpq ?_
        repeat walk_at "dd"
  
        refine ⟨fun h => ?_, fun h => ?_⟩
        · have h2 : ¬ q ≤ c := by simpa using h
          repeat walk_at "dd"
  
          refine ⟨rfl, ?_⟩
          rw [hasB_iff.mpr ⟨(p, q), List.mem_of_getElem? hy, by show p ≤ c; omega, by show c < q; omega⟩]
        · have h2 : q ≤ c := by simpa using h
          repeat walk_at "dd"
  
          exact ⟨_, step (by omega), rfl⟩
      · have h1 : c < p := by simpa using h
        repeat walk_at "dd"
  
        exact ⟨_, step (by omega), rfl⟩
    · rintro s2 ⟨x5, hno, rfl⟩
      rw [lsD_len, List.take_length] at hno
      repeat walk_at "dd"
  
      refine ⟨rfl, ?_⟩
      have e : hasB l c = false := by
        cases e : hasB l c with
        | false => rfl
        | true =>
          obtain ⟨x, h1, h2, h3⟩ := hasB_iff.mp e
          exact absurd ⟨h2, h3⟩ (hno x h1)
      rw [e]
end
section
variable {K : PySem.W.Frag} {b : B} {s : S} {t : TA} {Φ : Dw.A → S → Prop} {cB : Addr}
theorem ev_in {E : List Fr} {l : List PQ} {c : Nat} {n d : Int} (hE : Ends E) (hl : E.length ≤ 100) (fl : Fit E l) (hL : Loc E c n d) {r : Bool} (hr : hasB l c = r) (h : EA K b t s fun as s1 => as = [.d (.list (lsD E l)), .d (.int n), .d (.int d)] ∧ Φ (.d (.bool r)) s1) : EV K b (tCall (SpB K (sp_in_stretches cB)) [] E0 t) s Φ := by
  refine ev_callV fun σ H tv tl Hd ps R Q k => h σ H tv tl Hd ps R Q fun vs H1 as s1 Hd1 ps1 h1' R1 a1 => k vs H1 as s1 Hd1 ps1 ?_ R1 a1
  obtain ⟨rfl, q⟩ := h1'
  exact ⟨(false, E, l, c, n, d), _, rfl, rfl, rfl, ⟨hE, hl, fl, hL⟩, fun _ _ h => h.2, fun _ _ h => (nomatch h.1), by rw [hr]; exact q⟩
end
def sp__law_members : Spc where
  I := List Fr × List Bool × List Qu
  args := fun (E, bs, qs) => [.d (.list (lsD E (formP bs))), .d (.list (bL bs)), .d (.list (quL qs))]
  cells := fun _ => []
  pre := fun (E, bs, qs) => Ends E ∧ E.length ≤ 100 ∧ bs.length = 2 * E.length ∧ ∀ q, q ∈ qs → Loc E q.1 q.2.1 q.2.2
  post := fun _ r _ => r = .val (.bool true)
section
variable {P : Program} {w : World} {K : PySem.W.Frag} {mg : Str → Option Value} {base : Heap}
theorem ok__law_members (T : Tx K mg) : FnOk P w K mg base CX0 4 T.a__law_members T.d__law_members ["stretches", "bits", "questions"] (SpB K sp__law_members) := by
  refine T.F__law_members.ok sc__law_members (fun vs H Q E h => spB_len h (fun _ => rfl)) (fun cdv A outer s H vs Q E hr h => ⟨_, PSs.nox ((pss_cons (ps_set (i := 3) sc__law_members.nd rfl (.inl rfl) (pe_callTy call_list_of (by rfl) T.z_list (by decide +kernel) (pa_cons (pv 0) pa_nil)))
      (pss_cons (ps_for PassesOwn.never rfl (pi_any (pv 2)) (pg_tup rfl (pgs_cons (pg_name (i := 4) sc__law_members.nd rfl (.inl rfl) (.inr rfl)) (pgs_cons (pg_name (i := 5) sc__law_members.nd rfl (.inl rfl) (.inr rfl)) (pgs_cons (pg_name (i := 6) sc__law_members.nd rfl (.inl rfl) (.inr rfl)) pgs_nil))))
      (pss_cons (ps_set (i := 7) sc__law_members.nd rfl (.inl rfl) (pe_call (ok_in_stretches T) (hr.mono (by decide)) (by rfl) T.g_in_stretches T.F_in_stretches.kp (b_in_stretches T.F_in_stretches) .nil passL (pa_cons (pv 3) (pa_cons (pv 5) (pa_cons (pv 6) pa_nil)))))
      (pss_one (ps_if (PW.pt (pw_or (pt_not (pt_truth (pe_callB call_isi (by rfl) T.z_isinstance (by decide +kernel) (pa_cons (pv 7) (pa_cons (pe_bltn (v := .ty "bool") (by rfl) T.z_bool (by decide +kernel) rfl) pa_nil))) (by intro _; rfl))) (pw_or1 (pt_cmpR (op_neD hr.units) (pv 7) (pe_ix ix_seq (pv 1) (pv 4) (fun _ _ => rfl)) (nomark _)))))
      (pss_one (ps_ret pe_bl))
      pss_nil))))
      (pss_one (ps_ret (pe_call (ok__law_same T) (hr.mono (by decide)) (by rfl) T.g__law_same T.F__law_same.kp (b__law_same T.F__law_same) .nil pass0 (pa_cons (pv 3) (pa_cons (pv 0) pa_nil)))))))), ?_⟩)
  refine go_fn (L := ["stretches", "bits", "questions", "handed", "cell", "n", "d", "got"]) h (fun b i hp hX => ?_)
  dsimp only [cxOf, L2.Cx.nox, L2.Cx.wish]
  
  obtain ⟨E, bs, qs⟩ := i
  obtain ⟨hE, hl, hb, hq⟩ := hp
  have fl := fit_form (E := E) hb
  have n1 := fl.len
  repeat walk_at "dd"
  
  refine vc_list (ds := lsD E (formP bs)) (.inl rfl) ?_
  repeat walk_at "dd"
  
  refine go_for (ei_anyL (ei_list (ev_var rfl ⟨quL qs, fun _ => True, .inl rfl, trivial, ?_⟩)))
  refine ⟨fun i s => ∃ (x4 x5 x6 x7 : Option Dw.A), s = ⟨[some (.d (.list (lsD E (formP bs)))), some (.d (.list (bL bs))), some (.d (.list (quL qs))), some (.d (.list (lsD E (formP bs)))), x4, x5, x6, x7], []⟩, ⟨none, none, none, none, rfl⟩, fun _ _ _ _ => trivial, ?_, ?_⟩
  · rintro i x s2 hx ⟨x4, x5, x6, x7, rfl⟩
    obtain ⟨q, hy⟩ : ∃ y, qs[i]? = some y := ⟨qs[i]'(by have := (List.getElem?_eq_some_iff.mp hx).1; rw [quL_len] at this; exact this), List.getElem?_eq_getElem _⟩
    have e : x = quD q := by
      rw [quL, List.getElem?_map, hy] at hx
      exact (Option.some.inj hx).symm
    subst e
    obtain ⟨c, n, d⟩ := q
    have hL : Loc E c n d := hq _ (List.mem_of_getElem? hy)
    have hc := hL.hc
    obtain ⟨y, hy⟩ : ∃ y, bs[c]? = some y := ⟨_, List.getElem?_eq_getElem (by omega)⟩
    have ey := bL_get hy
    refine gt_tup (ds := [.int c, .int n, .int d]) rfl ?_
    repeat walk_at "dd"
  
    refine ev_in hE hl fl hL (hasB_form hy) ?_
    repeat walk_at "dd"
  
    exact ⟨_, _, _, _, rfl⟩
  · rintro s2 ⟨x4, x5, x6, x7, rfl⟩
    repeat walk_at "dd"
  
    (refine ev_same E (formP bs) ?_; repeat walk_at "dd"); (refine ⟨_, _, rfl, by omega, rfl, rfl, ?_⟩)
    rfl
end
def sp__law_refused : Spc where
  I := List Fr × List PQ × Int × Int
  args := fun (E, l, n, d) => [.d (.list (lsD E l)), .d (.int n), .d (.int d)]
  cells := fun _ => []
  pre := fun (_, _, n, d) => n < 0 ∨ d < 1
  post := fun _ r _ => r = .val (.bool true)
section
variable {P : Program} {w : World} {K : PySem.W.Frag} {mg : Str → Option Value} {base : Heap}
theorem ok__law_refused (T : Tx K mg) : FnOk P w K mg base CX0 3 T.a__law_refused T.d__law_refused ["stretches", "n", "d"] (SpB K sp__law_refused) := by
  refine T.F__law_refused.ok sc__law_refused (fun vs H Q E h => spB_len h (fun _ => rfl)) (fun cdv A outer s H vs Q E hr h => ⟨_, PSs.nox ((pss_cons (ps_try_as (i := 3) (Wout := fun _ _ _ _ => False) rfl rfl sc__law_refused.nd rfl rfl ⟨rfl, by decide, .inl T.gc_DwellError⟩ takes0
      (fun W pn xe tk _ => pss_one (ps_expr (pe_callS (ok_in_stretches T) (hr.mono (by decide)) (by rfl) T.g_in_stretches T.F_in_stretches.kp (b_in_stretches T.F_in_stretches) (fun σ => passAt tk σ) (by exact (pa_cons (pe_callTy (call_list_ofK (K := K) rfl) (by rfl) T.z_list (by decide +kernel) (pa_cons (pv 0) pa_nil)) (pa_cons (pv 1) (pa_cons (pv 2) pa_nil)))))))
      (fun a oe cls d pn hz hf => pss_guard (p := cls = .ref T.c_BadValue ∧ d = none) (fun hP => (pss_cons (ps_if (PW.pt (pw_or (pt_not (pt_truthK (K := K) rfl (pe_callB (call_isEK (K := K) rfl T.ec_BadValue (zc_of hP hz) hf) (by rfl) T.z_isinstance (by decide +kernel) (by exact (pa_cons (pv 3) (pa_cons (pe_glob (v := .ref T.c_BadValue) rfl T.gc_BadValue rfl) pa_nil)))) (by intro _; rfl))) (pw_or1 (pt_not (pt_truthK (K := K) rfl (pe_callB (call_isEK (K := K) rfl T.ec_BadValue (zc_of hP hz) hf) (by rfl) T.z_isinstance (by decide +kernel) (by exact (pa_cons (pv 3) (pa_cons (pe_bltn (v := .ty "ValueError") (by rfl) T.z_ValueError (by decide +kernel) rfl) pa_nil)))) (by intro _; rfl))))))
      (pss_one (ps_ret pe_bl))
      pss_nil)
      (pss_one (ps_ret (pe_and (pe_notTK (K := K) rfl (pe_callB (call_isEK (K := K) rfl T.ec_BadValue (zc_of hP hz) hf) (by rfl) T.z_isinstance (by decide +kernel) (by exact (pa_cons (pv 3) (pa_cons (pe_glob (v := .ref T.c_NoRun) rfl T.gc_NoRun rfl) pa_nil))))) (pe_one (pe_notTK (K := K) rfl (pe_callB (call_isEK (K := K) rfl T.ec_BadValue (zc_of hP hz) hf) (by rfl) T.z_isinstance (by decide +kernel) (by exact (pa_cons (pv 3) (pa_cons (pe_glob (v := .ref T.c_NoStart) rfl T.gc_NoStart rfl) pa_nil)))))))))))))
      (pss_one (ps_ret pe_bl)))), ?_⟩)
  refine go_fn (L := ["stretches", "n", "d", "e"]) h (fun b i hp hX => ?_)
  dsimp only [cxOf, L2.Cx.nox, L2.Cx.wish]
  
  obtain ⟨E, l, n, d⟩ := i
  have hp : n < 0 ∨ d < 1 := hp
  have k1 := T.k1_BadValue
  have k2 := T.k2_BadValue
  have k3 := T.k3_BadValue
  have k4 := T.k4_BadValue
  refine go_seq (go_tryD ?_)
  repeat walk_at "dd"
  
  refine vc_list (ds := lsD E l) (.inl rfl) ?_
  repeat walk_at "dd"
  
  refine ⟨(true, E, l, 0, n, d), rfl, rfl, rfl, hp, fun r os' h => (nomatch h.1), fun x os' h => ?_⟩
  obtain ⟨_, rfl⟩ := h
  refine ⟨rfl, T.em_BadValue, fun a => go_guard ⟨rfl, rfl⟩ ?_⟩
  repeat walk_at "dd"
  
  rfl
end
section
variable {K : PySem.W.Frag} {b : B} {s : S} {t : TA} {Φ : Dw.A → S → Prop}
theorem ev_refused {E : List Fr} {l : List PQ} {n d : Int} (h : EA K b t s fun as s1 => (n < 0 ∨ d < 1) ∧ as = [.d (.list (lsD E l)), .d (.int n), .d (.int d)] ∧ Φ (.d (.bool true)) s1) : EV K b (tCall (SpB K sp__law_refused) [] E0 t) s Φ := by
  refine ev_callV fun σ H tv tl Hd ps R Q k => h σ H tv tl Hd ps R Q fun vs H1 as s1 Hd1 ps1 h1' R1 a1 => k vs H1 as s1 Hd1 ps1 ?_ R1 a1
  obtain ⟨hp, rfl, q⟩ := h1'
  exact ⟨(E, l, n, d), _, rfl, rfl, rfl, hp, fun _ _ h => h, fun _ _ h => h, q⟩
end
def sp__law_open (K : PySem.W.Frag) : Spc where
  I := List Int
  args := fun ns => [scrP K ns]
  cells := fun _ => []
  pre := fun _ => True
  post := fun _ r _ => ∃ x : Bx, r = .new (.dK x.kvs) ∧ 0 ≤ x.index
section
variable {P : Program} {w : World} {K : PySem.W.Frag} {mg : Str → Option Value} {base : Heap}
theorem ok__law_open (T : Tx K mg) : FnOk P w K mg base CX0 1 T.a__law_open T.d__law_open ["script"] (SpB K (sp__law_open K)) := by
  refine T.F__law_open.ok sc__law_open (fun vs H Q E h => spB_len h (fun _ => rfl)) (fun cdv A outer s H vs Q E hr h => ⟨_, PSs.nox ((pss_cons (ps_set (i := 1) sc__law_open.nd rfl (.inl rfl) pe_int)
      (pss_cons (ps_for PassesOwn.never rfl (pi_any (pe_slice sl_any (pv 0) po_none (po_some pe_int))) (pg_name (i := 2) sc__law_open.nd rfl (.inl rfl) (.inr rfl))
      (pss_one (ps_set (i := 1) sc__law_open.nd rfl (.inl rfl) (pe_op op_mod (pe_callTy call_int1 (by rfl) T.z_int (by decide +kernel) (pa_cons (pe_op op_addA (pe_op op_mulA (pv 1) pe_int) (pe_op op_mod (pe_callTy call_int1 (by rfl) T.z_int (by decide +kernel) (pa_cons (pv 2) pa_nil)) pe_int)) pa_nil)) pe_int))))
      (pss_cons (ps_set (i := 3) sc__law_open.nd rfl (.inl rfl) (pe_disp (pps_cons pe_str (pe_callTy call_list_of (by rfl) T.z_list (by decide +kernel) (pa_cons (pe_slice sl_any (pv 0) po_none (po_some pe_int)) pa_nil)) (pps_cons pe_str pe_int (pps_cons pe_str pe_int (pps_cons pe_str pe_int (pps_cons pe_str pe_int (pps_cons pe_str (pv 1) pps_nil)))))) rfl rfl (List.cons_ne_nil _ _) (Nat.le_of_ble_eq_true rfl)))
      (pss_cons (ps_dput (hu_of hr) (pv 3) pe_str pe_bl rfl)
      (pss_one (ps_ret (pv 3)))))))), ?_⟩)
  refine go_fn (L := ["script", "seed", "cell", "box"]) h (fun b i hp hX => ?_)
  dsimp only [cxOf, L2.Cx.nox, L2.Cx.wish]
  
  have cut : ∀ (lo hi : Option Int) (ns : List Int), ∃ ms : List Int, cutD (ns.map .int) lo hi = ms.map .int := fun lo hi ns => by
    unfold cutD
    exact ⟨(ns.drop (HT.sIx (ns.map PyData.int).length 0 lo)).take (HT.sIx (ns.map PyData.int).length (ns.map PyData.int).length hi - HT.sIx (ns.map PyData.int).length 0 lo), by rw [List.map_take, List.map_drop]⟩
  obtain ⟨ms, hms⟩ := cut none (some 63) i
  show GO K b _ ⟨[some (scrP K i), none, none, none], []⟩ _
  repeat walk_at "dd"
  
  refine go_for (ei_anyL (ei_list ?_))
  repeat walk_at "dd"
  
  refine vs_scr ?_
  rw [hms]
  refine ⟨ms.map .int, fun _ => True, .inl rfl, trivial, ?_⟩
  refine ⟨fun i' s => ∃ (seed : Int) (x2 : Option Dw.A), s = ⟨[some (scrP K i), some (.d (.int seed)), x2, none], []⟩, ⟨0, none, rfl⟩, fun _ _ _ _ => trivial, ?_, ?_⟩
  · rintro i' x s2 hx ⟨seed, x2, rfl⟩
    obtain ⟨m, rfl⟩ : ∃ m : Int, x = .int m := by
      rw [List.getElem?_map] at hx
      cases e : ms[i']? with
      | none => rw [e] at hx; cases hx
      | some m => rw [e] at hx; exact ⟨m, (Option.some.inj hx).symm⟩
    repeat walk_at "dd"
  
    exact ⟨_, _, rfl⟩
  · rintro s2 ⟨seed, x2, rfl⟩
    repeat walk_at "dd"
  
    refine ev_disp ?_
    show EV K b (tC (V.str _)) _ _
    repeat walk_at "dd"
  
    refine vs_scr ?_
    rw [hms]
    repeat walk_at "dd"
  
    refine vc_list (ds := ms.map .int) (.inl rfl) ?_
    refine ⟨ky "cells", _, rfl, rfl, ?_⟩
    show EV K b (tC (V.str _)) _ _
    repeat walk_at "dd"
  
    refine ⟨ky "index", _, rfl, rfl, ?_⟩
    show EV K b (tC (V.str _)) _ _
    repeat walk_at "dd"
  
    refine ⟨ky "cell", _, rfl, rfl, ?_⟩
    show EV K b (tC (V.str _)) _ _
    repeat walk_at "dd"
  
    refine ⟨ky "left", _, rfl, rfl, ?_⟩
    show EV K b (tC (V.str _)) _ _
    repeat walk_at "dd"
  
    refine ⟨ky "count", _, rfl, rfl, ?_⟩
    show EV K b (tC (V.str _)) _ _
    repeat walk_at "dd"
  
    refine ⟨ky "seed", _, rfl, rfl, ?_⟩
    refine ⟨rfl, (show (6 : Nat) ≤ 15 by decide), ?_⟩
    have e6 : mergeD [] [(ky "cells", .list (ms.map .int)), (ky "index", .int 0), (ky "cell", .int 0), (ky "left", .int 0), (ky "count", .int 0), (ky "seed", .int seed)] = [(ky "cells", .list (ms.map .int)), (ky "index", .int 0), (ky "cell", .int 0), (ky "left", .int 0), (ky "count", .int 0), (ky "seed", .int seed)] := by with_unfolding_all rfl
    rw [e6]
    repeat walk_at "dd"
  
    refine go_dput ?_
    repeat walk_at "dd"
  
    refine ⟨0, _, ky "great", .bool false, rfl, rfl, rfl, rfl, by show 6 < sizeLine; decide, ?_⟩
    have e7 : putD [(ky "cells", .list (ms.map .int)), (ky "index", .int 0), (ky "cell", .int 0), (ky "left", .int 0), (ky "count", .int 0), (ky "seed", .int seed)] (ky "great") (.bool false) = Bx.kvs ⟨ms, 0, 0, 0, 0, seed, false⟩ := by with_unfolding_all rfl
    rw [e7]
    refine go_ret (ev_var (a := .o 0) rfl ?_)
    exact ⟨_, Nat.zero_le _, rfl, (fun z => nomatch z), ⟨_, rfl, Int.le_refl 0⟩⟩
end
def sp__law_refusals : Spc where
  I := Bx × List Fr × List PQ
  args := fun (_, E, l) => [.o 0, .d (.list (lsD E l))]
  cells := fun (x, _) => [.dK x.kvs]
  pre := fun (x, _) => 0 ≤ x.index
  post := fun _ r _ => r = .val (.bool true)
section
variable {P : Program} {w : World} {K : PySem.W.Frag} {mg : Str → Option Value} {base : Heap}
theorem ok__law_refusals (T : Tx K mg) : FnOk P w K mg base CX0 4 T.a__law_refusals T.d__law_refusals ["box", "stretches"] (SpB K sp__law_refusals) := by
  refine T.F__law_refusals.ok sc__law_refusals (fun vs H Q E h => spB_len h (fun _ => rfl)) (fun cdv A outer s H vs Q E hr h => ⟨_, PSs.nox ((pss_cons (ps_set (i := 2) sc__law_refusals.nd rfl (.inl rfl) (pe_lst (pa_cons pe_int (pa_cons pe_int (pa_cons pe_int (pa_cons (pe_op op_pow pe_int pe_int) (pa_cons (pe_op op_pow pe_int pe_int) pa_nil)))))))
      (pss_cons (ps_set (i := 3) sc__law_refusals.nd rfl (.inl rfl) (pe_call (ok__law_take T) (hr.mono (by decide)) (by rfl) T.g__law_take T.F__law_take.kp (b__law_take T.F__law_take) .nil pass0 (pa_cons (pv 0) (pa_cons pe_int pa_nil))))
      (pss_cons (ps_set (i := 4) sc__law_refusals.nd rfl (.inl rfl) (pe_op op_addA pe_int (pe_call (ok__law_take T) (hr.mono (by decide)) (by rfl) T.g__law_take T.F__law_take.kp (b__law_take T.F__law_take) .nil pass0 (pa_cons (pv 0) (pa_cons pe_int pa_nil)))))
      (pss_cons (ps_set (i := 5) sc__law_refusals.nd rfl (.inl rfl) (pe_ix ix_seq (pv 2) (pe_call (ok__law_take T) (hr.mono (by decide)) (by rfl) T.g__law_take T.F__law_take.kp (b__law_take T.F__law_take) .nil pass0 (pa_cons (pv 0) (pa_cons pe_int pa_nil))) (fun _ _ => rfl)))
      (pss_cons (ps_for PassesOwn.never rfl (pi_any (pe_lst (pa_cons (pe_tup (pa_cons (pe_un un_neg (pv 5)) (pa_cons (pv 4) pa_nil))) (pa_cons (pe_tup (pa_cons (pv 3) (pa_cons pe_int pa_nil))) (pa_cons (pe_tup (pa_cons (pv 3) (pa_cons (pe_un un_neg (pv 5)) pa_nil))) (pa_cons (pe_tup (pa_cons (pe_un un_neg (pv 5)) (pa_cons pe_int pa_nil))) (pa_cons (pe_tup (pa_cons (pe_op op_sub (pe_un un_neg (pv 3)) pe_int) (pa_cons (pe_un un_neg (pv 4)) pa_nil))) (pa_cons (pe_tup (pa_cons pe_int (pa_cons pe_int pa_nil))) (pa_cons (pe_tup (pa_cons (pe_un un_neg pe_int) (pa_cons pe_int pa_nil))) pa_nil))))))))) (pg_name (i := 6) sc__law_refusals.nd rfl (.inl rfl) (.inr rfl))
      (pss_one (ps_if (pt_not (pt_truth (pe_call (ok__law_refused T) (hr.mono (by decide)) (by rfl) T.g__law_refused T.F__law_refused.kp (b__law_refused T.F__law_refused) .nil pass0 (pa_cons (pv 1) (pa_cons (pe_ix ix_seq (pv 6) pe_int (fun _ _ => rfl)) (pa_cons (pe_ix ix_seq (pv 6) pe_int (fun _ _ => rfl)) pa_nil)))) (by intro _; rfl)))
      (pss_one (ps_ret pe_bl))
      pss_nil)))
      (pss_one (ps_ret (pe_and (pe_call (ok__law_refused T) (hr.mono (by decide)) (by rfl) T.g__law_refused T.F__law_refused.kp (b__law_refused T.F__law_refused) .nil pass0 (pa_cons (pe_lst pa_nil) (pa_cons (pe_un un_neg (pv 5)) (pa_cons (pv 4) pa_nil)))) (pe_one (pe_call (ok__law_refused T) (hr.mono (by decide)) (by rfl) T.g__law_refused T.F__law_refused.kp (b__law_refused T.F__law_refused) .nil pass0 (pa_cons (pe_lst pa_nil) (pa_cons (pv 3) (pa_cons pe_int pa_nil)))))))))))))), ?_⟩)
  refine go_fn (L := ["box", "stretches", "sizes", "n", "d", "far", "refused"]) h (fun b i hp hX => ?_)
  dsimp only [cxOf, L2.Cx.nox, L2.Cx.wish]
  
  obtain ⟨x, E, l⟩ := i
  have h0 : 0 ≤ x.index := hp
  refine go_sAsg (ev_lst ?_)
  repeat walk_at "dd"
  
  (refine ev_take ?_; repeat walk_at "bx")
  refine ⟨x, _, _, _, rfl, rfl, h0, by first | decide | omega, fun n y hy n0 n1 => ?_⟩
  repeat walk_at "dd"
  
  (refine ev_take ?_; repeat walk_at "bx")
  refine ⟨y, _, _, _, rfl, rfl, hy, by first | decide | omega, fun d y2 hy2 d0 d1 => ?_⟩
  repeat walk_at "dd"
  
  (refine ev_take ?_; repeat walk_at "bx")
  refine ⟨y2, _, _, _, rfl, rfl, hy2, by first | decide | omega, fun m y3 hy3 m0 m1 => ?_⟩
  obtain ⟨far, hfar, f1⟩ : ∃ far : Int, atI (inL [1, 2, 7, 10 ^ (9 : Int).toNat, 10 ^ (39 : Int).toNat]) m = some (.int far) ∧ 1 ≤ far := by
    have : m = 0 ∨ m = 1 ∨ m = 2 ∨ m = 3 ∨ m = 4 := by omega
    rcases this with rfl | rfl | rfl | rfl | rfl
    · exact ⟨_, rfl, by decide⟩
    · exact ⟨_, rfl, by decide⟩
    · exact ⟨_, rfl, by decide⟩
    · exact ⟨_, rfl, by decide⟩
    · exact ⟨_, rfl, by decide⟩
  refine v2_ixL (ds := inL [1, 2, 7, 10 ^ (9 : Int).toNat, 10 ^ (39 : Int).toNat]) hfar ?_
  refine gt_name ?_
  generalize hws : PyData.list _ = sz
  show GO K b _ ⟨[some (.o 0), some (.d (.list (lsD E l))), some (.d sz), some (.d (.int n)), some (.d (.int (1 + d))), some (.d (.int far)), none], [.dK y3.kvs]⟩ _
  refine go_seq (go_for (ei_anyL (ei_list (ev_lst ?_))))
  repeat walk_at "dd"
  
  refine ⟨_, fun _ => True, .inl rfl, trivial, ?_⟩
  refine ⟨fun i' s => ∃ (x6 : Option Dw.A), s = ⟨[some (.o 0), some (.d (.list (lsD E l))), some (.d sz), some (.d (.int n)), some (.d (.int (1 + d))), some (.d (.int far)), x6], [.dK y3.kvs]⟩, ⟨none, rfl⟩, fun _ _ _ _ => trivial, ?_, ?_⟩
  · rintro i' v s2 hx ⟨x6, rfl⟩
    have hm := List.mem_of_getElem? hx
    obtain ⟨a, c, rfl, hac⟩ : ∃ a c : Int, v = .tuple [.int a, .int c] ∧ (a < 0 ∨ c < 1) := by
      simp only [List.mem_cons, List.not_mem_nil, or_false] at hm
      rcases hm with rfl | rfl | rfl | rfl | rfl | rfl | rfl
      all_goals exact ⟨_, _, rfl, by omega⟩
    repeat walk_at "dd"
  
    refine ev_refused (E := E) (l := l) (n := a) (d := c) ?_
    repeat walk_at "dd"
  
    refine ⟨hac, ?_⟩
    repeat walk_at "dd"
  
    exact ⟨_, rfl⟩
  · rintro s2 ⟨x6, rfl⟩
    repeat walk_at "dd"
  
    refine ev_refused (E := E) (l := []) (n := -far) (d := 1 + d) ?_
    repeat walk_at "dd"
  
    refine ev_lst ?_
    repeat walk_at "dd"
  
    refine ⟨by omega, ?_⟩
    repeat walk_at "dd"
  
    refine ev_refused (E := E) (l := []) (n := n) (d := 0) ?_
    repeat walk_at "dd"
  
    refine ev_lst ?_
    repeat walk_at "dd"
  
    refine ⟨by omega, ?_⟩
    repeat walk_at "dd"
  
    rfl
end
section
variable {K : PySem.W.Frag} {b : B} {s : S} {t : TA} {Φ : Dw.A → S → Prop} {E : List Fr} {l m : List PQ} {bs : List Bool}
theorem ev_open (h : EA K b t s fun as s1 => ∃ ns, as = [scrP K ns] ∧ ∀ x : Bx, 0 ≤ x.index → Φ (.o s1.os.length) (s1.add (.dK x.kvs))) : EV K b (tCall (SpB K (sp__law_open K)) [] E0 t) s Φ := by
  refine ev_call0 fun σ H tv tl Hd ps R Q k => h σ H tv tl Hd ps R Q fun vs H1 as s1 Hd1 ps1 h1 R1 a1 => k vs H1 as s1 Hd1 ps1 ?_ R1 a1
  obtain ⟨ns, rfl, q⟩ := h1
  refine ⟨ns, rfl, rfl, rfl, trivial, fun r os' hr => ?_, xok_no (fun _ _ h => h)⟩
  obtain ⟨x, rfl, hx⟩ := hr
  exact q x hx
theorem ev_ends (h : EA K b t s fun as s1 => ∃ (x : Bx) (n : Int) (ss : List (Option Dw.A)) (cs : List C), as = [.o 0, .d (.int n)] ∧ s1 = ⟨ss, .dK x.kvs :: cs⟩ ∧ 0 ≤ x.index ∧ ∀ (E : List Fr) (y : Bx), 0 ≤ y.index → Ends E → E.length ≤ 60 → Φ (.d (.list (frL E))) ⟨ss, .dK y.kvs :: cs⟩) : EV K b (tCall (SpB K sp__law_ends) [] E0 t) s Φ := by
  refine ev_call1 0 fun σ H tv tl Hd ps R Q k => h σ H tv tl Hd ps R Q fun vs H1 as s1 Hd1 ps1 h1 R1 a1 => k vs H1 as s1 Hd1 ps1 ?_ R1 a1
  obtain ⟨x, n, ss, cs, rfl, rfl, h0, q⟩ := h1
  refine ⟨(x, n), .dK x.kvs, [.d (.int n)], rfl, rfl, rfl, rfl, (fun z => nomatch z), rfl, h0, fun r c' hr => ?_, fun x c' hx => (show False from hx).elim⟩
  obtain ⟨E, y, rfl, e, h1, h2, h3⟩ := hr
  cases e
  exact q E y h1 h2 h3
theorem ev_bits (h : EA K b t s fun as s1 => ∃ (x : Bx) (n : Nat) (ss : List (Option Dw.A)) (cs : List C), as = [.o 0, .d (.int n)] ∧ s1 = ⟨ss, .dK x.kvs :: cs⟩ ∧ 0 ≤ x.index ∧ n ≤ 1000 ∧ ∀ (bs : List Bool) (y : Bx), 0 ≤ y.index → bs.length = n → Φ (.d (.list (bL bs))) ⟨ss, .dK y.kvs :: cs⟩) : EV K b (tCall (SpB K sp__law_bits) [] E0 t) s Φ := by
  refine ev_call1 0 fun σ H tv tl Hd ps R Q k => h σ H tv tl Hd ps R Q fun vs H1 as s1 Hd1 ps1 h1 R1 a1 => k vs H1 as s1 Hd1 ps1 ?_ R1 a1
  obtain ⟨x, n, ss, cs, rfl, rfl, h0, hn, q⟩ := h1
  refine ⟨(x, n), .dK x.kvs, [.d (.int n)], rfl, rfl, rfl, rfl, (fun z => nomatch z), rfl, ⟨h0, hn⟩, fun r c' hr => ?_, fun x c' hx => (show False from hx).elim⟩
  obtain ⟨bs, y, rfl, e, h1, h2⟩ := hr
  cases e
  exact q bs y h1 h2
theorem ev_quest (hE : Ends E) (hl : E.length ≤ 100) (h : EA K b t s fun as s1 => ∃ (x : Bx) (n : Int) (ss : List (Option Dw.A)) (cs : List C), as = [.o 0, .d (.list (frL E)), .d (.int n)] ∧ s1 = ⟨ss, .dK x.kvs :: cs⟩ ∧ 0 ≤ x.index ∧ ∀ (qs : List Qu) (y : Bx), 0 ≤ y.index → qs.length = 2 * E.length → (∀ q, q ∈ qs → Loc E q.1 q.2.1 q.2.2) → Φ (.d (.list (quL qs))) ⟨ss, .dK y.kvs :: cs⟩) : EV K b (tCall (SpB K sp__law_questions) [] E0 t) s Φ := by
  refine ev_call1 0 fun σ H tv tl Hd ps R Q k => h σ H tv tl Hd ps R Q fun vs H1 as s1 Hd1 ps1 h1 R1 a1 => k vs H1 as s1 Hd1 ps1 ?_ R1 a1
  obtain ⟨x, n, ss, cs, rfl, rfl, h0, q⟩ := h1
  refine ⟨(x, E, n), .dK x.kvs, [.d (.list (frL E)), .d (.int n)], rfl, rfl, rfl, rfl, (fun z => nomatch z), rfl, ⟨h0, hE, hl⟩, fun r c' hr => ?_, fun x c' hx => (show False from hx).elim⟩
  obtain ⟨qs, y, rfl, e, h1, h2, h3⟩ := hr
  cases e
  exact q qs y h1 h2 h3
theorem ev_members {qs : List Qu} (hE : Ends E) (hl : E.length ≤ 100) (hb : bs.length = 2 * E.length) (hq : ∀ q, q ∈ qs → Loc E q.1 q.2.1 q.2.2) (h : EA K b t s fun as s1 => as = [.d (.list (lsD E (formP bs))), .d (.list (bL bs)), .d (.list (quL qs))] ∧ Φ (.d (.bool true)) s1) : EV K b (tCall (SpB K sp__law_members) [] E0 t) s Φ := by
  refine ev_callV fun σ H tv tl Hd ps R Q k => h σ H tv tl Hd ps R Q fun vs H1 as s1 Hd1 ps1 h1' R1 a1 => k vs H1 as s1 Hd1 ps1 ?_ R1 a1
  obtain ⟨rfl, q⟩ := h1'
  exact ⟨(E, bs, qs), _, rfl, rfl, rfl, ⟨hE, hl, hb, hq⟩, fun _ _ h => h, fun _ _ h => h, q⟩
theorem ev_others (hE : Ends E) (hl : E.length ≤ 100) (hb : bs.length = 2 * E.length) (h : EA K b t s fun as s1 => as = [.d (.list (frL E)), .d (.list (bL bs))] ∧ Φ (.d (.bool true)) s1) : EV K b (tCall (SpB K sp__law_others) [] E0 t) s Φ := by
  refine ev_callV fun σ H tv tl Hd ps R Q k => h σ H tv tl Hd ps R Q fun vs H1 as s1 Hd1 ps1 h1' R1 a1 => k vs H1 as s1 Hd1 ps1 ?_ R1 a1
  obtain ⟨rfl, q⟩ := h1'
  exact ⟨(E, bs), _, rfl, rfl, rfl, ⟨hE, hl, hb⟩, fun _ _ h => h, fun _ _ h => h, q⟩
theorem ev_pairs {me jo : List PQ} (hE : Ends E) (hl : E.length ≤ 100) (fl : Fit E l) (fm : Fit E m) (e1 : meetP l m = me) (e2 : joinP l m = jo) (h : EA K b t s fun as s1 => as = [.d (.list (lsD E l)), .d (.list (lsD E m)), .d (.list (lsD E me)), .d (.list (lsD E jo))] ∧ Φ (.d (.bool true)) s1) : EV K b (tCall (SpB K sp__law_pairs) [] E0 t) s Φ := by
  subst e1 e2
  refine ev_callV fun σ H tv tl Hd ps R Q k => h σ H tv tl Hd ps R Q fun vs H1 as s1 Hd1 ps1 h1' R1 a1 => k vs H1 as s1 Hd1 ps1 ?_ R1 a1
  obtain ⟨rfl, q⟩ := h1'
  exact ⟨(E, l, m), _, rfl, rfl, rfl, ⟨hE, hl, fl, fm⟩, fun _ _ h => h, fun _ _ h => h, q⟩
theorem ev_alone (hE : Ends E) (hl : E.length ≤ 100) (fl : Fit E l) (h : EA K b t s fun as s1 => as = [.d (.list (lsD E l))] ∧ Φ (.d (.bool true)) s1) : EV K b (tCall (SpB K sp__law_alone) [] E0 t) s Φ := by
  refine ev_callV fun σ H tv tl Hd ps R Q k => h σ H tv tl Hd ps R Q fun vs H1 as s1 Hd1 ps1 h1' R1 a1 => k vs H1 as s1 Hd1 ps1 ?_ R1 a1
  obtain ⟨rfl, q⟩ := h1'
  exact ⟨(E, l), _, rfl, rfl, rfl, ⟨hE, hl, fl⟩, fun _ _ h => h, fun _ _ h => h, q⟩
theorem ev_refusals (h : EA K b t s fun as s1 => ∃ (x : Bx) (ss : List (Option Dw.A)) (cs : List C), as = [.o 0, .d (.list (lsD E l))] ∧ s1 = ⟨ss, .dK x.kvs :: cs⟩ ∧ 0 ≤ x.index ∧ ∀ c, Φ (.d (.bool true)) ⟨ss, c :: cs⟩) : EV K b (tCall (SpB K sp__law_refusals) [] E0 t) s Φ := by
  refine ev_call1 0 fun σ H tv tl Hd ps R Q k => h σ H tv tl Hd ps R Q fun vs H1 as s1 Hd1 ps1 h1 R1 a1 => k vs H1 as s1 Hd1 ps1 ?_ R1 a1
  obtain ⟨x, ss, cs, rfl, rfl, h0, q⟩ := h1
  refine ⟨(x, E, l), .dK x.kvs, [.d (.list (lsD E l))], rfl, rfl, rfl, rfl, (fun z => nomatch z), rfl, h0, fun r c' hr => ?_, fun x c' hx => (show False from hx).elim⟩
  rw [show r = .val (.bool true) from hr]
  exact q c'
/-- [e for k in range(n)], bools -/
theorem ev_rngB {i n : Nat} {f : Nat → Bool} {os : List C} {wi : TI} {tt : TT} {te : TE} {ss : List (Option Dw.A)}
    (h : ∀ Ξ : List PyData → (List C → Prop) → S → Prop, Ξ (rngD 0 n) (fun _ => True) ⟨ss, os⟩ → EI K b wi ⟨ss, os⟩ Ξ)
    (hv : ∀ (x : Int) (js : List PyData) (Ψ : Bool → S → Prop), Ψ true ⟨(S.wp ⟨ss, os⟩ [i]).ss.set i (some (.d (.int x))), os ++ [.lst js]⟩ → ET K b tt ⟨(S.wp ⟨ss, os⟩ [i]).ss.set i (some (.d (.int x))), os ++ [.lst js]⟩ Ψ)
    (he : ∀ (x : Nat) (js : List PyData) (Ψ : Dw.A → S → Prop), x < n → Ψ (.d (.bool (f x))) ⟨(S.wp ⟨ss, os⟩ [i]).ss.set i (some (.d (.int x))), os ++ [.lst js]⟩ → EV K b te ⟨(S.wp ⟨ss, os⟩ [i]).ss.set i (some (.d (.int x))), os ++ [.lst js]⟩ Ψ)
    (hl : n ≤ 1000)
    (q : Φ (.d (.list (bL ((List.range n).map f)))) (S.frz ⟨(S.wp ⟨ss, os⟩ [i]).ss, os ++ [.lst (bL ((List.range n).map f))]⟩ os.length (bL ((List.range n).map f)))) : EV K b (tLc wi (gName i) tt te [i]) ⟨ss, os⟩ Φ := by
  have ww : ∀ (l : List (Option Dw.A)) (z : Option Dw.A), ((l.set i none).set i z).set i none = l.set i none := fun l z => by rw [List.set_set, List.set_set]
  refine ev_dat (ev_lc (tg_name (.head _)) mg_name (h _ ?_))
  refine ⟨fun k js s => js = bL ((List.range k).map f) ∧ s = ⟨(S.wp ⟨ss, os⟩ [i]).ss, os ++ [.lst js]⟩, ⟨rfl, rfl⟩, ?_, ?_, ?_⟩
  · rintro k js s3 _ ⟨_, rfl⟩
    exact ⟨trivial, List.getElem?_concat_length⟩
  · rintro k x js s3 hx ⟨rfl, rfl⟩
    obtain ⟨hk, rfl⟩ := rngD_get hx
    rw [Int.zero_add]
    refine gt_name ?_
    have e1 : (S.wp ⟨(S.wp ⟨ss, os⟩ [i]).ss, os ++ [.lst (bL ((List.range k).map f))]⟩ [i]).set i (.d (.int k)) = ⟨(S.wp ⟨ss, os⟩ [i]).ss.set i (some (.d (.int k))), os ++ [.lst (bL ((List.range k).map f))]⟩ := by
      show S.mk (((ss.set i none).set i none).set i _) _ = S.mk ((ss.set i none).set i _) _
      rw [List.set_set, List.set_set]
      rfl
    rw [e1]
    refine hv k _ _ ⟨fun _ => ?_, fun h => (nomatch h)⟩
    refine he k _ _ hk ⟨_, rfl, List.getElem?_concat_length, Nat.lt_of_le_of_lt (show _ ≤ 1000 by simp [bL]; omega) (by decide), ?_, ?_⟩
    · rw [bL_snoc, List.range_succ, List.map_append]
      rfl
    · show S.wp ((S.mk _ (os ++ [C.lst _])).put os.length _) [i] = _
      rw [put_last]
      show S.mk ((((ss.set i none).set i _)).set i none) _ = S.mk (ss.set i none) _
      rw [ww]
  · rintro js s3 ⟨rfl, rfl⟩
    rw [rngD_len]
    exact ⟨_, _, rfl, List.getElem?_concat_length, q⟩
end
theorem and_bits {a c : List Bool} {n : Nat} (ha : a.length = n) (hc : c.length = n) : ∀ k, k < ((List.range n).map fun k => a.getD k false && c.getD k false).length → (((List.range n).map fun k => a.getD k false && c.getD k false)[k]? = some true ↔ a[k]? = some true ∧ c[k]? = some true) := fun k hk => by
  rw [List.length_map, List.length_range] at hk
  rw [List.getElem?_map, List.getElem?_range hk]
  obtain ⟨x, hx⟩ : ∃ x, a[k]? = some x := ⟨_, List.getElem?_eq_getElem (by omega)⟩
  obtain ⟨y, hy⟩ : ∃ x, c[k]? = some x := ⟨_, List.getElem?_eq_getElem (by omega)⟩
  simp [List.getD, hx, hy]
theorem or_bits {a c : List Bool} {n : Nat} (ha : a.length = n) (hc : c.length = n) : ∀ k, k < ((List.range n).map fun k => a.getD k false || c.getD k false).length → (((List.range n).map fun k => a.getD k false || c.getD k false)[k]? = some true ↔ a[k]? = some true ∨ c[k]? = some true) := fun k hk => by
  rw [List.length_map, List.length_range] at hk
  rw [List.getElem?_map, List.getElem?_range hk]
  obtain ⟨x, hx⟩ : ∃ x, a[k]? = some x := ⟨_, List.getElem?_eq_getElem (by omega)⟩
  obtain ⟨y, hy⟩ : ∃ x, c[k]? = some x := ⟨_, List.getElem?_eq_getElem (by omega)⟩
  simp [List.getD, hx, hy]
theorem bL_getD {bs : List Bool} {i n : Nat} (hb : bs.length = n) (h : i < n) : atI (bL bs) (i : Int) = some (.bool (bs.getD i false)) := by
  have e : bs[i]? = some (bs.getD i false) := by
    rw [List.getElem?_eq_getElem (by omega)]
    simp [List.getD, List.getElem?_eq_getElem (show i < bs.length by omega)]
  exact bL_get e
theorem quL_last {qs : List Qu} (h : 0 < qs.length) : ∃ q, q ∈ qs ∧ atI (quL qs) (-1) = some (quD q) := by
  rcases List.eq_nil_or_concat qs with e | ⟨l, q, e⟩
  · subst e; cases h
  · subst e
    refine ⟨q, by simp, ?_⟩
    rw [List.concat_eq_append, ← quL_snoc]
    exact atI_last _ _
def sp_law (K : PySem.W.Frag) : Spc where
  I := List Int
  args := fun ns => [scrP K ns]
  cells := fun _ => []
  pre := fun _ => True
  post := fun _ r _ => r = .val (.bool true)
section
variable {P : Program} {w : World} {K : PySem.W.Frag} {mg : Str → Option Value} {base : Heap}
theorem ok_law (T : Tx K mg) : FnOk P w K mg base CX0 5 T.a_law T.d_law ["script"] (SpB K (sp_law K)) := by
  refine T.F_law.ok sc_law (fun vs H Q E h => spB_len h (fun _ => rfl)) (fun cdv A outer s H vs Q E hr h => ⟨_, PSs.nox ((pss_cons (ps_set (i := 1) sc_law.nd rfl (.inl rfl) (pe_call (ok__law_open T) (hr.mono (by decide)) (by rfl) T.g__law_open T.F__law_open.kp (b__law_open T.F__law_open) .nil pass0 (pa_cons (pv 0) pa_nil)))
      (pss_cons (ps_set (i := 2) sc_law.nd rfl (.inl rfl) (pe_call (ok__law_take T) (hr.mono (by decide)) (by rfl) T.g__law_take T.F__law_take.kp (b__law_take T.F__law_take) .nil pass0 (pa_cons (pv 1) (pa_cons pe_int pa_nil))))
      (pss_cons (ps_set (i := 3) sc_law.nd rfl (.inl rfl) (pe_call (ok__law_ends T) (hr.mono (by decide)) (by rfl) T.g__law_ends T.F__law_ends.kp (b__law_ends T.F__law_ends) .nil pass0 (pa_cons (pv 1) (pa_cons (pv 2) pa_nil))))
      (pss_cons (ps_set (i := 4) sc_law.nd rfl (.inr rfl) (pe_call (ok__law_bits T) (hr.mono (by decide)) (by rfl) T.g__law_bits T.F__law_bits.kp (b__law_bits T.F__law_bits) .nil pass0 (pa_cons (pv 1) (pa_cons (pe_op op_mulA pe_int (pe_callB call_len (by rfl) T.z_len (by decide +kernel) (pa_cons (pv 3) pa_nil))) pa_nil))))
      (pss_cons (ps_set (i := 5) sc_law.nd rfl (.inr rfl) (pe_call (ok__law_bits T) (hr.mono (by decide)) (by rfl) T.g__law_bits T.F__law_bits.kp (b__law_bits T.F__law_bits) .nil pass0 (pa_cons (pv 1) (pa_cons (pe_op op_mulA pe_int (pe_callB call_len (by rfl) T.z_len (by decide +kernel) (pa_cons (pv 3) pa_nil))) pa_nil))))
      (pss_cons (ps_set (i := 6) sc_law.nd rfl (.inl rfl) (pe_call (ok__law_take T) (hr.mono (by decide)) (by rfl) T.g__law_take T.F__law_take.kp (b__law_take T.F__law_take) .nil pass0 (pa_cons (pv 1) (pa_cons pe_int pa_nil))))
      (pss_cons (ps_if (pt_cmpR (op_eqD hr.units) (pv 6) pe_int (nomark _))
      (pss_one (ps_set (i := 5) sc_law.nd rfl (.inr rfl) (pe_lc (own := [("bit", 13)]) rfl sc_law.nd (pi_any (pv 4)) (blkOk_by (own := [("bit", 13)]) (N := ["script", "box", "shape", "ends", "first_bits", "second_bits", "relation", "questions", "first", "second", "empty", "due_meet", "due_join", "bit", "k"]) (sc := defScope s_law) (by decide +kernel)) (fun _ _ _ _ _ => (pg_name (i := 13) sc_law.nd rfl (.inl rfl) (.inr rfl))) (fun _ _ _ _ _ => pts_nil) (fun _ _ _ _ _ => (pe_notTK (K := K) rfl (pv 13))))))
      pss_nil)
      (pss_cons (ps_if (pt_cmpR (op_eqD hr.units) (pv 6) pe_int (nomark _))
      (pss_one (ps_set (i := 5) sc_law.nd rfl (.inr rfl) (pe_callTy call_list_of (by rfl) T.z_list (by decide +kernel) (pa_cons (pv 4) pa_nil))))
      pss_nil)
      (pss_cons (ps_set (i := 7) sc_law.nd rfl (.inl rfl) (pe_call (ok__law_questions T) (hr.mono (by decide)) (by rfl) T.g__law_questions T.F__law_questions.kp (b__law_questions T.F__law_questions) .nil pass0 (pa_cons (pv 1) (pa_cons (pv 3) (pa_cons (pv 2) pa_nil)))))
      (pss_cons (ps_set (i := 8) sc_law.nd rfl (.inl rfl) (pe_call (ok__law_form T) (hr.mono (by decide)) (by rfl) T.g__law_form T.F__law_form.kp (b__law_form T.F__law_form) .nil pass0 (pa_cons (pv 3) (pa_cons (pv 4) pa_nil))))
      (pss_cons (ps_set (i := 9) sc_law.nd rfl (.inl rfl) (pe_call (ok__law_form T) (hr.mono (by decide)) (by rfl) T.g__law_form T.F__law_form.kp (b__law_form T.F__law_form) .nil pass0 (pa_cons (pv 3) (pa_cons (pv 5) pa_nil))))
      (pss_cons (ps_if (pt_not (pt_truth (pe_call (ok__law_members T) (hr.mono (by decide)) (by rfl) T.g__law_members T.F__law_members.kp (b__law_members T.F__law_members) .nil pass0 (pa_cons (pv 8) (pa_cons (pv 4) (pa_cons (pv 7) pa_nil)))) (by intro _; rfl)))
      (pss_one (ps_ret pe_bl))
      pss_nil)
      (pss_cons (ps_if (pt_not (pt_truth (pe_call (ok__law_members T) (hr.mono (by decide)) (by rfl) T.g__law_members T.F__law_members.kp (b__law_members T.F__law_members) .nil pass0 (pa_cons (pv 9) (pa_cons (pv 5) (pa_cons (pv 7) pa_nil)))) (by intro _; rfl)))
      (pss_one (ps_ret pe_bl))
      pss_nil)
      (pss_cons (ps_set (i := 10) sc_law.nd rfl (.inl rfl) (pe_call (ok_in_stretches T) (hr.mono (by decide)) (by rfl) T.g_in_stretches T.F_in_stretches.kp (b_in_stretches T.F_in_stretches) .nil passL (pa_cons (pe_lst pa_nil) (pa_cons (pe_ix ix_seq (pe_ix ix_seq (pv 7) (pe_un un_neg pe_int) (fun _ _ => rfl)) pe_int (fun _ _ => rfl)) (pa_cons (pe_ix ix_seq (pe_ix ix_seq (pv 7) (pe_un un_neg pe_int) (fun _ _ => rfl)) pe_int (fun _ _ => rfl)) pa_nil)))))
      (pss_cons (ps_if (PW.pt (pw_or (pt_not (pt_truth (pe_callB call_isi (by rfl) T.z_isinstance (by decide +kernel) (pa_cons (pv 10) (pa_cons (pe_bltn (v := .ty "bool") (by rfl) T.z_bool (by decide +kernel) rfl) pa_nil))) (by intro _; rfl))) (pw_or1 (pt_truth (pv 10) (by intro _; rfl)))))
      (pss_one (ps_ret pe_bl))
      pss_nil)
      (pss_cons (ps_if (PW.pt (pw_or (pt_not (pt_truth (pe_call (ok__law_others T) (hr.mono (by decide)) (by rfl) T.g__law_others T.F__law_others.kp (b__law_others T.F__law_others) .nil pass0 (pa_cons (pv 3) (pa_cons (pv 4) pa_nil))) (by intro _; rfl))) (pw_or1 (pt_not (pt_truth (pe_call (ok__law_others T) (hr.mono (by decide)) (by rfl) T.g__law_others T.F__law_others.kp (b__law_others T.F__law_others) .nil pass0 (pa_cons (pv 3) (pa_cons (pv 5) pa_nil))) (by intro _; rfl))))))
      (pss_one (ps_ret pe_bl))
      pss_nil)
      (pss_cons (ps_set (i := 11) sc_law.nd rfl (.inl rfl) (pe_call (ok__law_form T) (hr.mono (by decide)) (by rfl) T.g__law_form T.F__law_form.kp (b__law_form T.F__law_form) .nil pass0 (pa_cons (pv 3) (pa_cons (pe_lc (own := [("k", 14)]) rfl sc_law.nd (pi_range1 (by rfl) T.z_range (pa_cons (pe_op op_mulA pe_int (pe_callB call_len (by rfl) T.z_len (by decide +kernel) (pa_cons (pv 3) pa_nil))) pa_nil)) (blkOk_by (own := [("k", 14)]) (N := ["script", "box", "shape", "ends", "first_bits", "second_bits", "relation", "questions", "first", "second", "empty", "due_meet", "due_join", "bit", "k"]) (sc := defScope s_law) (by decide +kernel)) (fun _ _ _ _ _ => (pg_name (i := 14) sc_law.nd rfl (.inl rfl) (.inr rfl))) (fun _ _ _ _ _ => pts_nil) (fun _ _ _ _ _ => (pe_and (pe_ix (ix_seqK (K := K) rfl) (pv 4) (pv 14) (fun _ _ => rfl)) (pe_one (pe_ix (ix_seqK (K := K) rfl) (pv 5) (pv 14) (fun _ _ => rfl)))))) pa_nil))))
      (pss_cons (ps_set (i := 12) sc_law.nd rfl (.inl rfl) (pe_call (ok__law_form T) (hr.mono (by decide)) (by rfl) T.g__law_form T.F__law_form.kp (b__law_form T.F__law_form) .nil pass0 (pa_cons (pv 3) (pa_cons (pe_lc (own := [("k", 14)]) rfl sc_law.nd (pi_range1 (by rfl) T.z_range (pa_cons (pe_op op_mulA pe_int (pe_callB call_len (by rfl) T.z_len (by decide +kernel) (pa_cons (pv 3) pa_nil))) pa_nil)) (blkOk_by (own := [("k", 14)]) (N := ["script", "box", "shape", "ends", "first_bits", "second_bits", "relation", "questions", "first", "second", "empty", "due_meet", "due_join", "bit", "k"]) (sc := defScope s_law) (by decide +kernel)) (fun _ _ _ _ _ => (pg_name (i := 14) sc_law.nd rfl (.inl rfl) (.inr rfl))) (fun _ _ _ _ _ => pts_nil) (fun _ _ _ _ _ => (pe_or (pe_ix (ix_seqK (K := K) rfl) (pv 4) (pv 14) (fun _ _ => rfl)) (pe_one (pe_ix (ix_seqK (K := K) rfl) (pv 5) (pv 14) (fun _ _ => rfl)))))) pa_nil))))
      (pss_cons (ps_if (pt_not (pt_truth (pe_call (ok__law_pairs T) (hr.mono (by decide)) (by rfl) T.g__law_pairs T.F__law_pairs.kp (b__law_pairs T.F__law_pairs) .nil pass0 (pa_cons (pv 8) (pa_cons (pv 9) (pa_cons (pv 11) (pa_cons (pv 12) pa_nil))))) (by intro _; rfl)))
      (pss_one (ps_ret pe_bl))
      pss_nil)
      (pss_cons (ps_if (pt_not (pt_truth (pe_call (ok__law_pairs T) (hr.mono (by decide)) (by rfl) T.g__law_pairs T.F__law_pairs.kp (b__law_pairs T.F__law_pairs) .nil pass0 (pa_cons (pv 9) (pa_cons (pv 8) (pa_cons (pv 11) (pa_cons (pv 12) pa_nil))))) (by intro _; rfl)))
      (pss_one (ps_ret pe_bl))
      pss_nil)
      (pss_cons (ps_if (PW.pt (pw_or (pt_not (pt_truth (pe_call (ok__law_alone T) (hr.mono (by decide)) (by rfl) T.g__law_alone T.F__law_alone.kp (b__law_alone T.F__law_alone) .nil pass0 (pa_cons (pv 8) pa_nil)) (by intro _; rfl))) (pw_or1 (pt_not (pt_truth (pe_call (ok__law_alone T) (hr.mono (by decide)) (by rfl) T.g__law_alone T.F__law_alone.kp (b__law_alone T.F__law_alone) .nil pass0 (pa_cons (pv 9) pa_nil)) (by intro _; rfl))))))
      (pss_one (ps_ret pe_bl))
      pss_nil)
      (pss_one (ps_ret (pe_call (ok__law_refusals T) (hr.mono (by decide)) (by rfl) T.g__law_refusals T.F__law_refusals.kp (b__law_refusals T.F__law_refusals) .nil pass0 (pa_cons (pv 1) (pa_cons (pv 8) pa_nil))))))))))))))))))))))))))), ?_⟩)
  refine go_fn (L := ["script", "box", "shape", "ends", "first_bits", "second_bits", "relation", "questions", "first", "second", "empty", "due_meet", "due_join", "bit", "k"]) h (fun b i hp hX => ?_)
  dsimp only [cxOf, L2.Cx.nox, L2.Cx.wish]
  
  show GO K b _ ⟨[some (scrP K i), none, none, none, none, none, none, none, none, none, none, none, none, none, none], []⟩ _
  repeat walk_at "dd"
  
  refine ev_open ?_
  repeat walk_at "dd"
  
  intro x hx
  repeat walk_at "dd"
  
  (refine ev_take ?_; repeat walk_at "bx")
  refine ⟨x, _, _, _, rfl, rfl, hx, by first | decide | omega, fun sh y hy s0 s1 => ?_⟩
  repeat walk_at "dd"
  
  refine ev_ends ?_
  repeat walk_at "dd"
  
  refine ⟨y, sh, _, _, rfl, rfl, hy, fun E y1 hy1 hE hl => ?_⟩
  have hlE : (frL E).length = E.length := frL_len
  have hN := hE.ne
  repeat walk_at "dd"
  
  refine ev_bits ?_
  repeat walk_at "dd"
  
  rw [hlE]
  refine ⟨y1, 2 * E.length, _, _, rfl, rfl, hy1, by omega, fun b1 y2 hy2 hb1 => ?_⟩
  repeat walk_at "dd"
  
  refine ev_bits ?_
  repeat walk_at "dd"
  
  rw [hlE]
  refine ⟨y2, 2 * E.length, _, _, rfl, rfl, hy2, by omega, fun b2 y3 hy3 hb2 => ?_⟩
  repeat walk_at "dd"
  
  (refine ev_take ?_; repeat walk_at "bx")
  refine ⟨y3, _, _, _, rfl, rfl, hy3, by first | decide | omega, fun re y4 hy4 r0 r1 => ?_⟩
  refine gt_name ?_
  show GO K b _ ⟨[some (scrP K i), some (.o 0), some (.d (.int sh)), some (.d (.list (frL E))), some (.d (.list (bL b1))), some (.d (.list (bL b2))), some (.d (.int re)), none, none, none, none, none, none, none, none], [.dK y4.kvs]⟩ _
  refine go_mid (fun s => ∃ (b3 : List Bool) (cs : List C), b3.length = 2 * E.length ∧ s = ⟨[some (scrP K i), some (.o 0), some (.d (.int sh)), some (.d (.list (frL E))), some (.d (.list (bL b1))), some (.d (.list (bL b3))), some (.d (.int re)), none, none, none, none, none, none, none, none], .dK y4.kvs :: cs⟩) ?_ ?_
  · repeat walk_at "dd"
  
    refine ⟨fun z => ?_, fun z => ?_⟩
    · repeat walk_at "dd"
  
      refine ev_nots (bs := b1) (i := 13) (fun Ξ h => ei_anyL (ei_list (ev_var rfl ⟨bL b1, fun _ => True, .inl rfl, trivial, h⟩))) (fun x js Ψ h => fun σ H tv tl Hd ps R Q k => k true H _ Hd ps h R) (fun x js Ψ h => ?_) (by omega) ?_
      · repeat walk_at "dd"
  
        exact h
      repeat walk_at "dd"
  
      exact ⟨b1.map (!·), _, by rw [List.length_map]; exact hb1, rfl⟩
    · repeat walk_at "dd"
  
      exact ⟨b2, [], hb2, rfl⟩
  rintro s2 ⟨b3, cs, hb3, rfl⟩
  refine go_mid (fun s => ∃ (b4 : List Bool) (cs : List C), b4.length = 2 * E.length ∧ s = ⟨[some (scrP K i), some (.o 0), some (.d (.int sh)), some (.d (.list (frL E))), some (.d (.list (bL b1))), some (.d (.list (bL b4))), some (.d (.int re)), none, none, none, none, none, none, none, none], .dK y4.kvs :: cs⟩) ?_ ?_
  · repeat walk_at "dd"
  
    refine ⟨fun z => ?_, fun z => ?_⟩
    · repeat walk_at "dd"
  
      refine vc_list (ds := bL b1) (.inl rfl) ?_
      repeat walk_at "dd"
  
      exact ⟨b1, _, hb1, rfl⟩
    · repeat walk_at "dd"
  
      exact ⟨b3, cs, hb3, rfl⟩
  rintro s2 ⟨b4, cs, hb4, rfl⟩
  have hl100 : E.length ≤ 100 := by omega
  have f1 := fit_form (E := E) hb1
  have f4 := fit_form (E := E) hb4
  repeat walk_at "dd"
  
  refine ev_quest hE hl100 ?_
  repeat walk_at "dd"
  
  refine ⟨y4, sh, _, _, rfl, rfl, hy4, fun qs y5 hy5 hqs hL => ?_⟩
  obtain ⟨q, hq, eq⟩ := quL_last (qs := qs) (by omega)
  have eq : atI (quL qs) (-1) = some (.tuple [.int q.1, .int q.2.1, .int q.2.2]) := eq
  repeat walk_at "dd"
  
  refine ev_form hb1 hl100 ?_
  repeat walk_at "dd"
  
  refine ev_form hb4 hl100 ?_
  repeat walk_at "dd"
  
  refine ev_members hE hl100 hb1 hL ?_
  repeat walk_at "dd"
  
  refine ev_members hE hl100 hb4 hL ?_
  repeat walk_at "dd"
  
  refine ev_in (l := []) (r := false) hE hl100 fit_nil (hL q hq) rfl ?_
  refine ea_cons (ev_lst ?_)
  repeat walk_at "dd"
  
  refine ev_others hE hl100 hb1 ?_
  repeat walk_at "dd"
  
  refine ev_others hE hl100 hb4 ?_
  repeat walk_at "dd"
  
  have ra := and_bits hb1 hb4
  have ro := or_bits hb1 hb4
  have la : ((List.range (2 * E.length)).map fun k => b1.getD k false && b4.getD k false).length = 2 * E.length := by rw [List.length_map, List.length_range]
  have lo : ((List.range (2 * E.length)).map fun k => b1.getD k false || b4.getD k false).length = 2 * E.length := by rw [List.length_map, List.length_range]
  have m1 := meet_form (hb1.trans la.symm) (hb4.trans la.symm) ra
  have m2 := meet_form (hb4.trans la.symm) (hb1.trans la.symm) fun k hk => (ra k hk).trans And.comm
  have j1 := join_form (hb1.trans lo.symm) (hb4.trans lo.symm) ro
  have j2 := join_form (hb4.trans lo.symm) (hb1.trans lo.symm) fun k hk => (ro k hk).trans Or.comm
  refine ev_form (bs := (List.range (2 * E.length)).map fun k => b1.getD k false && b4.getD k false) la hl100 ?_
  repeat walk_at "dd"
  
  refine ev_rngB (i := 14) (n := 2 * E.length) (f := fun k => b1.getD k false && b4.getD k false) (fun Ξ h => ei_r1 ?_) (fun x js Ψ h => fun σ H tv tl Hd ps R Q k => k true H _ Hd ps h R) (fun x js Ψ hx h => ?_) (by omega) ?_
  · repeat walk_at "dd"
  
    rw [hlE]
    refine ⟨by omega, by omega, ?_⟩
    rw [show (2 * (E.length : Int)).toNat = 2 * E.length by omega]
    exact h
  · have g1 := bL_getD hb1 hx
    have g4 := bL_getD hb4 hx
    generalize b1.getD x false = y1 at *
    generalize b4.getD x false = y4 at *
    cases y1 with
    | true =>
      repeat walk_at "dd"
  
      exact h
    | false =>
      repeat walk_at "dd"
  
      exact h
  repeat walk_at "dd"
  
  refine ev_form (bs := (List.range (2 * E.length)).map fun k => b1.getD k false || b4.getD k false) lo hl100 ?_
  repeat walk_at "dd"
  
  refine ev_rngB (i := 14) (n := 2 * E.length) (f := fun k => b1.getD k false || b4.getD k false) (fun Ξ h => ei_r1 ?_) (fun x js Ψ h => fun σ H tv tl Hd ps R Q k => k true H _ Hd ps h R) (fun x js Ψ hx h => ?_) (by omega) ?_
  · repeat walk_at "dd"
  
    rw [hlE]
    refine ⟨by omega, by omega, ?_⟩
    rw [show (2 * (E.length : Int)).toNat = 2 * E.length by omega]
    exact h
  · have g1 := bL_getD hb1 hx
    have g4 := bL_getD hb4 hx
    generalize b1.getD x false = y1 at *
    generalize b4.getD x false = y4 at *
    cases y1 with
    | true =>
      repeat walk_at "dd"
  
      exact h
    | false =>
      repeat walk_at "dd"
  
      exact h
  generalize (List.range (2 * E.length)).map (fun k => b1.getD k false && b4.getD k false) = r1 at *
  generalize (List.range (2 * E.length)).map (fun k => b1.getD k false || b4.getD k false) = r2 at *
  repeat walk_at "dd"
  
  refine ev_pairs hE hl100 f1 f4 m1 j1 ?_
  repeat walk_at "dd"
  
  refine ev_pairs hE hl100 f4 f1 m2 j2 ?_
  repeat walk_at "dd"
  
  refine ev_alone hE hl100 f1 ?_
  repeat walk_at "dd"
  
  refine ev_alone hE hl100 f4 ?_
  repeat walk_at "dd"
  
  refine ev_refusals (E := E) (l := formP b1) ?_
  repeat walk_at "dd"
  
  refine ⟨y5, _, _, rfl, rfl, hy5, fun c => ?_⟩
  rfl
end
end K39
namespace K39
open PySem L2 Dw
def dd_low_cut : He.DefD := ⟨("low_cut", none), "low_cut", "low_cut", defArgs s_low_cut, defBody s_low_cut, defScope s_low_cut, [], []⟩
def dd_high_cut : He.DefD := ⟨("high_cut", none), "high_cut", "high_cut", defArgs s_high_cut, defBody s_high_cut, defScope s_high_cut, [], []⟩
def dd_stretch_of : He.DefD := ⟨("stretch_of", none), "stretch_of", "stretch_of", defArgs s_stretch_of, defBody s_stretch_of, defScope s_stretch_of, [], []⟩
def dd_is_before : He.DefD := ⟨("is_before", none), "is_before", "is_before", defArgs s_is_before, defBody s_is_before, defScope s_is_before, [], []⟩
def dd_lesser_cut : He.DefD := ⟨("lesser_cut", none), "lesser_cut", "lesser_cut", defArgs s_lesser_cut, defBody s_lesser_cut, defScope s_lesser_cut, [], []⟩
def dd_greater_cut : He.DefD := ⟨("greater_cut", none), "greater_cut", "greater_cut", defArgs s_greater_cut, defBody s_greater_cut, defScope s_greater_cut, [], []⟩
def dd_in_stretches : He.DefD := ⟨("in_stretches", none), "in_stretches", "in_stretches", defArgs s_in_stretches, defBody s_in_stretches, defScope s_in_stretches, [], []⟩
def dd_meet_stretches : He.DefD := ⟨("meet_stretches", none), "meet_stretches", "meet_stretches", defArgs s_meet_stretches, defBody s_meet_stretches, defScope s_meet_stretches, [], []⟩
def dd_in_order : He.DefD := ⟨("in_order", none), "in_order", "in_order", defArgs s_in_order, defBody s_in_order, defScope s_in_order, [], []⟩
def dd_join_stretches : He.DefD := ⟨("join_stretches", none), "join_stretches", "join_stretches", defArgs s_join_stretches, defBody s_join_stretches, defScope s_join_stretches, [], []⟩
def dd_other_stretches : He.DefD := ⟨("other_stretches", none), "other_stretches", "other_stretches", defArgs s_other_stretches, defBody s_other_stretches, defScope s_other_stretches, [], []⟩
def dd__law_mixed : He.DefD := ⟨("_law_mixed", none), "_law_mixed", "_law_mixed", defArgs s__law_mixed, defBody s__law_mixed, defScope s__law_mixed, [], []⟩
def dd__law_open : He.DefD := ⟨("_law_open", none), "_law_open", "_law_open", defArgs s__law_open, defBody s__law_open, defScope s__law_open, [], []⟩
def dd__law_take : He.DefD := ⟨("_law_take", none), "_law_take", "_law_take", defArgs s__law_take, defBody s__law_take, defScope s__law_take, [], []⟩
def dd__law_large : He.DefD := ⟨("_law_large", none), "_law_large", "_law_large", defArgs s__law_large, defBody s__law_large, defScope s__law_large, [], []⟩
def dd__law_lowest : He.DefD := ⟨("_law_lowest", none), "_law_lowest", "_law_lowest", defArgs s__law_lowest, defBody s__law_lowest, defScope s__law_lowest, [], []⟩
def dd__law_below : He.DefD := ⟨("_law_below", none), "_law_below", "_law_below", defArgs s__law_below, defBody s__law_below, defScope s__law_below, [], []⟩
def dd__law_with_end : He.DefD := ⟨("_law_with_end", none), "_law_with_end", "_law_with_end", defArgs s__law_with_end, defBody s__law_with_end, defScope s__law_with_end, [], []⟩
def dd__law_ends : He.DefD := ⟨("_law_ends", none), "_law_ends", "_law_ends", defArgs s__law_ends, defBody s__law_ends, defScope s__law_ends, [], []⟩
def dd__law_bits : He.DefD := ⟨("_law_bits", none), "_law_bits", "_law_bits", defArgs s__law_bits, defBody s__law_bits, defScope s__law_bits, [], []⟩
def dd__law_form : He.DefD := ⟨("_law_form", none), "_law_form", "_law_form", defArgs s__law_form, defBody s__law_form, defScope s__law_form, [], []⟩
def dd__law_is_integer : He.DefD := ⟨("_law_is_integer", none), "_law_is_integer", "_law_is_integer", defArgs s__law_is_integer, defBody s__law_is_integer, defScope s__law_is_integer, [], []⟩
def dd__law_same_fraction : He.DefD := ⟨("_law_same_fraction", none), "_law_same_fraction", "_law_same_fraction", defArgs s__law_same_fraction, defBody s__law_same_fraction, defScope s__law_same_fraction, [], []⟩
def dd__law_same : He.DefD := ⟨("_law_same", none), "_law_same", "_law_same", defArgs s__law_same, defBody s__law_same, defScope s__law_same, [], []⟩
def dd__law_questions : He.DefD := ⟨("_law_questions", none), "_law_questions", "_law_questions", defArgs s__law_questions, defBody s__law_questions, defScope s__law_questions, [], []⟩
def dd__law_members : He.DefD := ⟨("_law_members", none), "_law_members", "_law_members", defArgs s__law_members, defBody s__law_members, defScope s__law_members, [], []⟩
def dd__law_refused : He.DefD := ⟨("_law_refused", none), "_law_refused", "_law_refused", defArgs s__law_refused, defBody s__law_refused, defScope s__law_refused, [], []⟩
def dd__law_others : He.DefD := ⟨("_law_others", none), "_law_others", "_law_others", defArgs s__law_others, defBody s__law_others, defScope s__law_others, [], []⟩
def dd__law_pairs : He.DefD := ⟨("_law_pairs", none), "_law_pairs", "_law_pairs", defArgs s__law_pairs, defBody s__law_pairs, defScope s__law_pairs, [], []⟩
def dd__law_alone : He.DefD := ⟨("_law_alone", none), "_law_alone", "_law_alone", defArgs s__law_alone, defBody s__law_alone, defScope s__law_alone, [], []⟩
def dd__law_refusals : He.DefD := ⟨("_law_refusals", none), "_law_refusals", "_law_refusals", defArgs s__law_refusals, defBody s__law_refusals, defScope s__law_refusals, [], []⟩
def dd_law : He.DefD := ⟨("law", none), "law", "law", defArgs s_law, defBody s_law, defScope s_law, [], []⟩
def hfn : List He.DefD := [dd_low_cut, dd_high_cut, dd_stretch_of, dd_is_before, dd_lesser_cut, dd_greater_cut, dd_in_stretches, dd_meet_stretches, dd_in_order, dd_join_stretches, dd_other_stretches, dd__law_mixed, dd__law_open, dd__law_take, dd__law_large, dd__law_lowest, dd__law_below, dd__law_with_end, dd__law_ends, dd__law_bits, dd__law_form, dd__law_is_integer, dd__law_same_fraction, dd__law_same, dd__law_questions, dd__law_members, dd__law_refused, dd__law_others, dd__law_pairs, dd__law_alone, dd__law_refusals, dd_law]
def hfa0 : List He.Fa := [.glo "low_cut", .glo "high_cut", .glo "stretch_of", .glo "is_before", .glo "lesser_cut", .glo "greater_cut", .glo "in_stretches", .glo "meet_stretches", .glo "in_order", .glo "join_stretches", .glo "other_stretches", .glo "_law_mixed", .glo "_law_open", .glo "_law_take", .glo "_law_large", .glo "_law_lowest", .glo "_law_below", .glo "_law_with_end", .glo "_law_ends", .glo "_law_bits"]
def hfa1 : List He.Fa := [.glo "_law_form", .glo "_law_is_integer", .glo "_law_same_fraction", .glo "_law_same", .glo "_law_questions", .glo "_law_members", .glo "_law_refused", .glo "_law_others", .glo "_law_pairs", .glo "_law_alone", .glo "_law_refusals", .glo "law", .glo "FIRST_CUT", .glo "DwellError", .glo "NoRun", .glo "BadValue", .glo "NoStart", .free "ValueError", .free "abs", .free "bool"]
def hfa2 : List He.Fa := [.free "int", .free "isinstance", .free "len", .free "list", .free "range", .free "tuple", .exc "BadValue", .exm "BadValue" "DwellError" true]
def hfa : List He.Fa := hfa0 ++ hfa1 ++ hfa2
def hex (K : PySem.W.Frag) : Bool :=
  He.tupB K "FIRST_CUT" [.int 0, .int 1, .int 0] &&
  (decide (PySem.W.findIn K (.ref (He.ga K "BadValue")) "__getattribute__" = some (some (.builtin "BaseException.__getattribute__"))) &&
  (decide (PySem.W.findIn K (.ref (He.ga K "BadValue")) "__getattr__" = some none) &&
  (PySem.W.hasDictIn K (He.ga K "BadValue") &&
  (decide (PySem.W.findIn K (.ref (He.ga K "BadValue")) "__class__" = some (some (.builtin "object.__class__"))) &&
  (decide (PySem.W.specialIn K (.builtin "object.__class__") "__get__" = some (some (.builtin "getset_descriptor.__get__"))) &&
  (decide (PySem.W.takesIn K (.builtin "object.__class__") = some true) &&
  (decide (PySem.W.mroIn K (He.ga K "BadValue") (.type "object") = some true) &&
  (decide (PySem.W.kitOne K (.ref (He.ga K "BadValue")) (.ref (He.ga K "BadValue")) = some true) &&
  (decide (PySem.W.kitOne K (.ref (He.ga K "BadValue")) (.type "ValueError") = some true) &&
  (decide (PySem.W.kitOne K (.ref (He.ga K "BadValue")) (.ref (He.ga K "NoRun")) = some false) &&
  decide (PySem.W.kitOne K (.ref (He.ga K "BadValue")) (.ref (He.ga K "NoStart")) = some false)))))))))))
theorem mkT {w : World} {K : PySem.W.Frag} {h : Heap} {mg : Str → Option Value} (X : K.In h) (G : h.Ns mainGlobals mg) (c : He.SaysX hfa hfn [] [] hex w h K) : ∃ T : Tx K mg, T.a_law = He.ga K "law" := by
  have d := c.t.d
  obtain ⟨fd_low_cut, F_low_cut⟩ := d.def_ 0 (d := dd_low_cut) rfl
  obtain ⟨fd_high_cut, F_high_cut⟩ := d.def_ 1 (d := dd_high_cut) rfl
  obtain ⟨fd_stretch_of, F_stretch_of⟩ := d.def_ 2 (d := dd_stretch_of) rfl
  obtain ⟨fd_is_before, F_is_before⟩ := d.def_ 3 (d := dd_is_before) rfl
  obtain ⟨fd_lesser_cut, F_lesser_cut⟩ := d.def_ 4 (d := dd_lesser_cut) rfl
  obtain ⟨fd_greater_cut, F_greater_cut⟩ := d.def_ 5 (d := dd_greater_cut) rfl
  obtain ⟨fd_in_stretches, F_in_stretches⟩ := d.def_ 6 (d := dd_in_stretches) rfl
  obtain ⟨fd_meet_stretches, F_meet_stretches⟩ := d.def_ 7 (d := dd_meet_stretches) rfl
  obtain ⟨fd_in_order, F_in_order⟩ := d.def_ 8 (d := dd_in_order) rfl
  obtain ⟨fd_join_stretches, F_join_stretches⟩ := d.def_ 9 (d := dd_join_stretches) rfl
  obtain ⟨fd_other_stretches, F_other_stretches⟩ := d.def_ 10 (d := dd_other_stretches) rfl
  obtain ⟨fd__law_mixed, F__law_mixed⟩ := d.def_ 11 (d := dd__law_mixed) rfl
  obtain ⟨fd__law_open, F__law_open⟩ := d.def_ 12 (d := dd__law_open) rfl
  obtain ⟨fd__law_take, F__law_take⟩ := d.def_ 13 (d := dd__law_take) rfl
  obtain ⟨fd__law_large, F__law_large⟩ := d.def_ 14 (d := dd__law_large) rfl
  obtain ⟨fd__law_lowest, F__law_lowest⟩ := d.def_ 15 (d := dd__law_lowest) rfl
  obtain ⟨fd__law_below, F__law_below⟩ := d.def_ 16 (d := dd__law_below) rfl
  obtain ⟨fd__law_with_end, F__law_with_end⟩ := d.def_ 17 (d := dd__law_with_end) rfl
  obtain ⟨fd__law_ends, F__law_ends⟩ := d.def_ 18 (d := dd__law_ends) rfl
  obtain ⟨fd__law_bits, F__law_bits⟩ := d.def_ 19 (d := dd__law_bits) rfl
  obtain ⟨fd__law_form, F__law_form⟩ := d.def_ 20 (d := dd__law_form) rfl
  obtain ⟨fd__law_is_integer, F__law_is_integer⟩ := d.def_ 21 (d := dd__law_is_integer) rfl
  obtain ⟨fd__law_same_fraction, F__law_same_fraction⟩ := d.def_ 22 (d := dd__law_same_fraction) rfl
  obtain ⟨fd__law_same, F__law_same⟩ := d.def_ 23 (d := dd__law_same) rfl
  obtain ⟨fd__law_questions, F__law_questions⟩ := d.def_ 24 (d := dd__law_questions) rfl
  obtain ⟨fd__law_members, F__law_members⟩ := d.def_ 25 (d := dd__law_members) rfl
  obtain ⟨fd__law_refused, F__law_refused⟩ := d.def_ 26 (d := dd__law_refused) rfl
  obtain ⟨fd__law_others, F__law_others⟩ := d.def_ 27 (d := dd__law_others) rfl
  obtain ⟨fd__law_pairs, F__law_pairs⟩ := d.def_ 28 (d := dd__law_pairs) rfl
  obtain ⟨fd__law_alone, F__law_alone⟩ := d.def_ 29 (d := dd__law_alone) rfl
  obtain ⟨fd__law_refusals, F__law_refusals⟩ := d.def_ 30 (d := dd__law_refusals) rfl
  obtain ⟨fd_law, F_law⟩ := d.def_ 31 (d := dd_law) rfl
  obtain ⟨x1, x2, x3, x4⟩ := He.exc_ok (d.fact 46 (f := .exc "BadValue") rfl)
  have hm : hex K = true := c.more
  unfold hex at hm
  obtain ⟨h1, hm⟩ := He.ba hm
  obtain ⟨h2, hm⟩ := He.ba hm
  obtain ⟨h3, hm⟩ := He.ba hm
  obtain ⟨h4, hm⟩ := He.ba hm
  obtain ⟨h5, hm⟩ := He.ba hm
  obtain ⟨h6, hm⟩ := He.ba hm
  obtain ⟨h7, hm⟩ := He.ba hm
  obtain ⟨h8, hm⟩ := He.ba hm
  obtain ⟨h9, hm⟩ := He.ba hm
  obtain ⟨h10, hm⟩ := He.ba hm
  obtain ⟨h11, h12⟩ := He.ba hm
  exact ⟨{ a_low_cut := _, d_low_cut := fd_low_cut, F_low_cut := F_low_cut, g_low_cut := He.glo_ok X G (d.fact 0 (f := .glo "low_cut") rfl), a_high_cut := _, d_high_cut := fd_high_cut, F_high_cut := F_high_cut, g_high_cut := He.glo_ok X G (d.fact 1 (f := .glo "high_cut") rfl), a_stretch_of := _, d_stretch_of := fd_stretch_of, F_stretch_of := F_stretch_of, g_stretch_of := He.glo_ok X G (d.fact 2 (f := .glo "stretch_of") rfl), a_is_before := _, d_is_before := fd_is_before, F_is_before := F_is_before, g_is_before := He.glo_ok X G (d.fact 3 (f := .glo "is_before") rfl), a_lesser_cut := _, d_lesser_cut := fd_lesser_cut, F_lesser_cut := F_lesser_cut, g_lesser_cut := He.glo_ok X G (d.fact 4 (f := .glo "lesser_cut") rfl), a_greater_cut := _, d_greater_cut := fd_greater_cut, F_greater_cut := F_greater_cut, g_greater_cut := He.glo_ok X G (d.fact 5 (f := .glo "greater_cut") rfl), a_in_stretches := _, d_in_stretches := fd_in_stretches, F_in_stretches := F_in_stretches, g_in_stretches := He.glo_ok X G (d.fact 6 (f := .glo "in_stretches") rfl), a_meet_stretches := _, d_meet_stretches := fd_meet_stretches, F_meet_stretches := F_meet_stretches, g_meet_stretches := He.glo_ok X G (d.fact 7 (f := .glo "meet_stretches") rfl), a_in_order := _, d_in_order := fd_in_order, F_in_order := F_in_order, g_in_order := He.glo_ok X G (d.fact 8 (f := .glo "in_order") rfl), a_join_stretches := _, d_join_stretches := fd_join_stretches, F_join_stretches := F_join_stretches, g_join_stretches := He.glo_ok X G (d.fact 9 (f := .glo "join_stretches") rfl), a_other_stretches := _, d_other_stretches := fd_other_stretches, F_other_stretches := F_other_stretches, g_other_stretches := He.glo_ok X G (d.fact 10 (f := .glo "other_stretches") rfl), a__law_mixed := _, d__law_mixed := fd__law_mixed, F__law_mixed := F__law_mixed, g__law_mixed := He.glo_ok X G (d.fact 11 (f := .glo "_law_mixed") rfl), a__law_open := _, d__law_open := fd__law_open, F__law_open := F__law_open, g__law_open := He.glo_ok X G (d.fact 12 (f := .glo "_law_open") rfl), a__law_take := _, d__law_take := fd__law_take, F__law_take := F__law_take, g__law_take := He.glo_ok X G (d.fact 13 (f := .glo "_law_take") rfl), a__law_large := _, d__law_large := fd__law_large, F__law_large := F__law_large, g__law_large := He.glo_ok X G (d.fact 14 (f := .glo "_law_large") rfl), a__law_lowest := _, d__law_lowest := fd__law_lowest, F__law_lowest := F__law_lowest, g__law_lowest := He.glo_ok X G (d.fact 15 (f := .glo "_law_lowest") rfl), a__law_below := _, d__law_below := fd__law_below, F__law_below := F__law_below, g__law_below := He.glo_ok X G (d.fact 16 (f := .glo "_law_below") rfl), a__law_with_end := _, d__law_with_end := fd__law_with_end, F__law_with_end := F__law_with_end, g__law_with_end := He.glo_ok X G (d.fact 17 (f := .glo "_law_with_end") rfl), a__law_ends := _, d__law_ends := fd__law_ends, F__law_ends := F__law_ends, g__law_ends := He.glo_ok X G (d.fact 18 (f := .glo "_law_ends") rfl), a__law_bits := _, d__law_bits := fd__law_bits, F__law_bits := F__law_bits, g__law_bits := He.glo_ok X G (d.fact 19 (f := .glo "_law_bits") rfl), a__law_form := _, d__law_form := fd__law_form, F__law_form := F__law_form, g__law_form := He.glo_ok X G (d.fact 20 (f := .glo "_law_form") rfl), a__law_is_integer := _, d__law_is_integer := fd__law_is_integer, F__law_is_integer := F__law_is_integer, g__law_is_integer := He.glo_ok X G (d.fact 21 (f := .glo "_law_is_integer") rfl), a__law_same_fraction := _, d__law_same_fraction := fd__law_same_fraction, F__law_same_fraction := F__law_same_fraction, g__law_same_fraction := He.glo_ok X G (d.fact 22 (f := .glo "_law_same_fraction") rfl), a__law_same := _, d__law_same := fd__law_same, F__law_same := F__law_same, g__law_same := He.glo_ok X G (d.fact 23 (f := .glo "_law_same") rfl), a__law_questions := _, d__law_questions := fd__law_questions, F__law_questions := F__law_questions, g__law_questions := He.glo_ok X G (d.fact 24 (f := .glo "_law_questions") rfl), a__law_members := _, d__law_members := fd__law_members, F__law_members := F__law_members, g__law_members := He.glo_ok X G (d.fact 25 (f := .glo "_law_members") rfl), a__law_refused := _, d__law_refused := fd__law_refused, F__law_refused := F__law_refused, g__law_refused := He.glo_ok X G (d.fact 26 (f := .glo "_law_refused") rfl), a__law_others := _, d__law_others := fd__law_others, F__law_others := F__law_others, g__law_others := He.glo_ok X G (d.fact 27 (f := .glo "_law_others") rfl), a__law_pairs := _, d__law_pairs := fd__law_pairs, F__law_pairs := F__law_pairs, g__law_pairs := He.glo_ok X G (d.fact 28 (f := .glo "_law_pairs") rfl), a__law_alone := _, d__law_alone := fd__law_alone, F__law_alone := F__law_alone, g__law_alone := He.glo_ok X G (d.fact 29 (f := .glo "_law_alone") rfl), a__law_refusals := _, d__law_refusals := fd__law_refusals, F__law_refusals := F__law_refusals, g__law_refusals := He.glo_ok X G (d.fact 30 (f := .glo "_law_refusals") rfl), a_law := _, d_law := fd_law, F_law := F_law, g_law := He.glo_ok X G (d.fact 31 (f := .glo "law") rfl), z_ValueError := He.free_ok X G (d.fact 37 (f := .free "ValueError") rfl), z_abs := He.free_ok X G (d.fact 38 (f := .free "abs") rfl), z_bool := He.free_ok X G (d.fact 39 (f := .free "bool") rfl), z_int := He.free_ok X G (d.fact 40 (f := .free "int") rfl), z_isinstance := He.free_ok X G (d.fact 41 (f := .free "isinstance") rfl), z_len := He.free_ok X G (d.fact 42 (f := .free "len") rfl), z_list := He.free_ok X G (d.fact 43 (f := .free "list") rfl), z_range := He.free_ok X G (d.fact 44 (f := .free "range") rfl), z_tuple := He.free_ok X G (d.fact 45 (f := .free "tuple") rfl), c_DwellError := _, gc_DwellError := He.glo_ok X G (d.fact 33 (f := .glo "DwellError") rfl), c_NoRun := _, gc_NoRun := He.glo_ok X G (d.fact 34 (f := .glo "NoRun") rfl), c_BadValue := _, gc_BadValue := He.glo_ok X G (d.fact 35 (f := .glo "BadValue") rfl), c_NoStart := _, gc_NoStart := He.glo_ok X G (d.fact 36 (f := .glo "NoStart") rfl), u_FIRST_CUT := _, x_FIRST_CUT := .ref (He.ga K "FIRST_CUT"), g_FIRST_CUT := He.glo_ok X G (d.fact 32 (f := .glo "FIRST_CUT") rfl), r_FIRST_CUT := rfl, f_FIRST_CUT := fun H => .tup (He.tupB_ok h1 H) (.cons (.int 0) (.cons (.int 1) (.cons (.int 0) .nil))), x_BadValue := x1, kc_BadValue := x2, bc_BadValue := x3, tc_BadValue := x4, em_BadValue := He.exm_ok (d.fact 47 (f := .exm "BadValue" "DwellError" true) rfl), ec_BadValue := ⟨of_decide_eq_true h2, of_decide_eq_true h3, x3, h4, of_decide_eq_true h5, of_decide_eq_true h6, of_decide_eq_true h7, of_decide_eq_true h8⟩, k1_BadValue := of_decide_eq_true h9, k2_BadValue := of_decide_eq_true h10, k3_BadValue := of_decide_eq_true h11, k4_BadValue := of_decide_eq_true h12 }, rfl⟩
theorem lawP {K : PySem.W.Frag} (H : Hp) (a : Addr) (ns : List Int) (hS : SqL K H a (ns.map V.int)) : SpB K (sp_law K) [.ref a] H (fun v _ => v = .bl true) fun _ _ _ => False := by
  refine ⟨H, [], ns, fun _ _ e => e, .nil, rfl, fun p hp => by simp at hp, fun k cc p hk hp => by simp at hp, .cons ⟨a, rfl, hS⟩ .nil, trivial, fun r os' hr v Hd' H' _ hv => ?_, fun x os' hx => (show False from hx).elim⟩
  rw [show r = .val (.bool true) from hr] at hv
  cases (show Dr K Hd' v (.bool true) from hv)
  rfl
abbrev R : PySem.W.OpenRow := PySem.W.OpenLaw.row PySem.Challenge.rw_dwellhouse_k39_stretch_sets
abbrev hk : PySem.W.Hook := He.hookX 4 hfa hfn [] [] hex
def ob (s : PySem.W.SharedT) : He.AlX := He.obsX 4 hfa hfn [] [] hex (HandSHeadRun.getT s)
theorem ob_eq (s : PySem.W.SharedT) : ob s = hk.obs s.abs := He.obsX_eq (HandSHeadRun.getT_eq s)
def loose0 : List Str := ["DwellError", "NoRun", "BadValue", "NoStart", "FIRST_CUT", "low_cut", "high_cut", "stretch_of", "is_before", "lesser_cut", "greater_cut", "in_stretches"]
def loose1 : List Str := ["meet_stretches", "in_order", "join_stretches", "other_stretches", "_law_mixed", "_law_open", "_law_take", "_law_large", "_law_lowest", "_law_below", "_law_with_end", "_law_ends"]
def loose2 : List Str := ["_law_bits", "_law_form", "_law_is_integer", "_law_same_fraction", "_law_same", "_law_questions", "_law_members", "_law_refused", "_law_others", "_law_pairs", "_law_alone", "_law_refusals"]
def loose : List Str := loose0 ++ loose1 ++ loose2
theorem run (w : World) : HandSHeadRun.RunEq R (PySem.W.view R.prog [39]) hk ob 2000 loose w := by
  intro os
  kernel_rfl
end K39
open PySem PySem.W PySem.Calls PyProof.Rows
theorem PySem.Challenge.cw_dwellhouse_k39_stretch_sets_holds : PySem.Challenge.rw_dwellhouse_k39_stretch_sets.Holds := by
  w_on; o_law
  refine HandSHeadRun.head_any (r := OpenLaw.row PySem.Challenge.rw_dwellhouse_k39_stretch_sets) (q := view (OpenLaw.row PySem.Challenge.rw_dwellhouse_k39_stretch_sets).prog [39]) (H := K39.hk) (ob := K39.ob) (M := 2000) (loose := K39.loose) (d := HandSHeadRun.topDef (OpenLaw.row PySem.Challenge.rw_dwellhouse_k39_stretch_sets).prog 39) (kwd := []) K39.ob_eq
    (by kernel_rfl) (fun s => by kernel_rfl) K39.run (by kernel_rfl) (by kernel_rfl) (by kernel_rfl) (by rfl) (by first | assumption | decide +kernel) (by decide +kernel) ⟨rfl, rfl, rfl, rfl, rfl, by decide +kernel⟩ ?hw ?hc
  case hw => w_witness2
  case hc =>
    refine L2.walk_ofE (l := PySem.Challenge.rw_dwellhouse_k39_stretch_sets) (n := 63) (k := 5) (x := "script") (CX := L2.CX0) rfl (by decide) (by kernel_rfl) ⟨rfl, by decide, by decide⟩ ?F (fun _ _ _ _ z => z)
    intro w mg fa h Y G hmg0
    obtain ⟨K, KX, c⟩ := Y
    have hmg : mg ("law" : PySem.Str) = some (.ref fa) := by
      have e : (HandSHeadRun.topDef (OpenLaw.row PySem.Challenge.rw_dwellhouse_k39_stretch_sets).prog 39).name = ("law" : PySem.Str) := by kernel_rfl
      rw [← e]
      exact hmg0
    obtain ⟨T, hT⟩ := K39.mkT KX G c
    have e := hmg.symm.trans T.g_law
    cases e
    have b := L2.FunD.bindsA (ps := ["script"]) T.F_law fun _ _ _ _ _ _ us hl => match us, hl with | [_], _ => rfl
    exact ⟨K, T.d_law, Dw.SpB K (K39.sp_law K), KX, fun s v => b s [v] rfl, fun H a ns hl _ hS => K39.lawP H a ns hS, fun base _ _ => K39.ok_law T⟩
