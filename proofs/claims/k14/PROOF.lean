import PyProof.Rows.All
import HandS.CallSlots
import HandS.ClsMeth
import HandS.Conv
import HandS.Deep
import HandS.Defaults
import HandS.DictComp
import HandS.EndBits
import HandS.Exc
import HandS.ExcField
import HandS.ExcInit
import HandS.ExcIs
import HandS.ExcOwn
import HandS.ExcSuper
import HandS.FStr
import HandS.Flow
import HandS.ForMost
import HandS.Gcd
import HandS.Head0
import HandS.Head1
import HandS.Head2
import HandS.Head3
import HandS.HeadEnd
import HandS.HeadHook1
import HandS.HeadHook2
import HandS.HeadHook3
import HandS.HeadHook4
import HandS.HeadWalk
import HandS.HotCalls
import HandS.IsInst
import HandS.MakeKw
import HandS.MakeKwOnly
import HandS.More
import HandS.RaiseMore
import HandS.Rev
import HandS.RevTup
import HandS.Style
import HandS.Text
import HandS.TryMany
import HandS.TryOnly
import HandS.TupAny
import HandS.Wide
import HandS.WordsExc
import HandS.Zip
import KE.DataMinMax
import KE.GoesMore
import KE.GoesZip
import KE.KExcIs
import KE.KExcSuper
import KE.KSuper
import KE.SortData
import OpenK.AllK
import PyProof.EnumMake
import PyProof.ListNew
import PyProof.Rows.StrMeet
import PyProof.StrOps2
import PySem.Challenge.RW_dwellhouse_k14_path_limits
import Wide.All
import Wide.FinOn
set_option Elab.async false
set_option linter.all false
set_option maxRecDepth 100000
set_option maxHeartbeats 4000000
namespace Dw
open PySem L2

/-! ### data that stays -/
mutual
inductive Dr (K : PySem.W.Frag) (H : Hp) : V → PyData → Prop
  | non : Dr K H .non .none
  | bl (b : Bool) : Dr K H (.bl b) (.bool b)
  | int (i : Int) : Dr K H (.int i) (.int i)
  | str (x : Str) : Dr K H (.str x) (.str x)
  | lst {a : Addr} {xs : List V} {ds : List PyData} : H a = some (.lst xs) → DrA K H xs ds → Dr K H (.ref a) (.list ds)
  | tup {a : Addr} {xs : List V} {ds : List PyData} : SqT K H a xs → DrA K H xs ds → Dr K H (.ref a) (.tuple ds)
inductive DrA (K : PySem.W.Frag) (H : Hp) : List V → List PyData → Prop
  | nil : DrA K H [] []
  | cons {v : V} {vs : List V} {d : PyData} {ds : List PyData} : Dr K H v d → DrA K H vs ds → DrA K H (v :: vs) (d :: ds)
end
section
variable {K : PySem.W.Frag} {H H' : Hp}
mutual
theorem Dr.dp : ∀ (d : PyData) (v : V), Dr K H v d → Dp K H v d
  | .none, _, h => by cases h; exact .non
  | .bool b, _, h => by cases h; exact .bl b
  | .int i, _, h => by cases h; exact .int i
  | .str x, _, h => by cases h; exact .str x
  | .list ds, _, h => by
    cases h with
    | lst hs ha => exact .lst (.inl (.inl hs)) (DrA.dp ds _ ha)
  | .tuple ds, _, h => by
    cases h with
    | tup hs ha => exact .tup hs (DrA.dp ds _ ha)
  | .dict _, _, h => by cases h
theorem DrA.dp : ∀ (ds : List PyData) (vs : List V), DrA K H vs ds → DpAll K H vs ds
  | [], _, h => by cases h; exact .nil
  | d :: ds, _, h => by
    cases h with
    | cons h1 h2 => exact .cons (Dr.dp d _ h1) (DrA.dp ds _ h2)
end
theorem rd_up (e : Same H H') {a : Addr} {u : HO} (h : Rd H a u) : Rd H' a u := by
  rcases h with h | ⟨o, h⟩
  · exact .inl (e _ _ h)
  · exact .inr ⟨o, e _ _ h⟩
theorem sl_up (e : Same H H') {a : Addr} {xs : List V} (h : SqL K H a xs) : SqL K H' a xs := by
  rcases h with h | h
  · exact .inl (rd_up e h)
  · exact .inr h
theorem st_up (e : Same H H') {a : Addr} {xs : List V} (h : SqT K H a xs) : SqT K H' a xs := by
  rcases h with h | h
  · exact .inl (rd_up e h)
  · exact .inr h
mutual
theorem dp_up (e : Same H H') : ∀ (d : PyData) (v : V), Dr K H v d → Dr K H' v d
  | .none, _, h => by cases h; exact .non
  | .bool b, _, h => by cases h; exact .bl b
  | .int i, _, h => by cases h; exact .int i
  | .str x, _, h => by cases h; exact .str x
  | .list ds, _, h => by
    cases h with
    | lst hs ha => exact .lst (e _ _ hs) (da_up e ds _ ha)
  | .tuple ds, _, h => by
    cases h with
    | tup hs ha => exact .tup (st_up e hs) (da_up e ds _ ha)
  | .dict _, _, h => by cases h
theorem da_up (e : Same H H') : ∀ (ds : List PyData) (vs : List V), DrA K H vs ds → DrA K H' vs ds
  | [], _, h => by cases h; exact .nil
  | d :: ds, _, h => by
    cases h with
    | cons h1 h2 => exact .cons (dp_up e d _ h1) (da_up e ds _ h2)
end
theorem da_paired : ∀ {vs : List V} {ds : List PyData}, DrA K H vs ds → Paired (Dr K H) vs ds
  | _, _, .nil => .nil
  | _, _, .cons h t => .cons h (da_paired t)
theorem paired_da : ∀ {vs : List V} {ds : List PyData}, Paired (Dr K H) vs ds → DrA K H vs ds
  | _, _, .nil => .nil
  | _, _, .cons h t => .cons h (paired_da t)
theorem pair_get {α β : Type} {G : α → β → Prop} : ∀ {xs : List α} {ys : List β} {i : Nat} {y : β}, Paired G xs ys → ys[i]? = some y → ∃ x, xs[i]? = some x ∧ G x y
  | _, _, _, _, .nil, e => by simp at e
  | _, _, 0, _, .cons r _, e => by simp at e; subst e; exact ⟨_, rfl, r⟩
  | _, _, i + 1, y, .cons _ t, e => by
    obtain ⟨u, h1, h2⟩ := pair_get (i := i) (y := y) t (by simpa using e)
    exact ⟨u, by simpa using h1, h2⟩
theorem pair_getL {α β : Type} {G : α → β → Prop} : ∀ {xs : List α} {ys : List β} {i : Nat} {x : α}, Paired G xs ys → xs[i]? = some x → ∃ y, ys[i]? = some y ∧ G x y
  | _, _, _, _, .nil, e => by simp at e
  | _, _, 0, _, .cons r _, e => by simp at e; subst e; exact ⟨_, rfl, r⟩
  | _, _, i + 1, y, .cons _ t, e => by
    obtain ⟨u, h1, h2⟩ := pair_getL (i := i) (x := y) t (by simpa using e)
    exact ⟨u, by simpa using h1, h2⟩
theorem pair_len {α β : Type} {G : α → β → Prop} {xs : List α} {ys : List β} (h : Paired G xs ys) : xs.length = ys.length := Paired.length h
theorem pair_app {α β : Type} {G : α → β → Prop} : ∀ {xs xs' : List α} {ys ys' : List β}, Paired G xs ys → Paired G xs' ys' → Paired G (xs ++ xs') (ys ++ ys')
  | _, _, _, _, .nil, q => q
  | _, _, _, _, .cons h t, q => .cons h (pair_app t q)
theorem pair_set {α β : Type} {G : α → β → Prop} {x : α} {y : β} (r : G x y) : ∀ {xs : List α} {ys : List β} (i : Nat), Paired G xs ys → Paired G (xs.set i x) (ys.set i y)
  | _, _, _, .nil => .nil
  | _, _, 0, .cons _ t => .cons r t
  | _, _, i + 1, .cons q t => .cons q (pair_set r i t)
theorem pair_take {α β : Type} {G : α → β → Prop} : ∀ {xs : List α} {ys : List β} (n : Nat), Paired G xs ys → Paired G (xs.take n) (ys.take n)
  | _, _, 0, _ => .nil
  | _, _, _ + 1, .nil => .nil
  | _, _, n + 1, .cons r t => .cons r (pair_take n t)
theorem pair_drop {α β : Type} {G : α → β → Prop} : ∀ {xs : List α} {ys : List β} (n : Nat), Paired G xs ys → Paired G (xs.drop n) (ys.drop n)
  | _, _, 0, r => r
  | _, _, _ + 1, .nil => .nil
  | _, _, n + 1, .cons _ t => pair_drop n t
theorem pair_split {α β : Type} {G : α → β → Prop} : ∀ {xs xs' : List α} {ys ys' : List β}, xs.length = ys.length → Paired G (xs ++ xs') (ys ++ ys') → Paired G xs ys ∧ Paired G xs' ys'
  | [], _, [], _, _, q => ⟨.nil, q⟩
  | x :: xs, _, y :: ys, _, hl, .cons h t => by
    obtain ⟨a, b⟩ := pair_split (xs := xs) (ys := ys) (by simpa using hl) t
    exact ⟨.cons h a, b⟩
theorem pair_mono {α β : Type} {G G' : α → β → Prop} (m : ∀ a b, G a b → G' a b) : ∀ {xs : List α} {ys : List β}, Paired G xs ys → Paired G' xs ys
  | _, _, .nil => .nil
  | _, _, .cons h t => .cons (m _ _ h) (pair_mono m t)
end

/-! ### the abstract state -/
inductive A where
  | d (x : PyData)
  | o (k : Nat)
  | p (φ : Hp → V → Prop) (m : ∀ H H' v, Same H H' → φ H v → φ H' v)
  | t (xs : List A)
inductive C where
  | dead
  | lst (xs : List PyData)
  | dK (kvs : List (Key × PyData))
  | ins (cl : Addr) (fs : List (Str × PyData))
  | la (xs : List A)
structure S where
  ss : List (Option A)
  os : List C
/-- where a body stands: the data and the frame at its entry, its arguments' own cells -/
structure B where
  D0 : Hp
  F : Hp
  ps0 : List Addr

mutual
/-- no own cell in it -/
def noA : A → Bool
  | .o _ => false
  | .d _ => true
  | .p _ _ => true
  | .t xs => noO xs
def noO : List A → Bool
  | [] => true
  | a :: l => noA a && noO l
end
theorem noO_ok {as : List A} (h : noO as = true) : ∀ a, a ∈ as → noA a = true := by
  induction as with
  | nil => exact fun _ ha => nomatch ha
  | cons a l ih =>
    have h : (noA a && noO l) = true := h
    obtain ⟨h1, h2⟩ := Bool.and_eq_true_iff.mp h
    intro x hx
    rcases List.mem_cons.mp hx with e | hx
    · rw [e]; exact h1
    · exact ih h2 x hx
/-- a cell as it stands alone -/
@[reducible] def flt : C → C
  | .la xs => if noO xs then .la xs else .dead
  | .dead => .dead
  | .lst xs => .lst xs
  | .dK kvs => .dK kvs
  | .ins cl fs => .ins cl fs
mutual
def AR' (K : PySem.W.Frag) (Hd : Hp) (ps : List Addr) : A → V → Prop
  | .d x, v => Dr K Hd v x
  | .o k, v => ∃ p, ps[k]? = some p ∧ v = .ref p
  | .p φ _, v => φ Hd v
  | .t xs, v => ∃ a vs, v = .ref a ∧ SqT K Hd a vs ∧ ARs' K Hd ps xs vs
def ARs' (K : PySem.W.Frag) (Hd : Hp) (ps : List Addr) : List A → List V → Prop
  | [], vs => vs = []
  | x :: xs, vs => ∃ v ws, vs = v :: ws ∧ AR' K Hd ps x v ∧ ARs' K Hd ps xs ws
end
@[reducible] def AR (K : PySem.W.Frag) (Hd : Hp) (ps : List Addr) (v : V) (a : A) : Prop := AR' K Hd ps a v
theorem ars_pair {K : PySem.W.Frag} {Hd : Hp} {ps : List Addr} : ∀ {xs : List A} {vs : List V}, ARs' K Hd ps xs vs → Paired (AR K Hd ps) vs xs
  | [], _, h => by cases (show _ = [] from h); exact .nil
  | x :: xs, _, h => by
    obtain ⟨v, ws, rfl, h1, h2⟩ := (show ∃ v ws, _ = v :: ws ∧ AR' K Hd ps x v ∧ ARs' K Hd ps xs ws from h)
    exact .cons h1 (ars_pair h2)
theorem pair_ars {K : PySem.W.Frag} {Hd : Hp} {ps : List Addr} {xs : List A} {vs : List V} (h : Paired (AR K Hd ps) vs xs) : ARs' K Hd ps xs vs := by
  induction h with
  | nil => exact rfl
  | cons h1 _ ih => exact ⟨_, _, rfl, h1, ih⟩
def CRp (K : PySem.W.Frag) (Hd : Hp) (ps : List Addr) (H : Hp) (p : Addr) : C → Prop
  | .dead => True
  | .lst xs => Hd p = none ∧ ∃ vs, H p = some (.lst vs) ∧ DrA K Hd vs xs
  | .dK kvs => Hd p = none ∧ ∃ ws : List (Key × V), H p = some (.dK ws) ∧ Paired (fun a b => a.1 = b.1 ∧ Dr K Hd a.2 b.2) ws kvs
  | .ins cl fs => Hd p = none ∧ ∃ (dx : Addr) (ws : List (Str × V)), H p = some (.ins cl dx ws) ∧ Paired (fun a b => a.1 = b.1 ∧ Dr K Hd a.2 b.2) ws fs
  | .la xs => Hd p = none ∧ ∃ vs, H p = some (.lst vs) ∧ Paired (AR K Hd ps) vs xs

structure Rp (K : PySem.W.Frag) (b : B) (s : S) (σ : St) (H : Hp) (tv : List V) (ta : List A) (Hd : Hp) (ps : List Addr) : Prop where
  e0 : Same b.D0 Hd
  e1 : Same Hd H
  e2 : Same b.F H
  nw : ∀ a, b.F a ≠ none → b.D0 a = none → Hd a = none
  pl : ps.length = s.os.length
  nd : ps.Nodup
  p0 : ∃ more, ps = b.ps0 ++ more
  fr : ∀ p, p ∈ ps → b.F p = none
  ex : ∀ p, p ∈ ps → H p ≠ none
  cl : ∀ (k : Nat) cc p, s.os[k]? = some cc → ps[k]? = some p → CRp K Hd ps H p cc
  sl : ∀ (i : Nat) a, s.ss[i]? = some (some a) → ∃ v, σ[i]? = some (some v) ∧ AR K Hd ps v a
  ln : σ.length = s.ss.length
  tm : Paired (AR K Hd ps) tv ta

section
variable {b : B} {s : S} {σ : St} {H H' Hd Hd' : Hp} {tv : List V} {ta : List A} {ps : List Addr} {K : PySem.W.Frag}
mutual
theorem ar_up' (e : Same Hd Hd') : ∀ (a : A) (v : V), AR' K Hd ps a v → AR' K Hd' ps a v
  | .d x, v, h => dp_up e x v h
  | .o _, _, h => h
  | .p _ m, _, h => m _ _ _ e h
  | .t xs, _, ⟨a, vs, h1, h2, h3⟩ => ⟨a, vs, h1, st_up e h2, ars_up' e xs vs h3⟩
theorem ars_up' (e : Same Hd Hd') : ∀ (as : List A) (vs : List V), ARs' K Hd ps as vs → ARs' K Hd' ps as vs
  | [], _, h => h
  | x :: xs, _, ⟨v, ws, h1, h2, h3⟩ => ⟨v, ws, h1, ar_up' e x v h2, ars_up' e xs ws h3⟩
end
theorem ar_up (e : Same Hd Hd') {v : V} {a : A} (h : AR K Hd ps v a) : AR K Hd' ps v a := ar_up' e a v h
mutual
theorem ar_more' {more : List Addr} : ∀ (a : A) (v : V), AR' K Hd ps a v → AR' K Hd (ps ++ more) a v
  | .d _, _, h => h
  | .o _, _, h => by
    obtain ⟨p, e, r⟩ := h
    exact ⟨p, by rw [List.getElem?_append_left (List.getElem?_eq_some_iff.mp e).1]; exact e, r⟩
  | .p _ _, _, h => h
  | .t xs, _, ⟨a, vs, h1, h2, h3⟩ => ⟨a, vs, h1, h2, ars_more' xs vs h3⟩
theorem ars_more' {more : List Addr} : ∀ (as : List A) (vs : List V), ARs' K Hd ps as vs → ARs' K Hd (ps ++ more) as vs
  | [], _, h => h
  | x :: xs, _, ⟨v, ws, h1, h2, h3⟩ => ⟨v, ws, h1, ar_more' x v h2, ars_more' xs ws h3⟩
end
theorem ar_more {more : List Addr} {v : V} {a : A} (h : AR K Hd ps v a) : AR K Hd (ps ++ more) v a := ar_more' a v h
mutual
theorem ar_any' {ps' : List Addr} : ∀ (a : A) (v : V), noA a = true → AR' K Hd ps a v → AR' K Hd ps' a v
  | .d _, _, _, h => h
  | .o _, _, n, _ => nomatch (show false = true from n)
  | .p _ _, _, _, h => h
  | .t xs, _, n, ⟨a, vs, h1, h2, h3⟩ => ⟨a, vs, h1, h2, ars_any' xs vs n h3⟩
theorem ars_any' {ps' : List Addr} : ∀ (as : List A) (vs : List V), noO as = true → ARs' K Hd ps as vs → ARs' K Hd ps' as vs
  | [], _, _, h => h
  | x :: xs, _, n, ⟨v, ws, h1, h2, h3⟩ =>
    have n : (noA x && noO xs) = true := n
    ⟨v, ws, h1, ar_any' x v (Bool.and_eq_true_iff.mp n).1 h2, ars_any' xs ws (Bool.and_eq_true_iff.mp n).2 h3⟩
end
theorem cr_up (e : Same Hd Hd') {p : Addr} : ∀ {c : C}, CRp K Hd ps H p c → (Hd p = none → Hd' p = none) → (Hd p = none → ∀ o, H p = some o → H' p = some o) → CRp K Hd' ps H' p c
  | .dead, _, _, _ => trivial
  | .lst xs, ⟨n, vs, hp, ha⟩, h1, h2 => ⟨h1 n, vs, h2 n _ hp, da_up e xs vs ha⟩
  | .dK kvs, ⟨n, ws, hp, ha⟩, h1, h2 => ⟨h1 n, ws, h2 n _ hp, pair_mono (fun a c q => ⟨q.1, dp_up e _ _ q.2⟩) ha⟩
  | .ins cl fs, ⟨n, dx, ws, hp, ha⟩, h1, h2 => ⟨h1 n, dx, ws, h2 n _ hp, pair_mono (fun a c q => ⟨q.1, dp_up e _ _ q.2⟩) ha⟩
  | .la xs, ⟨n, vs, hp, ha⟩, h1, h2 => ⟨h1 n, vs, h2 n _ hp, pair_mono (fun _ _ q => ar_up e q) ha⟩
theorem cr_more {more : List Addr} {p : Addr} : ∀ {c : C}, CRp K Hd ps H p c → CRp K Hd (ps ++ more) H p c
  | .dead, _ => trivial
  | .lst _, h => h
  | .dK _, h => h
  | .ins _ _, h => h
  | .la _, ⟨n, vs, hp, ha⟩ => ⟨n, vs, hp, pair_mono (fun _ _ q => ar_more q) ha⟩
theorem ars_any {ps' : List Addr} {vs : List V} {as : List A} (hn : noO as = true) (h : Paired (AR K Hd ps) vs as) : Paired (AR K Hd ps') vs as := ars_pair (ars_any' as vs hn (pair_ars h))
theorem cr_flt {ps' : List Addr} {p : Addr} : ∀ {c : C}, CRp K Hd ps H p c → CRp K Hd ps' H p (flt c)
  | .dead, _ => trivial
  | .lst _, h => h
  | .dK _, h => h
  | .ins _ _, h => h
  | .la xs, ⟨n, vs, hp, ha⟩ => by
    show CRp K Hd ps' H p (if noO xs then .la xs else .dead)
    by_cases z : noO xs = true
    · rw [if_pos z]
      exact ⟨n, vs, hp, ars_any z ha⟩
    · rw [if_neg z]
      trivial

/-- the heap has grown, no cell has changed -/
theorem Rp.ext (r : Rp K b s σ H tv ta Hd ps) (h1 : Same Hd Hd') (h2 : Same Hd' H') (h3 : Same H H') (h4 : ∀ a, H a ≠ none → Hd a = none → Hd' a = none) : Rp K b s σ H' tv ta Hd' ps where
  e0 := r.e0.trans h1
  e1 := h2
  e2 := r.e2.trans h3
  nw := fun a ha hd => by
    have hH : H a ≠ none := by
      intro z
      apply ha
      cases q : b.F a with
      | none => rfl
      | some o => rw [r.e2 a o q] at z; cases z
    exact h4 a hH (r.nw a ha hd)
  pl := r.pl
  nd := r.nd
  p0 := r.p0
  fr := r.fr
  ex := fun p hp z => by
    have q := r.ex p hp
    cases e : H p with
    | none => exact q e
    | some o => rw [h3 p o e] at z; cases z
  cl := fun k cc p hk hp => by
    have q := r.cl k cc p hk hp
    cases cc with
    | dead => trivial
    | lst xs =>
      obtain ⟨n, vs, hv, ha⟩ := q
      exact ⟨h4 p (by rw [hv]; exact fun z => nomatch z) n, vs, h3 _ _ hv, da_up h1 xs vs ha⟩
    | dK kvs =>
      obtain ⟨n, ws, hv, ha⟩ := q
      exact ⟨h4 p (by rw [hv]; exact fun z => nomatch z) n, ws, h3 _ _ hv, pair_mono (fun a c q => ⟨q.1, dp_up h1 _ _ q.2⟩) ha⟩
    | ins cl fs =>
      obtain ⟨n, dx, ws, hv, ha⟩ := q
      exact ⟨h4 p (by rw [hv]; exact fun z => nomatch z) n, dx, ws, h3 _ _ hv, pair_mono (fun a c q => ⟨q.1, dp_up h1 _ _ q.2⟩) ha⟩
    | la xs =>
      obtain ⟨n, vs, hv, ha⟩ := q
      exact ⟨h4 p (by rw [hv]; exact fun z => nomatch z) n, vs, h3 _ _ hv, pair_mono (fun _ _ q => ar_up h1 q) ha⟩
  sl := fun i a hi => by
    obtain ⟨v, hv, ha⟩ := r.sl i a hi
    exact ⟨v, hv, ar_up h1 ha⟩
  ln := r.ln
  tm := pair_mono (fun _ _ q => ar_up h1 q) r.tm
theorem Rp.tmp (r : Rp K b s σ H tv ta Hd ps) {tv' : List V} {ta' : List A} (h : Paired (AR K Hd ps) tv' ta') : Rp K b s σ H tv' ta' Hd ps :=
  ⟨r.e0, r.e1, r.e2, r.nw, r.pl, r.nd, r.p0, r.fr, r.ex, r.cl, r.sl, r.ln, h⟩
theorem Rp.push (r : Rp K b s σ H tv ta Hd ps) {v : V} {a : A} (h : AR K Hd ps v a) : Rp K b s σ H (v :: tv) (a :: ta) Hd ps := r.tmp (.cons h r.tm)
theorem Rp.pop {v : V} {a : A} (r : Rp K b s σ H (v :: tv) (a :: ta) Hd ps) : Rp K b s σ H tv ta Hd ps ∧ AR K Hd ps v a := by
  cases id r.tm with
  | cons h t => exact ⟨r.tmp t, h⟩
theorem Rp.pushAll (r : Rp K b s σ H tv ta Hd ps) {vs : List V} {as : List A} (h : Paired (AR K Hd ps) vs as) : Rp K b s σ H (vs ++ tv) (as ++ ta) Hd ps := r.tmp (pair_app h r.tm)
theorem Rp.popAll {vs : List V} {as : List A} (r : Rp K b s σ H (vs ++ tv) (as ++ ta) Hd ps) (hl : vs.length = as.length) : Rp K b s σ H tv ta Hd ps ∧ Paired (AR K Hd ps) vs as := by
  obtain ⟨h, t⟩ := pair_split hl r.tm
  exact ⟨r.tmp t, h⟩
theorem none_of_same {H H' : Hp} (e : Same H H') {p : Addr} (h : H' p = none) : H p = none := by
  cases q : H p with
  | none => rfl
  | some o => rw [e p o q] at h; cases h
theorem same_new {H : Hp} {p : Addr} {o : HO} (h : H p = none) : Same H (upd H p o) := fun b x e => by
  rw [upd_ne (ne_of_none e h)]
  exact e
theorem same_upd2 {Hd H : Hp} (e : Same Hd H) (p : Addr) (o : HO) : Same (upd Hd p o) (upd H p o) := fun b x q => by
  by_cases z : b = p
  · subst z
    rw [upd_same] at q ⊢
    exact q
  · rw [upd_ne z] at q ⊢
    exact e _ _ q
/-- a new thing among the data -/
theorem Rp.newD (r : Rp K b s σ H tv ta Hd ps) {p : Addr} (o : HO) (h : H p = none) : Rp K b s σ (upd H p o) tv ta (upd Hd p o) ps :=
  r.ext (same_new (none_of_same r.e1 h)) (same_upd2 r.e1 p o) (same_new h) fun a ha hd => by
    have z : a ≠ p := fun e => ha (by rw [e]; exact h)
    rw [upd_ne z]
    exact hd
theorem da_of_ars {vs : List V} {xs : List PyData} (h : Paired (AR K Hd ps) vs (xs.map A.d)) : DrA K Hd vs xs := by
  induction xs generalizing vs with
  | nil => cases h; exact .nil
  | cons x xs ih =>
    cases h with
    | cons q t => exact .cons q (ih t)
theorem ars_of_da : ∀ {vs : List V} {xs : List PyData}, DrA K Hd vs xs → Paired (AR K Hd ps) vs (xs.map A.d)
  | _, _, .nil => .nil
  | _, _, .cons h t => .cons h (ars_of_da t)
theorem Rp.newTup (r : Rp K b s σ H tv ta Hd ps) {p : Addr} (h : H p = none) {vs : List V} {xs : List PyData} (hv : Paired (AR K Hd ps) vs (xs.map A.d)) :
    Rp K b s σ (upd H p (.tup vs)) tv ta (upd Hd p (.tup vs)) ps ∧ AR K (upd Hd p (.tup vs)) ps (.ref p) (.d (.tuple xs)) :=
  ⟨r.newD _ h, .tup (.inl (.inl upd_same)) (da_up (same_new (none_of_same r.e1 h)) _ _ (da_of_ars hv))⟩
theorem Rp.newLst (r : Rp K b s σ H tv ta Hd ps) {p : Addr} (h : H p = none) {vs : List V} {xs : List PyData} (hv : Paired (AR K Hd ps) vs (xs.map A.d)) :
    Rp K b s σ (upd H p (.lst vs)) tv ta (upd Hd p (.lst vs)) ps ∧ AR K (upd Hd p (.lst vs)) ps (.ref p) (.d (.list xs)) :=
  ⟨r.newD _ h, .lst upd_same (da_up (same_new (none_of_same r.e1 h)) _ _ (da_of_ars hv))⟩
theorem Rp.inH (r : Rp K b s σ H tv ta Hd ps) {k : Nat} {cc : C} {p : Addr} (hk : s.os[k]? = some cc) (hp : ps[k]? = some p) (hd : cc ≠ .dead) : Hd p = none ∧ ∃ o, H p = some o := by
  have q := r.cl k cc p hk hp
  cases cc with
  | dead => exact absurd rfl hd
  | lst xs => exact ⟨q.1, _, q.2.choose_spec.1⟩
  | dK kvs => exact ⟨q.1, _, q.2.choose_spec.1⟩
  | ins cl fs => exact ⟨q.1, _, q.2.choose_spec.choose_spec.1⟩
  | la xs => exact ⟨q.1, _, q.2.choose_spec.1⟩
end

/-! ### own cells -/
def S.put (s : S) (k : Nat) (c : C) : S := ⟨s.ss, s.os.set k c⟩
def S.set (s : S) (i : Nat) (a : A) : S := ⟨s.ss.set i (some a), s.os⟩
def S.add (s : S) (c : C) : S := ⟨s.ss, s.os ++ [c]⟩
mutual
def frI (k : Nat) (x : PyData) : A → A
  | .o j => if j = k then .d x else .o j
  | .d y => .d y
  | .p φ m => .p φ m
  | .t xs => .t (frIs k x xs)
def frIs (k : Nat) (x : PyData) : List A → List A
  | [] => []
  | a :: l => frI k x a :: frIs k x l
end
def frA (k : Nat) (x : PyData) : Option A → Option A
  | some a => some (frI k x a)
  | none => none
def frC (k : Nat) (x : PyData) : C → C
  | .la as => .la (frIs k x as)
  | .dead => .dead
  | .lst xs => .lst xs
  | .dK kvs => .dK kvs
  | .ins cl fs => .ins cl fs
def S.frz (s : S) (k : Nat) (xs : List PyData) : S := ⟨s.ss.map (frA k (.list xs)), (s.os.set k .dead).map (frC k (.list xs))⟩
section
variable {b : B} {s : S} {σ : St} {H H' Hd Hd' : Hp} {tv : List V} {ta : List A} {ps : List Addr} {K : PySem.W.Frag}
theorem nd_ne {ps : List Addr} (h : ps.Nodup) {i j : Nat} {p q : Addr} (hi : ps[i]? = some p) (hj : ps[j]? = some q) (ne : i ≠ j) : p ≠ q := by
  obtain ⟨li, ei⟩ := List.getElem?_eq_some_iff.mp hi
  obtain ⟨lj, ej⟩ := List.getElem?_eq_some_iff.mp hj
  rcases Nat.lt_or_gt_of_ne ne with l | l
  · have := (List.pairwise_iff_getElem.mp h) i j li lj l
    rw [ei, ej] at this
    exact this
  · have := (List.pairwise_iff_getElem.mp h) j i lj li l
    rw [ei, ej] at this
    exact fun e => this e.symm
/-- an own cell changes -/
theorem Rp.put (r : Rp K b s σ H tv ta Hd ps) {k : Nat} {c cc : C} {p : Addr} {o : HO} (hk : s.os[k]? = some cc) (hp : ps[k]? = some p) (hc : cc ≠ .dead) (hn : CRp K Hd ps (upd H p o) p c) :
    Rp K b (s.put k c) σ (upd H p o) tv ta Hd ps where
  e0 := r.e0
  e1 := fun a x e => by
    have z : a ≠ p := ne_of_none e (r.inH hk hp hc).1
    rw [upd_ne z]
    exact r.e1 a x e
  e2 := fun a x e => by
    have z : a ≠ p := ne_of_none e (r.fr p (List.mem_of_getElem? hp))
    rw [upd_ne z]
    exact r.e2 a x e
  nw := r.nw
  pl := by rw [r.pl]; show _ = (s.os.set k c).length; rw [List.length_set]
  nd := r.nd
  p0 := r.p0
  fr := r.fr
  ex := fun q hq z => by
    by_cases e : q = p
    · subst e; rw [upd_same] at z; cases z
    · rw [upd_ne e] at z; exact r.ex q hq z
  cl := fun j cj q hj hq => by
    by_cases e : j = k
    · subst e
      rw [hp] at hq
      cases hq
      have hl : j < s.os.length := (List.getElem?_eq_some_iff.mp hk).1
      have : (s.os.set j c)[j]? = some c := List.getElem?_set_self hl
      rw [show (s.put j c).os = s.os.set j c from rfl, this] at hj
      cases hj
      exact hn
    · have hj' : s.os[j]? = some cj := by
        rw [show (s.put k c).os = s.os.set k c from rfl, List.getElem?_set_ne (Ne.symm e)] at hj
        exact hj
      have z : q ≠ p := nd_ne r.nd hq hp e
      exact cr_up (Same.refl Hd) (r.cl j cj q hj' hq) (fun x => x) fun _ o' ho => by
        rw [upd_ne z]
        exact ho
  sl := r.sl
  ln := r.ln
  tm := r.tm
/-- a new own cell -/
theorem Rp.new (r : Rp K b s σ H tv ta Hd ps) {p : Addr} {c : C} {o : HO} (h : H p = none) (hn : CRp K Hd ps (upd H p o) p c) :
    Rp K b (s.add c) σ (upd H p o) tv ta Hd (ps ++ [p]) ∧ AR K Hd (ps ++ [p]) (.ref p) (.o s.os.length) := by
  refine ⟨⟨r.e0, fun a x e => ?_, fun a x e => ?_, r.nw, ?_, ?_, ?_, ?_, ?_, ?_, ?_, r.ln, pair_mono (fun _ _ q => ar_more q) r.tm⟩, p, ?_, rfl⟩
  · rw [upd_ne (ne_of_none (r.e1 a x e) h)]
    exact r.e1 a x e
  · rw [upd_ne (ne_of_none (r.e2 a x e) h)]
    exact r.e2 a x e
  · show (ps ++ [p]).length = (s.os ++ [c]).length
    rw [List.length_append, List.length_append, r.pl]
    rfl
  · refine List.nodup_append.mpr ⟨r.nd, List.pairwise_singleton _ _, fun a ha c hc e => ?_⟩
    rw [List.mem_singleton.mp hc] at e
    exact r.ex a ha (by rw [e]; exact h)
  · obtain ⟨more, e⟩ := r.p0
    exact ⟨more ++ [p], by rw [e, List.append_assoc]⟩
  · intro q hq
    rcases List.mem_append.mp hq with hq | hq
    · exact r.fr q hq
    · rw [List.mem_singleton.mp hq]
      exact none_of_same r.e2 h
  · intro q hq z
    rcases List.mem_append.mp hq with hq | hq
    · by_cases e : q = p
      · subst e; rw [upd_same] at z; cases z
      · rw [upd_ne e] at z; exact r.ex q hq z
    · rw [List.mem_singleton.mp hq, upd_same] at z
      cases z
  · intro k cc q hk hq
    by_cases hl : k < s.os.length
    · have hk' : s.os[k]? = some cc := by rw [show (s.add c).os = s.os ++ [c] from rfl, List.getElem?_append_left hl] at hk; exact hk
      have hq' : ps[k]? = some q := by rw [List.getElem?_append_left (by rw [r.pl]; exact hl)] at hq; exact hq
      refine cr_more (cr_up (Same.refl Hd) (r.cl k cc q hk' hq') (fun x => x) fun _ o' ho => ?_)
      rw [upd_ne (ne_of_none ho h)]
      exact ho
    · have e : k = s.os.length := by
        have := (List.getElem?_eq_some_iff.mp hk).1
        rw [show (s.add c).os = s.os ++ [c] from rfl, List.length_append, List.length_singleton] at this
        omega
      subst e
      rw [show (s.add c).os = s.os ++ [c] from rfl, List.getElem?_concat_length] at hk
      cases hk
      rw [← r.pl, List.getElem?_concat_length] at hq
      cases hq
      exact cr_more hn
  · intro i a hi
    obtain ⟨v, hv, ha⟩ := r.sl i a hi
    exact ⟨v, hv, ar_more ha⟩
  · rw [← r.pl, List.getElem?_concat_length]

mutual
theorem frI_ar' {k : Nat} {p : Addr} {xs : List PyData} (hp : ps[k]? = some p) (hl : AR K Hd' ps (.ref p) (.d (.list xs))) (e : Same Hd Hd') : ∀ (a : A) (v : V), AR' K Hd ps a v → AR' K Hd' ps (frI k (.list xs) a) v
  | .d x, v, h => ar_up e (a := .d x) h
  | .p φ m, v, h => ar_up e (a := .p φ m) h
  | .o j, v, h => by
    obtain ⟨q, hq, rfl⟩ := h
    show AR' K Hd' ps (if j = k then .d (.list xs) else .o j) (.ref q)
    by_cases z : j = k
    · subst z
      rw [if_pos rfl]
      rw [hp] at hq
      cases hq
      exact hl
    · rw [if_neg z]
      exact ⟨q, hq, rfl⟩
  | .t as, _, ⟨a, vs, h1, h2, h3⟩ => ⟨a, vs, h1, st_up e h2, frIs_ar' hp hl e as vs h3⟩
theorem frIs_ar' {k : Nat} {p : Addr} {xs : List PyData} (hp : ps[k]? = some p) (hl : AR K Hd' ps (.ref p) (.d (.list xs))) (e : Same Hd Hd') : ∀ (as : List A) (vs : List V), ARs' K Hd ps as vs → ARs' K Hd' ps (frIs k (.list xs) as) vs
  | [], _, h => h
  | x :: as, _, ⟨v, ws, h1, h2, h3⟩ => ⟨v, ws, h1, frI_ar' hp hl e x v h2, frIs_ar' hp hl e as ws h3⟩
end
theorem frA_ar {k : Nat} {p : Addr} {vs : List V} {xs : List PyData} (hp : ps[k]? = some p) (hl : AR K Hd' ps (.ref p) (.d (.list xs))) (e : Same Hd Hd') {v : V} {a a' : A} (h : AR K Hd ps v a) (hf : frA k (.list xs) (some a) = some a') : AR K Hd' ps v a' := by
  cases (show frI k (.list xs) a = a' from Option.some.inj hf)
  exact frI_ar' hp hl e a v h
theorem frC_cr {k : Nat} {p q : Addr} {xs : List PyData} (hp : ps[k]? = some p) (hl : AR K Hd' ps (.ref p) (.d (.list xs))) (e : Same Hd Hd') (hq : Hd q = none → Hd' q = none) : ∀ {c : C}, CRp K Hd ps H q c → CRp K Hd' ps H q (frC k (.list xs) c)
  | .dead, _ => trivial
  | .lst _, h => cr_up e (c := .lst _) h hq fun _ _ z => z
  | .dK _, h => cr_up e (c := .dK _) h hq fun _ _ z => z
  | .ins _ _, h => cr_up e (c := .ins _ _) h hq fun _ _ z => z
  | .la as, ⟨n, vs, hv, ha⟩ => ⟨hq n, vs, hv, ars_pair (frIs_ar' hp hl e as vs (pair_ars ha))⟩
/-- an own list is from now on data -/
theorem Rp.frz (r : Rp K b s σ H tv ta Hd ps) {k : Nat} {xs : List PyData} (hk : s.os[k]? = some (.lst xs)) : ∃ Hd', Same Hd Hd' ∧ Rp K b (s.frz k xs) σ H tv ta Hd' ps ∧ ∀ v, AR K Hd ps v (.o k) → AR K Hd' ps v (.d (.list xs)) := by
  have hlt : k < ps.length := by rw [r.pl]; exact (List.getElem?_eq_some_iff.mp hk).1
  obtain ⟨p, hp⟩ : ∃ p, ps[k]? = some p := ⟨ps[k], List.getElem?_eq_getElem hlt⟩
  obtain ⟨hn, vs, hv, ha⟩ := r.cl k _ p hk hp
  have hs : Same Hd (upd Hd p (.lst vs)) := same_new hn
  have hl : AR K (upd Hd p (.lst vs)) ps (.ref p) (.d (.list xs)) := .lst upd_same (da_up hs xs vs ha)
  refine ⟨upd Hd p (.lst vs), hs, ⟨r.e0.trans hs, fun a x e => ?_, r.e2, fun a ha hd => ?_, ?_, r.nd, r.p0, r.fr, r.ex, ?_, ?_, ?_, pair_mono (fun _ _ q => ar_up hs q) r.tm⟩, fun v h => ?_⟩
  · by_cases z : a = p
    · subst z
      rw [upd_same] at e
      cases e
      exact hv
    · rw [upd_ne z] at e
      exact r.e1 a x e
  · have z : a ≠ p := fun e => ha (by rw [e]; exact r.fr p (List.mem_of_getElem? hp))
    rw [upd_ne z]
    exact r.nw a ha hd
  · rw [r.pl]
    show _ = ((s.os.set k .dead).map _).length
    rw [List.length_map, List.length_set]
  · intro j cj q hj hq
    rw [show (s.frz k xs).os = (s.os.set k .dead).map (frC k (.list xs)) from rfl, List.getElem?_map] at hj
    by_cases e : j = k
    · subst e
      have : (s.os.set j C.dead)[j]? = some C.dead := List.getElem?_set_self (List.getElem?_eq_some_iff.mp hk).1
      rw [this] at hj
      cases hj
      trivial
    · rw [List.getElem?_set_ne (Ne.symm e)] at hj
      cases hj' : s.os[j]? with
      | none => rw [hj'] at hj; cases hj
      | some c0 =>
        rw [hj'] at hj
        have hj : some (frC k (.list xs) c0) = some cj := hj
        cases hj
        have z : q ≠ p := nd_ne r.nd hq hp e
        exact frC_cr hp hl hs (fun x => by rw [upd_ne z]; exact x) (r.cl j c0 q hj' hq)
  · intro i a hi
    rw [show (s.frz k xs).ss = s.ss.map (frA k (.list xs)) from rfl, List.getElem?_map] at hi
    cases e : s.ss[i]? with
    | none => rw [e] at hi; cases hi
    | some oa =>
      rw [e] at hi
      cases oa with
      | none => cases hi
      | some a0 =>
        obtain ⟨v, hv, har⟩ := r.sl i a0 e
        exact ⟨v, hv, frA_ar (vs := vs) hp hl hs har (Option.some.inj hi)⟩
  · rw [r.ln]
    show _ = (s.ss.map _).length
    rw [List.length_map]
  · obtain ⟨q, hq, rfl⟩ := h
    rw [hp] at hq
    cases hq
    exact hl
end
/-! ### judgements over the abstract state -/
def EV (K : PySem.W.Frag) (b : B) (te : TE) (s : S) (Φ : A → S → Prop) : Prop := ∀ σ H tv ta Hd ps, Rp K b s σ H tv ta Hd ps → ∀ Q : VK,
  (∀ v H' a s' Hd' ps', Φ a s' → Rp K b s' σ H' tv ta Hd' ps' → AR K Hd' ps' v a → Q v H') → te σ H Q
def ET (K : PySem.W.Frag) (b : B) (tt : TT) (s : S) (Φ : Bool → S → Prop) : Prop := ∀ σ H tv ta Hd ps, Rp K b s σ H tv ta Hd ps → ∀ Q : Bool → Hp → Prop,
  (∀ k H' s' Hd' ps', Φ k s' → Rp K b s' σ H' tv ta Hd' ps' → Q k H') → tt σ H Q
def EA (K : PySem.W.Frag) (b : B) (t : TA) (s : S) (Φ : List A → S → Prop) : Prop := ∀ σ H tv ta Hd ps, Rp K b s σ H tv ta Hd ps → ∀ Q : List V → Hp → Prop,
  (∀ vs H' as s' Hd' ps', Φ as s' → Rp K b s' σ H' tv ta Hd' ps' → Paired (AR K Hd' ps') vs as → Q vs H') → t σ H Q
def EO (K : PySem.W.Frag) (b : B) (t : TO) (s : S) (Φ : Option Int → S → Prop) : Prop := ∀ σ H tv ta Hd ps, Rp K b s σ H tv ta Hd ps → ∀ Q : Option Int → Hp → Prop,
  (∀ o H' s' Hd' ps', Φ o s' → Rp K b s' σ H' tv ta Hd' ps' → Q o H') → t σ H Q
/-- of values: an operator, a one-place thing, a call, a method -/
def V2 (K : PySem.W.Frag) (b : B) (r : R2) (x y : A) (s : S) (Φ : A → S → Prop) : Prop := ∀ σ H tv ta Hd ps v w, Rp K b s σ H tv ta Hd ps → AR K Hd ps v x → AR K Hd ps w y → ∀ Q : VK,
  (∀ u H' a s' Hd' ps', Φ a s' → Rp K b s' σ H' tv ta Hd' ps' → AR K Hd' ps' u a → Q u H') → r v w H Q
def V1 (K : PySem.W.Frag) (b : B) (r : V → Hp → VK → Prop) (x : A) (s : S) (Φ : A → S → Prop) : Prop := ∀ σ H tv ta Hd ps v, Rp K b s σ H tv ta Hd ps → AR K Hd ps v x → ∀ Q : VK,
  (∀ u H' a s' Hd' ps', Φ a s' → Rp K b s' σ H' tv ta Hd' ps' → AR K Hd' ps' u a → Q u H') → r v H Q
def VC (K : PySem.W.Frag) (b : B) (r : List V → Hp → VK → Prop) (as : List A) (s : S) (Φ : A → S → Prop) : Prop := ∀ σ H tv ta Hd ps vs, Rp K b s σ H tv ta Hd ps → Paired (AR K Hd ps) vs as → ∀ Q : VK,
  (∀ u H' a s' Hd' ps', Φ a s' → Rp K b s' σ H' tv ta Hd' ps' → AR K Hd' ps' u a → Q u H') → r vs H Q
def VM (K : PySem.W.Frag) (b : B) (r : V → List V → Hp → VK → Prop) (x : A) (as : List A) (s : S) (Φ : A → S → Prop) : Prop := ∀ σ H tv ta Hd ps v vs, Rp K b s σ H tv ta Hd ps → AR K Hd ps v x → Paired (AR K Hd ps) vs as → ∀ Q : VK,
  (∀ u H' a s' Hd' ps', Φ a s' → Rp K b s' σ H' tv ta Hd' ps' → AR K Hd' ps' u a → Q u H') → r v vs H Q
/-- a target -/
def GT (K : PySem.W.Frag) (b : B) (g : TG) (a : A) (s : S) (N : S → Prop) : Prop := ∀ σ H tv ta Hd ps v, Rp K b s σ H tv ta Hd ps → AR K Hd ps v a → ∀ Q : L2.St → Hp → Prop,
  (∀ σ' H' s' Hd' ps', N s' → Rp K b s' σ' H' tv ta Hd' ps' → Q σ' H') → g v σ H Q
def GTs (K : PySem.W.Frag) (b : B) (g : TGs) (as : List A) (s : S) (N : S → Prop) : Prop := ∀ σ H tv ta Hd ps vs, Rp K b s σ H tv ta Hd ps → Paired (AR K Hd ps) vs as → ∀ Q : L2.St → Hp → Prop,
  (∀ σ' H' s' Hd' ps', N s' → Rp K b s' σ' H' tv ta Hd' ps' → Q σ' H') → g vs σ H Q
/-- a statement: what it reaches by its four ends -/
structure EE where
  nx : S → Prop
  rt : A → S → Prop
  bk : S → Prop := fun _ => False
  ct : S → Prop := fun _ => False
structure Dk (K : PySem.W.Frag) (b : B) (D : Ends) (N : EE) (tv : List V) (ta : List A) : Prop where
  nx : ∀ σ H s Hd ps, N.nx s → Rp K b s σ H tv ta Hd ps → D.nx σ H
  rt : ∀ v σ H a s Hd ps, N.rt a s → Rp K b s σ H tv ta Hd ps → AR K Hd ps v a → D.rt v H
  bk : ∀ σ H s Hd ps, N.bk s → Rp K b s σ H tv ta Hd ps → D.bk σ H
  ct : ∀ σ H s Hd ps, N.ct s → Rp K b s σ H tv ta Hd ps → D.ct σ H
def GO (K : PySem.W.Frag) (b : B) (t : TS) (s : S) (N : EE) : Prop := ∀ D σ H tv ta Hd ps, Rp K b s σ H tv ta Hd ps → Dk K b D N tv ta → t D σ H

section
variable {K : PySem.W.Frag} {b : B} {s s1 : S} {te ta tb tc : TE} {tt tu : TT} {t : TA} {x y : A} {Φ Ψ : A → S → Prop} {r : R2}
/-! ### expressions -/
def undA : List A → Option (List PyData)
  | [] => some []
  | .d x :: l => (undA l).map (x :: ·)
  | _ :: _ => none
theorem undA_eq : ∀ {as : List A} {xs : List PyData}, undA as = some xs → as = xs.map A.d
  | [], xs, h => by cases h; rfl
  | .d x :: l, xs, h => by
    cases q : undA l with
    | none => simp [undA, q] at h
    | some ys =>
      simp [undA, q] at h
      subst h
      rw [undA_eq q]
      rfl
theorem le_of_ble {xs : List PyData} (h : Nat.ble xs.length 1000 = true) : xs.length ≤ sizeLine := Nat.le_trans (Nat.le_of_ble_eq_true h) (by decide)
theorem ev_var {i : Nat} {a : A} (h : s.ss[i]? = some (some a)) (q : Φ a s) : EV K b (tVar i) s Φ := fun σ H tv tl Hd ps R Q k => by
  obtain ⟨v, hv, ha⟩ := R.sl i a h
  exact ⟨v, hv, k v H a s Hd ps q R ha⟩
theorem ev_frz {i k : Nat} {xs : List PyData} (h : s.ss[i]? = some (some (.o k))) (hk : s.os[k]? = some (.lst xs)) (q : Φ (.d (.list xs)) (s.frz k xs)) : EV K b (tVar i) s Φ := fun σ H tv tl Hd ps R Q z => by
  obtain ⟨v, hv, ha⟩ := R.sl i _ h
  obtain ⟨Hd', _, R', h'⟩ := R.frz hk
  exact ⟨v, hv, z v H _ _ Hd' ps q R' (h' v ha)⟩
theorem ev_int {i : Int} (q : Φ (.d (.int i)) s) : EV K b (tC (.int i)) s Φ := fun σ H tv tl Hd ps R Q k => k _ H _ s Hd ps q R (.int i)
theorem ev_bl {i : Bool} (q : Φ (.d (.bool i)) s) : EV K b (tC (.bl i)) s Φ := fun σ H tv tl Hd ps R Q k => k _ H _ s Hd ps q R (.bl i)
theorem ev_str {i : Str} (q : Φ (.d (.str i)) s) : EV K b (tC (.str i)) s Φ := fun σ H tv tl Hd ps R Q k => k _ H _ s Hd ps q R (.str i)
theorem ev_non (q : Φ (.d .none) s) : EV K b (tC .non) s Φ := fun σ H tv tl Hd ps R Q k => k _ H _ s Hd ps q R .non
theorem ev_op (h : EV K b ta s fun x s1 => EV K b tb s1 fun y s2 => V2 K b r x y s2 Φ) : EV K b (tOp r ta tb) s Φ := fun σ H tv tl Hd ps R Q k =>
  h σ H tv tl Hd ps R _ fun v H1 x s1 Hd1 ps1 h1 R1 a1 => h1 σ H1 (v :: tv) (x :: tl) Hd1 ps1 (R1.push a1) _ fun w H2 y s2 Hd2 ps2 h2 R2 a2 =>
    h2 σ H2 tv tl Hd2 ps2 v w R2.pop.1 R2.pop.2 a2 Q k
theorem ev_un {r : V → Hp → VK → Prop} (h : EV K b ta s fun x s1 => V1 K b r x s1 Φ) : EV K b (tUn r ta) s Φ := fun σ H tv tl Hd ps R Q k =>
  h σ H tv tl Hd ps R _ fun v H1 x s1 Hd1 ps1 h1 R1 a1 => h1 σ H1 tv tl Hd1 ps1 v R1 a1 Q k
theorem ea_nil {Φ : List A → S → Prop} (q : Φ [] s) : EA K b tNil s Φ := fun σ H tv tl Hd ps R Q k => k [] H [] s Hd ps q R .nil
theorem ea_cons {Φ : List A → S → Prop} (h : EV K b ta s fun x s1 => EA K b t s1 fun as s2 => Φ (x :: as) s2) : EA K b (tCons ta t) s Φ := fun σ H tv tl Hd ps R Q k =>
  h σ H tv tl Hd ps R _ fun v H1 x s1 Hd1 ps1 h1 R1 a1 => h1 σ H1 (v :: tv) (x :: tl) Hd1 ps1 (R1.push a1) _ fun vs H2 as s2 Hd2 ps2 h2 R2 a2 =>
    k (v :: vs) H2 (x :: as) s2 Hd2 ps2 h2 R2.pop.1 (.cons R2.pop.2 a2)
theorem ev_tup {Φ : A → S → Prop} (h : EA K b t s fun as s1 => ∃ xs, undA as = some xs ∧ Nat.ble xs.length 1000 = true ∧ Φ (.d (.tuple xs)) s1) : EV K b (tTup t) s Φ := fun σ H tv tl Hd ps R Q k =>
  h σ H tv tl Hd ps R _ fun vs H1 as s1 Hd1 ps1 h1 R1 a1 => by
    obtain ⟨xs, ex, hl, q⟩ := h1
    have hl := le_of_ble hl
    rw [undA_eq ex] at a1
    have e := pair_len a1
    rw [List.length_map] at e
    refine ⟨by rw [e]; exact hl, fun p hp => ?_⟩
    obtain ⟨R2, a2⟩ := R1.newTup hp a1
    exact k _ _ _ _ _ _ q R2 a2
/-- a list that is data from the start -/
theorem ev_lst {Φ : A → S → Prop} (h : EA K b t s fun as s1 => ∃ xs, undA as = some xs ∧ Nat.ble xs.length 1000 = true ∧ Φ (.d (.list xs)) s1) : EV K b (tLst t) s Φ := fun σ H tv tl Hd ps R Q k =>
  h σ H tv tl Hd ps R _ fun vs H1 as s1 Hd1 ps1 h1 R1 a1 => by
    obtain ⟨xs, ex, hl, q⟩ := h1
    have hl := le_of_ble hl
    rw [undA_eq ex] at a1
    have e := pair_len a1
    rw [List.length_map] at e
    refine ⟨by rw [e]; exact hl, fun p hp => ?_⟩
    obtain ⟨R2, a2⟩ := R1.newLst hp a1
    exact k _ _ _ _ _ _ q R2 a2
/-- a list of one's own -/
theorem ev_lstO {Φ : A → S → Prop} (h : EA K b t s fun as s1 => ∃ xs, undA as = some xs ∧ Nat.ble xs.length 1000 = true ∧ Φ (.o s1.os.length) (s1.add (.lst xs))) : EV K b (tLst t) s Φ := fun σ H tv tl Hd ps R Q k =>
  h σ H tv tl Hd ps R _ fun vs H1 as s1 Hd1 ps1 h1 R1 a1 => by
    obtain ⟨xs, ex, hl, q⟩ := h1
    have hl := le_of_ble hl
    rw [undA_eq ex] at a1
    have e := pair_len a1
    rw [List.length_map] at e
    refine ⟨by rw [e]; exact hl, fun p hp => ?_⟩
    obtain ⟨R2, a2⟩ := R1.new (c := .lst xs) (o := .lst vs) hp ⟨none_of_same R1.e1 hp, vs, upd_same, da_of_ars a1⟩
    exact k _ _ _ _ _ _ q R2 a2
theorem ev_if (h : ET K b tt s fun k s1 => (k = true → EV K b ta s1 Φ) ∧ (k = false → EV K b tb s1 Φ)) : EV K b (tIf tt ta tb) s Φ := fun σ H tv tl Hd ps R Q k =>
  h σ H tv tl Hd ps R _ fun c H1 s1 Hd1 ps1 h1 R1 => by
    cases c with
    | true => exact h1.1 rfl σ H1 tv tl Hd1 ps1 R1 Q k
    | false => exact h1.2 rfl σ H1 tv tl Hd1 ps1 R1 Q k
theorem ev_cb {rc : List V → Hp → VK → Prop} (h : EA K b t s fun as s1 => VC K b rc as s1 Φ) : EV K b (tCB rc t) s Φ := fun σ H tv tl Hd ps R Q k =>
  h σ H tv tl Hd ps R _ fun vs H1 as s1 Hd1 ps1 h1 R1 a1 => h1 σ H1 tv tl Hd1 ps1 vs R1 a1 Q k
/-! tests -/
theorem et_test {Φ : Bool → S → Prop} (h : EV K b ta s fun a s1 => ∃ k, a = .d (.bool k) ∧ Φ k s1) : ET K b (tTest ta) s Φ := fun σ H tv tl Hd ps R Q k =>
  h σ H tv tl Hd ps R _ fun v H1 a s1 Hd1 ps1 h1 R1 a1 => by
    obtain ⟨c, rfl, q⟩ := h1
    cases a1
    exact ⟨c, rfl, k c H1 s1 Hd1 ps1 q R1⟩
theorem et_B {Φ : Bool → S → Prop} (h : EV K b ta s fun a s1 => ∃ k, a = .d (.bool k) ∧ Φ k s1) : ET K b (tB ta) s Φ := et_test h
theorem et_and {Φ : Bool → S → Prop} (h : ET K b tt s fun k s1 => (k = true → ET K b tu s1 Φ) ∧ (k = false → Φ false s1)) : ET K b (tAnd tt tu) s Φ := fun σ H tv tl Hd ps R Q k =>
  h σ H tv tl Hd ps R _ fun c H1 s1 Hd1 ps1 h1 R1 => by
    cases c with
    | true => exact h1.1 rfl σ H1 tv tl Hd1 ps1 R1 Q k
    | false => exact k false H1 s1 Hd1 ps1 (h1.2 rfl) R1
theorem et_or {Φ : Bool → S → Prop} (h : ET K b tt s fun k s1 => (k = true → Φ true s1) ∧ (k = false → ET K b tu s1 Φ)) : ET K b (tOr tt tu) s Φ := fun σ H tv tl Hd ps R Q k =>
  h σ H tv tl Hd ps R _ fun c H1 s1 Hd1 ps1 h1 R1 => by
    cases c with
    | false => exact h1.2 rfl σ H1 tv tl Hd1 ps1 R1 Q k
    | true => exact k true H1 s1 Hd1 ps1 (h1.1 rfl) R1
theorem et_not {Φ : Bool → S → Prop} (h : ET K b tt s fun k s1 => Φ (!k) s1) : ET K b (tNot tt) s Φ := fun σ H tv tl Hd ps R Q k =>
  h σ H tv tl Hd ps R _ fun c H1 s1 Hd1 ps1 h1 R1 => k _ H1 s1 Hd1 ps1 h1 R1
theorem ev_andV (h : EV K b ta s fun a s1 => ∃ k, a = .d (.bool k) ∧ (k = true → EV K b tb s1 Φ) ∧ (k = false → Φ (.d (.bool false)) s1)) : EV K b (tAndV ta tb) s Φ := fun σ H tv tl Hd ps R Q k =>
  h σ H tv tl Hd ps R _ fun v H1 a s1 Hd1 ps1 h1 R1 a1 => by
    obtain ⟨c, rfl, q1, q2⟩ := h1
    cases a1
    refine ⟨c, rfl, ?_⟩
    cases c with
    | true => exact q1 rfl σ H1 tv tl Hd1 ps1 R1 Q k
    | false => exact k _ H1 _ s1 Hd1 ps1 (q2 rfl) R1 (.bl false)
theorem ev_orV (h : EV K b ta s fun a s1 => ∃ k, a = .d (.bool k) ∧ (k = true → Φ (.d (.bool true)) s1) ∧ (k = false → EV K b tb s1 Φ)) : EV K b (tOrV ta tb) s Φ := fun σ H tv tl Hd ps R Q k =>
  h σ H tv tl Hd ps R _ fun v H1 a s1 Hd1 ps1 h1 R1 a1 => by
    obtain ⟨c, rfl, q1, q2⟩ := h1
    cases a1
    refine ⟨c, rfl, ?_⟩
    cases c with
    | false => exact q2 rfl σ H1 tv tl Hd1 ps1 R1 Q k
    | true => exact k _ H1 _ s1 Hd1 ps1 (q1 rfl) R1 (.bl true)
theorem ev_notV (h : EV K b ta s fun a s1 => ∃ k, a = .d (.bool k) ∧ Φ (.d (.bool (!k))) s1) : EV K b (tNotV ta) s Φ := fun σ H tv tl Hd ps R Q k =>
  h σ H tv tl Hd ps R _ fun v H1 a s1 Hd1 ps1 h1 R1 a1 => by
    obtain ⟨c, rfl, q⟩ := h1
    cases a1
    exact ⟨c, rfl, k _ H1 _ s1 Hd1 ps1 q R1 (.bl _)⟩
theorem ev_chain {r r' : R2} (h : EV K b ta s fun x s1 => EV K b tb s1 fun y s2 => V2 K b r x y s2 fun z s3 => ∃ k, z = .d (.bool k) ∧ (k = true → EV K b tc s3 fun w s4 => V2 K b r' y w s4 Φ) ∧ (k = false → Φ (.d (.bool false)) s3)) :
    EV K b (tChain r r' ta tb tc) s Φ := fun σ H tv tl Hd ps R Q k =>
  h σ H tv tl Hd ps R _ fun v H1 x s1 Hd1 ps1 h1 R1 a1 => h1 σ H1 (v :: tv) (x :: tl) Hd1 ps1 (R1.push a1) _ fun w H2 y s2 Hd2 ps2 h2 R2 a2 => by
    refine h2 σ H2 (w :: tv) (y :: tl) Hd2 ps2 v w (R2.pop.1.push a2) R2.pop.2 a2 _ fun u H3 z s3 Hd3 ps3 h3 R3 a3 => ?_
    obtain ⟨c, rfl, q1, q2⟩ := h3
    cases a3
    refine ⟨c, rfl, ?_⟩
    cases c with
    | false => exact k _ H3 _ s3 Hd3 ps3 (q2 rfl) R3.pop.1 (.bl false)
    | true => exact q1 rfl σ H3 (w :: tv) (y :: tl) Hd3 ps3 R3 _ fun u' H4 z' s4 Hd4 ps4 h4 R4 a4 => h4 σ H4 tv tl Hd4 ps4 w u' R4.pop.1 R4.pop.2 a4 Q k
end
section
variable {K : PySem.W.Frag} {b : B} {s s1 : S} {te ta tb tc : TE} {tt tu : TT} {t : TA} {x y : A} {Φ Ψ : A → S → Prop} {r r' : R2}
/-! ### values -/
/-- a thing to be read: data, or an own list -/
def Vw (s : S) : A → PyData → Prop
  | .d x, y => x = y
  | .o k, y => ∃ xs, s.os[k]? = some (.lst xs) ∧ y = .list xs
  | .p _ _, _ => False
  | .t _, _ => False
theorem vw_dr {b : B} {σ : L2.St} {H Hd : Hp} {tv : List V} {ta : List A} {ps : List Addr} (R : Rp K b s σ H tv ta Hd ps) {v : V} {d : PyData} : ∀ {a : A}, AR K Hd ps v a → Vw s a d → Dr K H v d
  | .d x, h, e => by
    cases e
    exact dp_up R.e1 _ _ h
  | .o k, ⟨p, hp, e⟩, ⟨xs, hk, e2⟩ => by
    subst e e2
    obtain ⟨_, vs, hv, ha⟩ := R.cl k _ p hk hp
    exact .lst hv (da_up R.e1 _ _ ha)
  | .p _ _, _, e => e.elim
  | .t _, _, e => e.elim
theorem v2_l (h : V2 K b r x y s Φ) : V2 K b (fun x y H Q => r x y H Q ∨ r' x y H Q) x y s Φ := fun σ H tv tl Hd ps v w R a1 a2 Q k => .inl (h σ H tv tl Hd ps v w R a1 a2 Q k)
theorem v2_r (h : V2 K b r' x y s Φ) : V2 K b (fun x y H Q => r x y H Q ∨ r' x y H Q) x y s Φ := fun σ H tv tl Hd ps v w R a1 a2 Q k => .inr (h σ H tv tl Hd ps v w R a1 a2 Q k)
theorem v2_ii {f : Int → Int → Int} {i j : Int} (q : Φ (.d (.int (f i j))) s) : V2 K b (rI0 fun i j => .int (f i j)) (.d (.int i)) (.d (.int j)) s Φ := fun σ H tv tl Hd ps v w R a1 a2 Q k => by
  cases a1; cases a2
  exact ⟨i, j, rfl, rfl, k _ H _ s Hd ps q R (.int _)⟩
theorem v2_ib {f : Int → Int → Bool} {i j : Int} (q : Φ (.d (.bool (f i j))) s) : V2 K b (rI0 fun i j => .bl (f i j)) (.d (.int i)) (.d (.int j)) s Φ := fun σ H tv tl Hd ps v w R a1 a2 Q k => by
  cases a1; cases a2
  exact ⟨i, j, rfl, rfl, k _ H _ s Hd ps q R (.bl _)⟩
theorem v2_ic {C : Int → Int → Prop} {f : Int → Int → Int} {i j : Int} (c : C i j) (q : Φ (.d (.int (f i j))) s) : V2 K b (rI C fun i j => .int (f i j)) (.d (.int i)) (.d (.int j)) s Φ := fun σ H tv tl Hd ps v w R a1 a2 Q k => by
  cases a1; cases a2
  exact ⟨i, j, rfl, rfl, c, k _ H _ s Hd ps q R (.int _)⟩
theorem v2_eq {d e : PyData} (h1 : Vw s x d) (h2 : Vw s y e) (z1 : SeqAt.shaped d = true) (z2 : SeqAt.shaped e = true) (q : Φ (.d (.bool (PyData.eqv d e))) s) : V2 K b (rEqD K) x y s Φ := fun σ H tv tl Hd ps v w R a1 a2 Q k =>
  ⟨d, e, Dr.dp _ _ (vw_dr R a1 h1), Dr.dp _ _ (vw_dr R a2 h2), z1, z2, k _ H _ s Hd ps q R (.bl _)⟩
theorem v2_ne {d e : PyData} (h1 : Vw s x d) (h2 : Vw s y e) (z1 : SeqAt.shaped d = true) (z2 : SeqAt.shaped e = true) (q : Φ (.d (.bool (!PyData.eqv d e))) s) : V2 K b (rNeD K) x y s Φ := fun σ H tv tl Hd ps v w R a1 a2 Q k =>
  ⟨d, e, Dr.dp _ _ (vw_dr R a1 h1), Dr.dp _ _ (vw_dr R a2 h2), z1, z2, k _ H _ s Hd ps q R (.bl _)⟩
def isNo : A → Bool
  | .d .none => true
  | _ => false
theorem non_iff {b : B} {σ : L2.St} {H Hd : Hp} {tv : List V} {ta : List A} {ps : List Addr} (R : Rp K b s σ H tv ta Hd ps) {v : V} : ∀ {a : A}, (∀ φ m, a ≠ .p φ m) → AR K Hd ps v a → decide (v = .non) = isNo a
  | .d x, _, h => by cases h <;> rfl
  | .o k, _, ⟨p, _, e⟩ => by subst e; rfl
  | .p φ m, n, _ => absurd rfl (n φ m)
  | .t _, _, ⟨_, _, e, _⟩ => by subst e; rfl
theorem v2_isN (n : ∀ φ m, x ≠ .p φ m) (q : Φ (.d (.bool (isNo x))) s) : V2 K b (fun x y H Q => y = .non ∧ Q (.bl (decide (x = .non))) H) x (.d .none) s Φ := fun σ H tv tl Hd ps v w R a1 a2 Q k => by
  cases a2
  rw [non_iff R n a1]
  exact ⟨rfl, k _ H _ s Hd ps q R (.bl _)⟩
theorem v2_notN (n : ∀ φ m, x ≠ .p φ m) (q : Φ (.d (.bool (!isNo x))) s) : V2 K b (fun x y H Q => y = .non ∧ Q (.bl (!decide (x = .non))) H) x (.d .none) s Φ := fun σ H tv tl Hd ps v w R a1 a2 Q k => by
  cases a2
  rw [non_iff R n a1]
  exact ⟨rfl, k _ H _ s Hd ps q R (.bl _)⟩
theorem v2_addS {i j : Str} (hl : i.length + j.length ≤ sizeLine) (q : Φ (.d (.str (i ++ j))) s) : V2 K b (fun x y H Q => ∃ i j, x = .str i ∧ y = .str j ∧ i.length + j.length ≤ sizeLine ∧ Q (.str (i ++ j)) H) (.d (.str i)) (.d (.str j)) s Φ :=
  fun σ H tv tl Hd ps v w R a1 a2 Q k => by
    cases a1; cases a2
    exact ⟨i, j, rfl, rfl, hl, k _ H _ s Hd ps q R (.str _)⟩
/-- an item: of an own list, of data -/
theorem ixN_get {n : Nat} {i : Int} {j : Nat} (h : ixN n i = some j) : j < n := by
  unfold ixN at h
  split at h
  · split at h
    · cases h; omega
    · cases h
  · split at h
    · cases h; omega
    · cases h
theorem da_at {H : Hp} {vs : List V} {ds : List PyData} {i : Int} {z : PyData} (h : DrA K H vs ds) (e : atI ds i = some z) : ∃ v, atI vs i = some v ∧ Dr K H v z := by
  unfold atI at e ⊢
  rw [pair_len (da_paired h)]
  cases q : ixN ds.length i with
  | none => rw [q] at e; cases e
  | some j =>
    rw [q] at e
    obtain ⟨v, hv, hz⟩ := pair_get (da_paired h) (show ds[j]? = some z from e)
    exact ⟨v, hv, hz⟩
theorem v2_ixL {ds : List PyData} {i : Int} {z : PyData} (e : atI ds i = some z) (q : Φ (.d z) s) : V2 K b (rIx K) (.d (.list ds)) (.d (.int i)) s Φ := fun σ H tv tl Hd ps v w R a1 a2 Q k => by
  cases a2
  cases a1 with
  | lst hv ha =>
    obtain ⟨u, hu, hz⟩ := da_at ha e
    exact .inl ⟨_, _, i, u, rfl, rfl, .inl (.inl (R.e1 _ _ hv)), hu, k _ H _ s Hd ps q R hz⟩
theorem v2_ixT {ds : List PyData} {i : Int} {z : PyData} (e : atI ds i = some z) (q : Φ (.d z) s) : V2 K b (rIx K) (.d (.tuple ds)) (.d (.int i)) s Φ := fun σ H tv tl Hd ps v w R a1 a2 Q k => by
  cases a2
  cases a1 with
  | tup hv ha =>
    obtain ⟨u, hu, hz⟩ := da_at ha e
    exact .inr (.inl ⟨_, _, i, u, rfl, rfl, st_up R.e1 hv, hu, k _ H _ s Hd ps q R hz⟩)
theorem v2_ixO {n : Nat} {ds : List PyData} {i : Int} {z : PyData} (h : s.os[n]? = some (.lst ds)) (e : atI ds i = some z) (q : Φ (.d z) s) : V2 K b (rIx K) (.o n) (.d (.int i)) s Φ := fun σ H tv tl Hd ps v w R a1 a2 Q k => by
  cases a2
  obtain ⟨p, hp, rfl⟩ := a1
  obtain ⟨_, vs, hv, ha⟩ := R.cl n _ p h hp
  obtain ⟨u, hu, hz⟩ := da_at ha e
  exact .inl ⟨_, _, i, u, rfl, rfl, .inl (.inl hv), hu, k _ H _ s Hd ps q R hz⟩
theorem v2_ixS {t : Str} {i : Int} {c : Nat} (hl : t.length ≤ sizeLine) (e : atI t.cps.toList i = some c) (q : Φ (.d (.str ⟨#[c]⟩)) s) : V2 K b (rIx K) (.d (.str t)) (.d (.int i)) s Φ := fun σ H tv tl Hd ps v w R a1 a2 Q k => by
  cases a2; cases a1
  exact .inr (.inr ⟨t, i, c, rfl, rfl, hl, e, k _ H _ s Hd ps q R (.str _)⟩)
/-- lists joined: a new list, data or own -/
theorem vw_lst {b : B} {σ : L2.St} {H Hd : Hp} {tv : List V} {ta : List A} {ps : List Addr} (R : Rp K b s σ H tv ta Hd ps) {v : V} {ds : List PyData} {a : A} (h : AR K Hd ps v a) (e : Vw s a (.list ds)) :
    ∃ p vs, v = .ref p ∧ H p = some (.lst vs) ∧ DrA K Hd vs ds := by
  cases a with
  | d x =>
    cases e
    cases h with
    | lst hv ha => exact ⟨_, _, rfl, R.e1 _ _ hv, ha⟩
  | o k =>
    obtain ⟨xs, hk, e2⟩ := e
    cases e2
    obtain ⟨p, hp, rfl⟩ := h
    obtain ⟨_, vs, hv, ha⟩ := R.cl k _ p hk hp
    exact ⟨p, vs, rfl, hv, ha⟩
  | p _ _ => exact e.elim
  | t _ => exact e.elim
theorem v2_cat {xs ys : List PyData} (h1 : Vw s x (.list xs)) (h2 : Vw s y (.list ys)) (hl : xs.length + ys.length ≤ sizeLine) (q : Φ (.d (.list (xs ++ ys))) s) : V2 K b rCat x y s Φ := fun σ H tv tl Hd ps v w R a1 a2 Q k => by
  obtain ⟨p, vs, rfl, hv, ha⟩ := vw_lst R a1 h1
  obtain ⟨p', ws, rfl, hw, hb⟩ := vw_lst R a2 h2
  refine ⟨p, p', vs, ws, rfl, rfl, hv, hw, by rw [pair_len (da_paired ha), pair_len (da_paired hb)]; exact hl, fun l hn => ?_⟩
  obtain ⟨R2, h2⟩ := R.newLst hn (vs := vs ++ ws) (xs := xs ++ ys) (by rw [List.map_append]; exact pair_app (ars_of_da ha) (ars_of_da hb))
  exact k _ _ _ _ _ _ q R2 h2
theorem v2_catO {xs ys : List PyData} (h1 : Vw s x (.list xs)) (h2 : Vw s y (.list ys)) (hl : xs.length + ys.length ≤ sizeLine) (q : Φ (.o s.os.length) (s.add (.lst (xs ++ ys)))) : V2 K b rCat x y s Φ := fun σ H tv tl Hd ps v w R a1 a2 Q k => by
  obtain ⟨p, vs, rfl, hv, ha⟩ := vw_lst R a1 h1
  obtain ⟨p', ws, rfl, hw, hb⟩ := vw_lst R a2 h2
  refine ⟨p, p', vs, ws, rfl, rfl, hv, hw, by rw [pair_len (da_paired ha), pair_len (da_paired hb)]; exact hl, fun l hn => ?_⟩
  obtain ⟨R2, h2⟩ := R.new (c := .lst (xs ++ ys)) (o := .lst (vs ++ ws)) hn ⟨none_of_same R.e1 hn, _, upd_same, paired_da (pair_app (da_paired ha) (da_paired hb))⟩
  exact k _ _ _ _ _ _ q R2 h2
theorem da_rep {H : Hp} {v : V} {d : PyData} (h : Dr K H v d) : ∀ n : Nat, DrA K H (List.replicate n v) (List.replicate n d)
  | 0 => .nil
  | n + 1 => .cons h (da_rep h n)
theorem da_flat {H : Hp} {vs : List V} {ds : List PyData} (h : DrA K H vs ds) : ∀ n : Nat, DrA K H (List.replicate n vs).flatten (List.replicate n ds).flatten
  | 0 => .nil
  | n + 1 => by
    rw [List.replicate_succ, List.flatten_cons, List.replicate_succ, List.flatten_cons]
    exact paired_da (pair_app (da_paired h) (da_paired (da_flat h n)))
theorem v2_rep {xs : List PyData} {n : Int} (h1 : Vw s x (.list xs)) (h0 : -(2 ^ 63) ≤ n) (h2 : n < 2 ^ 63) (hl : xs.length * n.toNat ≤ sizeLine) (q : Φ (.o s.os.length) (s.add (.lst (List.replicate n.toNat xs).flatten))) : V2 K b rRep x (.d (.int n)) s Φ := fun σ H tv tl Hd ps v w R a1 a2 Q k => by
  obtain ⟨p, vs, rfl, hv, ha⟩ := vw_lst R a1 h1
  cases a2
  refine ⟨p, n, vs, rfl, rfl, hv, h0, h2, by rw [pair_len (da_paired ha)]; exact hl, fun l hn => ?_⟩
  obtain ⟨R2, h2⟩ := R.new (c := .lst (List.replicate n.toNat xs).flatten) (o := .lst (List.replicate n.toNat vs).flatten) hn ⟨none_of_same R.e1 hn, _, upd_same, da_flat ha _⟩
  exact k _ _ _ _ _ _ q R2 h2
theorem v1_neg {i : Int} (q : Φ (.d (.int (-i))) s) : V1 K b (rU fun i => .int (-i)) (.d (.int i)) s Φ := fun σ H tv tl Hd ps v R a1 Q k => by
  cases a1
  exact ⟨i, rfl, k _ H _ s Hd ps q R (.int _)⟩
/-! calls of the built-ins -/
theorem vc_len {ds : List PyData} (h : Vw s x (.list ds) ∨ x = .d (.tuple ds)) (q : Φ (.d (.int ds.length)) s) : VC K b (fun xs H Q => ∃ x n, xs = [x] ∧ LenV K x H n ∧ Q (.int n) H) [x] s Φ := fun σ H tv tl Hd ps vs R a Q k => by
  cases a with
  | @cons v _ _ _ a1 t =>
    cases t
    rcases h with h | rfl
    · obtain ⟨p, vs, rfl, hv, ha⟩ := vw_lst R a1 h
      exact ⟨_, ds.length, rfl, .inl ⟨vs, .inl (.inl hv), (pair_len (da_paired ha)).symm⟩, k _ H _ s Hd ps q R (.int _)⟩
    · cases a1 with
      | tup hv ha => exact ⟨_, ds.length, rfl, .inr ⟨_, st_up R.e1 hv, (pair_len (da_paired ha)).symm⟩, k _ H _ s Hd ps q R (.int _)⟩
theorem vc_lenS {t : Str} (hl : t.length ≤ sizeLine) (q : Φ (.d (.int t.length)) s) : VC K b (fun xs H Q => ∃ x n, xs = [x] ∧ LenV K x H n ∧ Q (.int n) H) [.d (.str t)] s Φ := fun σ H tv tl Hd ps vs R a Q k => by
  cases a with
  | @cons v _ _ _ a1 t =>
    cases t
    cases a1
    exact ⟨_, _, rfl, ⟨hl, rfl⟩, k _ H _ s Hd ps q R (.int _)⟩
theorem vc_intI {i : Int} (q : Φ (.d (.int i)) s) : VC K b (fun xs H Q => (∃ i, xs = [.int i] ∧ Q (.int i) H) ∨ ∃ k, xs = [.bl k] ∧ Q (.int (if k then 1 else 0)) H) [.d (.int i)] s Φ := fun σ H tv tl Hd ps vs R a Q k => by
  cases a with
  | @cons v _ _ _ a1 t =>
    cases t
    cases a1
    exact .inl ⟨i, rfl, k _ H _ s Hd ps q R (.int _)⟩
theorem vc_intB {i : Bool} (q : Φ (.d (.int (if i then 1 else 0))) s) : VC K b (fun xs H Q => (∃ i, xs = [.int i] ∧ Q (.int i) H) ∨ ∃ k, xs = [.bl k] ∧ Q (.int (if k then 1 else 0)) H) [.d (.bool i)] s Φ := fun σ H tv tl Hd ps vs R a Q k => by
  cases a with
  | @cons v _ _ _ a1 t =>
    cases t
    cases a1
    exact .inr ⟨i, rfl, k _ H _ s Hd ps q R (.int _)⟩
theorem vc_abs {i : Int} (q : Φ (.d (.int (if i < 0 then -i else i))) s) : VC K b (fun xs H Q => ∃ i, xs = [.int i] ∧ Q (.int (if i < 0 then -i else i)) H) [.d (.int i)] s Φ := fun σ H tv tl Hd ps vs R a Q k => by
  cases a with
  | @cons v _ _ _ a1 t =>
    cases t
    cases a1
    exact ⟨i, rfl, k _ H _ s Hd ps q R (.int _)⟩
theorem vc_max2 {i j : Int} (q : Φ (.d (.int (if j > i then j else i))) s) : VC K b (fun xs H Q => ∃ i j, xs = [.int i, .int j] ∧ Q (.int (if j > i then j else i)) H) [.d (.int i), .d (.int j)] s Φ := fun σ H tv tl Hd ps vs R a Q k => by
  cases a with
  | @cons v _ _ _ a1 t =>
    cases t with
    | @cons v _ _ _ a2 t =>
      cases t
      cases a1; cases a2
      exact ⟨i, j, rfl, k _ H _ s Hd ps q R (.int _)⟩
/-- list(x): data | own -/
theorem vc_list {ds : List PyData} (h : Vw s x (.list ds) ∨ x = .d (.tuple ds)) (q : Φ (.d (.list ds)) s) :
    VC K b (fun xs H Q => ∃ p ys, xs = [.ref p] ∧ (SqL K H p ys ∨ SqT K H p ys) ∧ ∀ l, H l = none → Q (.ref l) (upd H l (.lst ys))) [x] s Φ := fun σ H tv tl Hd ps vs R a Q k => by
  cases a with
  | @cons v _ _ _ a1 t =>
    cases t
    obtain ⟨p, ys, rfl, hs, ha⟩ : ∃ p ys, v = .ref p ∧ (SqL K H p ys ∨ SqT K H p ys) ∧ DrA K Hd ys ds := by
      rcases h with h | rfl
      · obtain ⟨p, vs, rfl, hv, ha⟩ := vw_lst R a1 h
        exact ⟨p, vs, rfl, .inl (.inl (.inl hv)), ha⟩
      · cases a1 with
        | tup hv ha => exact ⟨_, _, rfl, .inr (st_up R.e1 hv), ha⟩
    refine ⟨p, ys, rfl, hs, fun l hn => ?_⟩
    obtain ⟨R2, h2⟩ := R.newLst hn (ars_of_da ha)
    exact k _ _ _ _ _ _ q R2 h2
theorem vc_listO {ds : List PyData} (h : Vw s x (.list ds) ∨ x = .d (.tuple ds)) (q : Φ (.o s.os.length) (s.add (.lst ds))) :
    VC K b (fun xs H Q => ∃ p ys, xs = [.ref p] ∧ (SqL K H p ys ∨ SqT K H p ys) ∧ ∀ l, H l = none → Q (.ref l) (upd H l (.lst ys))) [x] s Φ := fun σ H tv tl Hd ps vs R a Q k => by
  cases a with
  | @cons v _ _ _ a1 t =>
    cases t
    obtain ⟨p, ys, rfl, hs, ha⟩ : ∃ p ys, v = .ref p ∧ (SqL K H p ys ∨ SqT K H p ys) ∧ DrA K Hd ys ds := by
      rcases h with h | rfl
      · obtain ⟨p, vs, rfl, hv, ha⟩ := vw_lst R a1 h
        exact ⟨p, vs, rfl, .inl (.inl (.inl hv)), ha⟩
      · cases a1 with
        | tup hv ha => exact ⟨_, _, rfl, .inr (st_up R.e1 hv), ha⟩
    refine ⟨p, ys, rfl, hs, fun l hn => ?_⟩
    obtain ⟨R2, h2⟩ := R.new (c := .lst ds) (o := .lst ys) hn ⟨none_of_same R.e1 hn, _, upd_same, ha⟩
    exact k _ _ _ _ _ _ q R2 h2
end
/-! ### targets -/
def S.wp (s : S) (vs : List Nat) : S := ⟨vs.foldr (fun i l => l.set i none) s.ss, s.os⟩
section
variable {K : PySem.W.Frag} {b : B} {s s1 : S} {te ta tb tc : TE} {tt tu : TT} {t : TA} {x y : A} {Φ Ψ : A → S → Prop} {r r' : R2} {tx ty : TS} {N : EE} {g : TG}
theorem Rp.set {b : B} {σ : L2.St} {H Hd : Hp} {tv : List V} {ta : List A} {ps : List Addr} (R : Rp K b s σ H tv ta Hd ps) {v : V} {a : A} (h : AR K Hd ps v a) (i : Nat) : Rp K b (s.set i a) (σ.set i (some v)) H tv ta Hd ps :=
  ⟨R.e0, R.e1, R.e2, R.nw, R.pl, R.nd, R.p0, R.fr, R.ex, R.cl, fun j c hj => by
    by_cases e : j = i
    · subst e
      have hl : j < s.ss.length := by
        have := (List.getElem?_eq_some_iff.mp hj).1
        rw [show (s.set j a).ss = s.ss.set j (some a) from rfl, List.length_set] at this
        exact this
      rw [show (s.set j a).ss = s.ss.set j (some a) from rfl, List.getElem?_set_self hl] at hj
      cases hj
      exact ⟨v, List.getElem?_set_self (by rw [R.ln]; exact hl), h⟩
    · rw [show (s.set i a).ss = s.ss.set i (some a) from rfl, List.getElem?_set_ne (Ne.symm e)] at hj
      obtain ⟨w, hw, hc⟩ := R.sl j c hj
      exact ⟨w, by rw [List.getElem?_set_ne (Ne.symm e)]; exact hw, hc⟩, by rw [List.length_set, R.ln]; show _ = (s.ss.set i _).length; rw [List.length_set], R.tm⟩
theorem gt_name {i : Nat} {a : A} {N : S → Prop} (q : N (s.set i a)) : GT K b (gName i) a s N := fun σ H tv tl Hd ps v R h Q k => k _ H _ Hd ps q (R.set h i)
theorem gts_nil {N : S → Prop} (q : N s) : GTs K b gNil [] s N := fun σ H tv tl Hd ps vs R h Q k => by
  cases h
  exact ⟨rfl, k _ H _ Hd ps q R⟩
theorem gts_cons {g : TG} {u : TGs} {a : A} {as : List A} {N : S → Prop} (h : GT K b g a s fun s1 => GTs K b u as s1 N) : GTs K b (gCons g u) (a :: as) s N := fun σ H tv tl Hd ps vs R hv Q k => by
  cases hv with
  | @cons v _ ws _ h1 h2 =>
    refine ⟨v, ws, rfl, h σ H (ws ++ tv) (as ++ tl) Hd ps v (R.pushAll h2) h1 _ fun σ' H' s' Hd' ps' q R' => ?_⟩
    obtain ⟨R2, h3⟩ := R'.popAll (pair_len h2)
    exact q σ' H' tv tl Hd' ps' ws R2 h3 Q k
theorem gt_tup {n : Nat} {u : TGs} {ds : List PyData} {N : S → Prop} (hn : ds.length = n) (h : GTs K b u (ds.map A.d) s N) : GT K b (gTup K n u) (.d (.tuple ds)) s N := fun σ H tv tl Hd ps v R hv Q k => by
  cases hv with
  | tup hs ha => exact ⟨_, _, rfl, st_up R.e1 hs, by rw [pair_len (da_paired ha)]; exact hn, h σ H tv tl Hd ps _ R (ars_of_da ha) Q k⟩
/-- xs[i] = v, xs an own list -/
theorem gt_setL {to ti : TE} {a : A} {N : S → Prop} (h : EV K b to s fun o s1 => EV K b ti s1 fun i s2 => ∃ (n : Nat) (ds : List PyData) (j : Int) (m : Nat) (z : PyData), a = .d z ∧ o = .o n ∧ i = .d (.int j) ∧ s2.os[n]? = some (.lst ds) ∧ ixN ds.length j = some m ∧ N (s2.put n (.lst (ds.set m z)))) :
    GT K b (gSub to ti rSetL) a s N := fun σ H tv tl Hd ps v R hv Q k =>
  h σ H (v :: tv) (a :: tl) Hd ps (R.push hv) _ fun o H1 ao s1 Hd1 ps1 h1 R1 a1 => h1 σ H1 (o :: v :: tv) (ao :: a :: tl) Hd1 ps1 (R1.push a1) _ fun i H2 ai s2 Hd2 ps2 h2 R2 a2 => by
    obtain ⟨n, ds, j, m, z, rfl, rfl, rfl, ho, hj, q⟩ := h2
    obtain ⟨R3, a3⟩ := R2.pop
    obtain ⟨R4, a4⟩ := R3.pop
    cases a2
    obtain ⟨p, hp, rfl⟩ := a3
    obtain ⟨hn, vs, hv2, ha⟩ := R4.cl n _ p ho hp
    refine ⟨p, vs, j, m, rfl, rfl, hv2, by rw [pair_len (da_paired ha)]; exact hj, ?_⟩
    exact k _ _ _ _ _ q (R4.put ho hp (fun z => nomatch z) ⟨hn, _, upd_same, paired_da (pair_set (G := Dr K Hd2) a4 m (da_paired ha))⟩)

/-! ### statements -/
theorem Dk.then {b : B} {D : Ends} {tv : List V} {tl : List A} (k : Dk K b D N tv tl) (h : ∀ s1, GO K b ty s1 N → True := by intros; trivial) : Dk K b { D with nx := ty D } { N with nx := fun s1 => GO K b ty s1 N } tv tl :=
  ⟨fun σ H s Hd ps q R => q D σ H tv tl Hd ps R k, k.rt, k.bk, k.ct⟩
theorem go_seq (h : GO K b tx s { N with nx := fun s1 => GO K b ty s1 N }) : GO K b (tSeq tx ty) s N := fun D σ H tv tl Hd ps R k => h _ σ H tv tl Hd ps R k.then
theorem go_next (q : N.nx s) : GO K b tNext s N := fun D σ H tv tl Hd ps R k => k.nx σ H s Hd ps q R
theorem go_brk (q : N.bk s) : GO K b tBreak s N := fun D σ H tv tl Hd ps R k => k.bk σ H s Hd ps q R
theorem go_cont (q : N.ct s) : GO K b tCont s N := fun D σ H tv tl Hd ps R k => k.ct σ H s Hd ps q R
theorem go_asg (h : EV K b te s fun a s1 => GT K b g a s1 N.nx) : GO K b (tAsg te g) s N := fun D σ H tv tl Hd ps R k =>
  h σ H tv tl Hd ps R _ fun v H1 a s1 Hd1 ps1 h1 R1 a1 => h1 σ H1 tv tl Hd1 ps1 v R1 a1 _ fun σ' H' s' Hd' ps' q R' => k.nx σ' H' s' Hd' ps' q R'
theorem go_drop (h : EV K b te s fun _ s1 => N.nx s1) : GO K b (tDrop te) s N := fun D σ H tv tl Hd ps R k =>
  h σ H tv tl Hd ps R _ fun v H1 a s1 Hd1 ps1 h1 R1 _ => k.nx σ H1 s1 Hd1 ps1 h1 R1
theorem go_ret (h : EV K b te s N.rt) : GO K b (tRet te) s N := fun D σ H tv tl Hd ps R k =>
  h σ H tv tl Hd ps R _ fun v H1 a s1 Hd1 ps1 h1 R1 a1 => k.rt v σ H1 a s1 Hd1 ps1 h1 R1 a1
theorem go_retN (h : N.rt (.d .none) s) : GO K b tRetN s N := fun D σ H tv tl Hd ps R k => k.rt .non σ H _ s Hd ps h R .non
theorem go_if (h : ET K b tt s fun k s1 => (k = true → GO K b tx s1 N) ∧ (k = false → GO K b ty s1 N)) : GO K b (tIfS tt tx ty) s N := fun D σ H tv tl Hd ps R k =>
  h σ H tv tl Hd ps R _ fun c H1 s1 Hd1 ps1 h1 R1 => by
    cases c with
    | true => exact h1.1 rfl D σ H1 tv tl Hd1 ps1 R1 k
    | false => exact h1.2 rfl D σ H1 tv tl Hd1 ps1 R1 k
theorem go_mono {N' : EE} (h : GO K b tx s N) (h1 : ∀ s, N.nx s → N'.nx s) (h2 : ∀ a s, N.rt a s → N'.rt a s) (h3 : ∀ s, N.bk s → N'.bk s) (h4 : ∀ s, N.ct s → N'.ct s) : GO K b tx s N' := fun D σ H tv tl Hd ps R k =>
  h D σ H tv tl Hd ps R ⟨fun σ H s Hd ps q R => k.nx σ H s Hd ps (h1 _ q) R, fun v σ H a s Hd ps q R => k.rt v σ H a s Hd ps (h2 _ _ q) R, fun σ H s Hd ps q R => k.bk σ H s Hd ps (h3 _ q) R, fun σ H s Hd ps q R => k.ct σ H s Hd ps (h4 _ q) R⟩
theorem ev_mono {Φ' : A → S → Prop} (h : EV K b te s Φ) (m : ∀ a s, Φ a s → Φ' a s) : EV K b te s Φ' := fun σ H tv tl Hd ps R Q k => h σ H tv tl Hd ps R Q fun v H' a s' Hd' ps' q => k v H' a s' Hd' ps' (m _ _ q)
theorem et_mono {Φ Φ' : Bool → S → Prop} (h : ET K b tt s Φ) (m : ∀ a s, Φ a s → Φ' a s) : ET K b tt s Φ' := fun σ H tv tl Hd ps R Q k => h σ H tv tl Hd ps R Q fun v H' s' Hd' ps' q => k v H' s' Hd' ps' (m _ _ q)
/-- x += e, ints -/
theorem go_aug {i : Nat} {f : Int → Int → Int} {m : Int} (hi : s.ss[i]? = some (some (.d (.int m)))) (h : EV K b te s fun a s1 => ∃ n, a = .d (.int n) ∧ N.nx (s1.set i (.d (.int (f m n))))) : GO K b (tAug i te (ipI f)) s N := fun D σ H tv tl Hd ps R k => by
  obtain ⟨v, hv, ha⟩ := R.sl i _ hi
  cases ha
  refine ⟨_, hv, h σ H tv tl Hd ps R _ fun w H1 a s1 Hd1 ps1 h1 R1 a1 => ?_⟩
  obtain ⟨n, rfl, q⟩ := h1
  cases a1
  exact ⟨m, n, rfl, rfl, k.nx _ H1 _ Hd1 ps1 q (R1.set (a := .d (.int _)) (Dr.int _) i)⟩
/-- while -/
theorem go_while (I : Nat → S → Prop) (m0 : Nat) (h0 : I m0 s)
    (hs : ∀ m s1, I m s1 → ET K b tt s1 fun k s2 => (k = true → GO K b tx s2 ⟨fun s3 => ∃ m', m' < m ∧ I m' s3, N.rt, N.nx, fun s3 => ∃ m', m' < m ∧ I m' s3⟩) ∧ (k = false → N.nx s2)) : GO K b (tWhile tt tx) s N := fun D σ H tv tl Hd ps R k => by
  refine ⟨fun m σ H => ∃ s1 Hd ps, I m s1 ∧ Rp K b s1 σ H tv tl Hd ps, ⟨m0, s, Hd, ps, h0, R⟩, fun m σ H hW => ?_⟩
  obtain ⟨s1, Hd, ps, hi, R⟩ := hW
  refine hs m s1 hi σ H tv tl Hd ps R _ fun c H1 s2 Hd1 ps1 h1 R1 => ?_
  cases c with
  | true =>
    refine ⟨fun σ H => ∃ m', m' < m ∧ ∃ s1 Hd ps, I m' s1 ∧ Rp K b s1 σ H tv tl Hd ps, fun σ' H' q => q, ?_⟩
    exact h1.1 rfl _ σ H1 tv tl Hd1 ps1 R1 ⟨fun σ H s3 Hd ps ⟨m', l, q⟩ R => ⟨m', l, s3, Hd, ps, q, R⟩, k.rt, k.nx, fun σ H s3 Hd ps ⟨m', l, q⟩ R => ⟨m', l, s3, Hd, ps, q, R⟩⟩
  | false => exact k.nx σ H1 s2 Hd1 ps1 (h1.2 rfl) R1
/-! methods of lists -/
theorem ev_bmL {rm : V → List V → Hp → VK → Prop} (h : EV K b te s fun x s1 => (∃ n ds, x = .o n ∧ s1.os[n]? = some (.lst ds)) ∧ EA K b t s1 fun as s2 => VM K b rm x as s2 Φ) : EV K b (tBM K "list" rm te t) s Φ := fun σ H tv tl Hd ps R Q k =>
  h σ H tv tl Hd ps R _ fun v H1 x s1 Hd1 ps1 h1 R1 a1 => by
    obtain ⟨⟨n, ds, rfl, hn⟩, h1⟩ := h1
    refine ⟨?_, h1 σ H1 (v :: tv) (.o n :: tl) Hd1 ps1 (R1.push a1) _ fun vs H2 as s2 Hd2 ps2 h2 R2 a2 => h2 σ H2 tv tl Hd2 ps2 v vs R2.pop.1 R2.pop.2 a2 Q k⟩
    obtain ⟨p, hp, rfl⟩ := a1
    obtain ⟨_, vs, hv, ha⟩ := R1.cl n _ p hn hp
    exact .inl ⟨rfl, vs, .inl (.inl hv)⟩
theorem ev_bmL0 {rm : V → List V → Hp → VK → Prop} (h : EV K b te s fun x s1 => (∃ n ds, x = .o n ∧ s1.os[n]? = some (.lst ds)) ∧ VM K b rm x [] s1 Φ) : EV K b (tBM0 K "list" rm te) s Φ := fun σ H tv tl Hd ps R Q k =>
  h σ H tv tl Hd ps R _ fun v H1 x s1 Hd1 ps1 h1 R1 a1 => by
    obtain ⟨⟨n, ds, rfl, hn⟩, h1⟩ := h1
    refine ⟨?_, h1 σ H1 tv tl Hd1 ps1 v [] R1 a1 .nil Q k⟩
    obtain ⟨p, hp, rfl⟩ := a1
    obtain ⟨_, vs, hv, ha⟩ := R1.cl n _ p hn hp
    exact .inl ⟨rfl, vs, .inl (.inl hv)⟩
theorem vm_append {n : Nat} {ds : List PyData} {z : PyData} (h : s.os[n]? = some (.lst ds)) (hl : ds.length < sizeLine) (q : Φ (.d .none) (s.put n (.lst (ds ++ [z])))) : VM K b rAppend (.o n) [.d z] s Φ := fun σ H tv tl Hd ps v vs R a1 a2 Q k => by
  cases a2 with
  | @cons w _ _ _ c1 c2 =>
  cases c2
  obtain ⟨p, hp, rfl⟩ := a1
  obtain ⟨hn, ws, hw, ha⟩ := R.cl n _ p h hp
  refine ⟨p, ws, w, rfl, rfl, hw, by rw [pair_len (da_paired ha)]; exact hl, ?_⟩
  exact k _ _ _ _ _ _ q (R.put h hp (fun z => nomatch z) ⟨hn, _, upd_same, paired_da (pair_app (da_paired ha) (.cons c1 .nil))⟩) .non
theorem vm_pop {n : Nat} {ds : List PyData} {z : PyData} (h : s.os[n]? = some (.lst ds)) (hz : ds[ds.length - 1]? = some z) (q : Φ (.d z) (s.put n (.lst ds.dropLast))) : VM K b rPop (.o n) [] s Φ := fun σ H tv tl Hd ps v vs R a1 a2 Q k => by
  cases a2
  obtain ⟨p, hp, rfl⟩ := a1
  obtain ⟨hn, ws, hw, ha⟩ := R.cl n _ p h hp
  have hlen := pair_len (da_paired ha)
  obtain ⟨w, hw1, hw2⟩ := pair_get (da_paired ha) hz
  refine ⟨p, ws, w, rfl, rfl, hw, by rw [hlen]; exact hw1, ?_⟩
  refine k _ _ _ _ _ _ q (R.put h hp (fun z => nomatch z) ⟨hn, _, upd_same, ?_⟩) hw2
  rw [List.dropLast_eq_take, List.dropLast_eq_take, hlen]
  exact paired_da (pair_take _ (da_paired ha))
theorem pair_erase {α β : Type} {G : α → β → Prop} : ∀ {xs : List α} {ys : List β} (n : Nat), Paired G xs ys → Paired G (xs.eraseIdx n) (ys.eraseIdx n)
  | _, _, _, .nil => .nil
  | _, _, 0, .cons _ t => t
  | _, _, n + 1, .cons r t => .cons r (pair_erase n t)
theorem vm_popAt {n : Nat} {ds : List PyData} {z : PyData} {i : Int} {m : Nat} (h : s.os[n]? = some (.lst ds)) (i0 : -(2 ^ 63) ≤ i) (i1 : i < 2 ^ 63) (hm : seqIndex? i ds.length = some m) (hz : ds[m]? = some z) (q : Φ (.d z) (s.put n (.lst (ds.eraseIdx m)))) :
    VM K b rPopAt (.o n) [.d (.int i)] s Φ := fun σ H tv tl Hd ps v vs R a1 a2 Q k => by
  cases a2 with
  | @cons w _ _ _ c1 c2 =>
  cases c2
  cases c1
  obtain ⟨p, hp, rfl⟩ := a1
  obtain ⟨hn, ws, hw, ha⟩ := R.cl n _ p h hp
  obtain ⟨u, hw1, hw2⟩ := pair_get (da_paired ha) hz
  refine ⟨p, ws, i, m, u, rfl, rfl, hw, i0, i1, by rw [pair_len (da_paired ha)]; exact hm, hw1, ?_⟩
  exact k _ _ _ _ _ _ q (R.put h hp (fun z => nomatch z) ⟨hn, _, upd_same, paired_da (pair_erase m (da_paired ha))⟩) hw2
theorem vm_clear {n : Nat} {ds : List PyData} (h : s.os[n]? = some (.lst ds)) (q : Φ (.d .none) (s.put n (.lst []))) : VM K b rClear (.o n) [] s Φ := fun σ H tv tl Hd ps v vs R a1 a2 Q k => by
  cases a2
  obtain ⟨p, hp, rfl⟩ := a1
  obtain ⟨hn, ws, hw, ha⟩ := R.cl n _ p h hp
  exact ⟨p, ws, rfl, rfl, hw, k _ _ _ _ _ _ q (R.put h hp (fun z => nomatch z) ⟨hn, _, upd_same, .nil⟩) .non⟩
/-! slices -/
theorem eo_none {Φ : Option Int → S → Prop} (q : Φ none s) : EO K b tNoPart s Φ := fun σ H tv tl Hd ps R Q k => k none H s Hd ps q R
theorem eo_some {Φ : Option Int → S → Prop} (h : EV K b te s fun a s1 => ∃ i, a = .d (.int i) ∧ Φ (some i) s1) : EO K b (tPart te) s Φ := fun σ H tv tl Hd ps R Q k =>
  h σ H tv tl Hd ps R _ fun v H1 a s1 Hd1 ps1 h1 R1 a1 => by
    obtain ⟨i, rfl, q⟩ := h1
    cases a1
    exact ⟨i, rfl, k _ H1 s1 Hd1 ps1 q R1⟩
def cutD (xs : List PyData) (lo hi : Option Int) : List PyData := (xs.drop (HT.sIx xs.length 0 lo)).take (HT.sIx xs.length xs.length hi - HT.sIx xs.length 0 lo)
theorem da_cut {H : Hp} {vs : List V} {ds : List PyData} (h : DrA K H vs ds) (lo hi : Option Int) : DrA K H (cutV vs lo hi) (cutD ds lo hi) := by
  unfold cutV cutD
  rw [pair_len (da_paired h)]
  exact paired_da (pair_take _ (pair_drop _ (da_paired h)))
theorem ev_slL {tlo thi : TO} (h : EV K b te s fun x s1 => EO K b tlo s1 fun lo s2 => EO K b thi s2 fun hi s3 => ∃ ds, Vw s3 x (.list ds) ∧ Φ (.d (.list (cutD ds lo hi))) s3) : EV K b (tSl (rSlL K) te tlo thi) s Φ := fun σ H tv tl Hd ps R Q k =>
  h σ H tv tl Hd ps R _ fun v H1 x s1 Hd1 ps1 h1 R1 a1 => h1 σ H1 (v :: tv) (x :: tl) Hd1 ps1 (R1.push a1) _ fun lo H2 s2 Hd2 ps2 h2 R2 => h2 σ H2 (v :: tv) (x :: tl) Hd2 ps2 R2 _ fun hi H3 s3 Hd3 ps3 h3 R3 => by
    obtain ⟨ds, e, q⟩ := h3
    obtain ⟨R4, a4⟩ := R3.pop
    obtain ⟨p, vs, rfl, hv, ha⟩ := vw_lst R4 a4 e
    refine ⟨p, vs, rfl, .inl (.inl hv), fun l hn => ?_⟩
    obtain ⟨R5, a5⟩ := R4.newLst hn (ars_of_da (da_cut ha lo hi))
    exact k _ _ _ _ _ _ q R5 a5
theorem ev_slLO {tlo thi : TO} (h : EV K b te s fun x s1 => EO K b tlo s1 fun lo s2 => EO K b thi s2 fun hi s3 => ∃ ds, Vw s3 x (.list ds) ∧ Φ (.o s3.os.length) (s3.add (.lst (cutD ds lo hi)))) : EV K b (tSl (rSlL K) te tlo thi) s Φ := fun σ H tv tl Hd ps R Q k =>
  h σ H tv tl Hd ps R _ fun v H1 x s1 Hd1 ps1 h1 R1 a1 => h1 σ H1 (v :: tv) (x :: tl) Hd1 ps1 (R1.push a1) _ fun lo H2 s2 Hd2 ps2 h2 R2 => h2 σ H2 (v :: tv) (x :: tl) Hd2 ps2 R2 _ fun hi H3 s3 Hd3 ps3 h3 R3 => by
    obtain ⟨ds, e, q⟩ := h3
    obtain ⟨R4, a4⟩ := R3.pop
    obtain ⟨p, vs, rfl, hv, ha⟩ := vw_lst R4 a4 e
    refine ⟨p, vs, rfl, .inl (.inl hv), fun l hn => ?_⟩
    obtain ⟨R5, a5⟩ := R4.new (c := .lst (cutD ds lo hi)) (o := .lst (cutV vs lo hi)) hn ⟨none_of_same R4.e1 hn, _, upd_same, da_cut ha lo hi⟩
    exact k _ _ _ _ _ _ q R5 a5
end
/-! ### what is walked -/
/-- the walk J yields ds, as long as Pc holds; tx, ax: the temporary that keeps it -/
structure Jok (K : PySem.W.Frag) (J : It) (ds : List PyData) (Pc : List C → Prop) (tx : V) (ax : A) : Prop where
  go : ∀ b s σ H tv ta Hd ps i x, Rp K b s σ H (tx :: tv) (ax :: ta) Hd ps → Pc s.os → ds[i]? = some x → J.go i H ∧ ∀ v H', J.yld i H v H' → ∃ Hd', Rp K b s σ H' (tx :: tv) (ax :: ta) Hd' ps ∧ AR K Hd' ps v (.d x)
  stop : ∀ b s σ H tv ta Hd ps, Rp K b s σ H (tx :: tv) (ax :: ta) Hd ps → Pc s.os → J.stop ds.length H
def EI (K : PySem.W.Frag) (b : B) (wi : TI) (s : S) (Φ : List PyData → (List C → Prop) → S → Prop) : Prop := ∀ σ H tv ta Hd ps, Rp K b s σ H tv ta Hd ps → ∀ R : It → Hp → Prop,
  (∀ J H' ds Pc s' Hd' ps' tx ax, Φ ds Pc s' → Rp K b s' σ H' (tx :: tv) (ax :: ta) Hd' ps' → Jok K J ds Pc tx ax → R J H') → wi σ H R
section
variable {K : PySem.W.Frag} {b : B} {s s1 : S} {te ta tb tc : TE} {tt tu : TT} {t : TA} {x y : A} {Φ Ψ : A → S → Prop} {r r' : R2} {tx ty : TS} {N : EE} {g : TG} {Ξ : List PyData → (List C → Prop) → S → Prop}
theorem ei_list (h : EV K b te s fun a s1 => ∃ ds Pc, (a = .d (.list ds) ∨ ∃ n, a = .o n ∧ ∀ o, Pc o → o[n]? = some (.lst ds)) ∧ Pc s1.os ∧ Ξ ds Pc s1) : EI K b (iList K te) s Ξ := fun σ H tv tl Hd ps R Q k =>
  h σ H tv tl Hd ps R _ fun v H1 a s1 Hd1 ps1 h1 R1 a1 => by
    obtain ⟨ds, Pc, hc, hp, q⟩ := h1
    have key : ∀ b s σ H tv ta Hd ps, Rp K b s σ H (v :: tv) (a :: ta) Hd ps → Pc s.os → ∃ p vs, v = .ref p ∧ H p = some (.lst vs) ∧ DrA K Hd vs ds := fun b s σ H tv ta Hd ps R h => by
      obtain ⟨R, a2⟩ := R.pop
      rcases hc with rfl | ⟨n, rfl, hn⟩
      · exact vw_lst R a2 rfl
      · exact vw_lst R a2 ⟨ds, hn _ h, rfl⟩
    obtain ⟨p, vs, rfl, hv, ha⟩ := key b s1 σ H1 tv tl Hd1 ps1 (R1.push a1) hp
    refine ⟨p, rfl, ⟨vs, .inl (.inl hv)⟩, k _ H1 ds Pc s1 Hd1 ps1 _ _ q (R1.push a1) ⟨fun b s σ H tv ta Hd ps i x R h hx => ?_, fun b s σ H tv ta Hd ps R h => ?_⟩⟩
    · obtain ⟨p', ws, e, hw, hb⟩ := key b s σ H tv ta Hd ps R h
      cases e
      obtain ⟨w, hw1, hw2⟩ := pair_get (da_paired hb) hx
      have hq : SqL K H p ws := .inl (.inl hw)
      refine ⟨⟨ws, w, hq, hw1⟩, fun u H' hy => ?_⟩
      obtain ⟨rfl, hu⟩ := hy
      have e : u = w := Option.some.inj ((hu ws hq).symm.trans hw1)
      subst e
      exact ⟨Hd, R, hw2⟩
    · obtain ⟨p', ws, e, hw, hb⟩ := key b s σ H tv ta Hd ps R h
      cases e
      exact ⟨ws, .inl (.inl hw), by rw [pair_len (da_paired hb)]; exact Nat.le_refl _⟩
theorem ei_tup (h : EV K b te s fun a s1 => ∃ ds, a = .d (.tuple ds) ∧ Ξ ds (fun _ => True) s1) : EI K b (iTup K te) s Ξ := fun σ H tv tl Hd ps R Q k =>
  h σ H tv tl Hd ps R _ fun v H1 a s1 Hd1 ps1 h1 R1 a1 => by
    obtain ⟨ds, rfl, q⟩ := h1
    have key : ∀ b s σ H tv ta Hd ps, Rp K b s σ H (v :: tv) (.d (.tuple ds) :: ta) Hd ps → ∃ p vs, v = .ref p ∧ SqT K H p vs ∧ DrA K Hd vs ds := fun b s σ H tv ta Hd ps R => by
      obtain ⟨R, a2⟩ := R.pop
      cases a2 with
      | tup hv ha => exact ⟨_, _, rfl, st_up R.e1 hv, ha⟩
    obtain ⟨p, vs, rfl, hv, ha⟩ := key b s1 σ H1 tv tl Hd1 ps1 (R1.push a1)
    refine ⟨p, rfl, ⟨vs, hv⟩, k _ H1 ds _ s1 Hd1 ps1 _ _ q (R1.push a1) ⟨fun b s σ H tv ta Hd ps i x R h hx => ?_, fun b s σ H tv ta Hd ps R h => ?_⟩⟩
    · obtain ⟨p', ws, e, hw, hb⟩ := key b s σ H tv ta Hd ps R
      cases e
      obtain ⟨w, hw1, hw2⟩ := pair_get (da_paired hb) hx
      refine ⟨⟨ws, w, hw, hw1⟩, fun u H' hy => ?_⟩
      obtain ⟨rfl, hu⟩ := hy
      have e : u = w := Option.some.inj ((hu ws hw).symm.trans hw1)
      subst e
      exact ⟨Hd, R, hw2⟩
    · obtain ⟨p', ws, e, hw, hb⟩ := key b s σ H tv ta Hd ps R
      cases e
      exact ⟨ws, hw, by rw [pair_len (da_paired hb)]; exact Nat.le_refl _⟩
def rngD (lo : Int) (n : Nat) : List PyData := (List.range n).map fun (i : Nat) => .int (lo + (i : Int))
theorem rngD_len (lo : Int) (n : Nat) : (rngD lo n).length = n := by simp [rngD]
theorem rngD_get {lo : Int} {n i : Nat} {x : PyData} (h : (rngD lo n)[i]? = some x) : i < n ∧ x = .int (lo + i) := by
  have hl : i < n := by
    have := (List.getElem?_eq_some_iff.mp h).1
    rw [rngD_len] at this
    exact this
  refine ⟨hl, ?_⟩
  simp [rngD, hl] at h
  exact h.symm
theorem jok_rng {lo : Int} {n : Nat} : Jok K (Itr lo n) (rngD lo n) (fun _ => True) .non (.d .none) :=
  ⟨fun b s σ H tv ta Hd ps i x R _ hx => by
    obtain ⟨hl, rfl⟩ := rngD_get hx
    refine ⟨hl, fun v H' hy => ?_⟩
    obtain ⟨rfl, rfl⟩ := hy
    exact ⟨Hd, R, .int _⟩, fun b s σ H tv ta Hd ps R _ => by rw [rngD_len]; exact Nat.le_refl n⟩
theorem ei_r1 (h : EA K b t s fun as s1 => ∃ n : Int, as = [.d (.int n)] ∧ -(2 ^ 62) ≤ n ∧ n < 2 ^ 62 ∧ Ξ (rngD 0 n.toNat) (fun _ => True) s1) : EI K b (iRng1 t) s Ξ := fun σ H tv tl Hd ps R Q k =>
  h σ H tv tl Hd ps R _ fun vs H1 as s1 Hd1 ps1 h1 R1 a1 => by
    obtain ⟨n, rfl, n1, n2, q⟩ := h1
    cases a1 with
    | cons c1 c2 =>
    cases c2
    cases c1
    exact ⟨n, rfl, n1, n2, k _ H1 _ _ s1 Hd1 ps1 .non (.d .none) q (R1.push (a := .d .none) Dr.non) jok_rng⟩
theorem ei_r2 (h : EA K b t s fun as s1 => ∃ lo n : Int, as = [.d (.int lo), .d (.int n)] ∧ (-(2 ^ 62) ≤ lo ∧ lo < 2 ^ 62 ∧ -(2 ^ 62) ≤ n ∧ n < 2 ^ 62) ∧ Ξ (rngD lo (n - lo).toNat) (fun _ => True) s1) : EI K b (iRng2 t) s Ξ := fun σ H tv tl Hd ps R Q k =>
  h σ H tv tl Hd ps R _ fun vs H1 as s1 Hd1 ps1 h1 R1 a1 => by
    obtain ⟨lo, n, rfl, n1, q⟩ := h1
    cases a1 with
    | cons c1 c2 =>
    cases c2 with
    | cons c2 c3 =>
    cases c3
    cases c1
    cases c2
    exact ⟨lo, n, rfl, n1, k _ H1 _ _ s1 Hd1 ps1 .non (.d .none) q (R1.push (a := .d .none) Dr.non) jok_rng⟩
def enumD (ds : List PyData) : List PyData := ds.mapIdx fun i x => .tuple [.int (i : Nat), x]
theorem ei_enum (h : EA K b t s fun as s1 => ∃ a ds Pc, as = [a] ∧ (a = .d (.list ds) ∨ ∃ n, a = .o n ∧ ∀ o, Pc o → o[n]? = some (.lst ds)) ∧ Pc s1.os ∧ Ξ (enumD ds) Pc s1) : EI K b (iEnum K t) s Ξ := fun σ H tv tl Hd ps R Q k =>
  h σ H tv tl Hd ps R _ fun vs H1 as s1 Hd1 ps1 h1 R1 a1 => by
    obtain ⟨a, ds, Pc, rfl, hc, hp, q⟩ := h1
    cases a1 with
    | @cons v _ _ _ c1 c2 =>
    cases c2
    have key : ∀ b s σ H tv ta Hd ps, Rp K b s σ H (v :: tv) (a :: ta) Hd ps → Pc s.os → ∃ p vs, v = .ref p ∧ H p = some (.lst vs) ∧ DrA K Hd vs ds := fun b s σ H tv ta Hd ps R h => by
      obtain ⟨R, a2⟩ := R.pop
      rcases hc with rfl | ⟨n, rfl, hn⟩
      · exact vw_lst R a2 rfl
      · exact vw_lst R a2 ⟨ds, hn _ h, rfl⟩
    obtain ⟨p, vs, rfl, hv, ha⟩ := key b s1 σ H1 tv tl Hd1 ps1 (R1.push c1) hp
    refine ⟨p, vs, rfl, .inl (.inl hv), k _ H1 _ Pc s1 Hd1 ps1 _ _ q (R1.push c1) ⟨fun b s σ H tv ta Hd ps i x R h hx => ?_, fun b s σ H tv ta Hd ps R h => ?_⟩⟩
    · obtain ⟨p', ws, e, hw, hb⟩ := key b s σ H tv ta Hd ps R h
      cases e
      have hi : i < ds.length := by
        have := (List.getElem?_eq_some_iff.mp hx).1
        rw [enumD, List.length_mapIdx] at this
        exact this
      have hx' : x = .tuple [.int (i : Nat), ds[i]] := by
        rw [enumD, List.getElem?_mapIdx, List.getElem?_eq_getElem hi] at hx
        exact (Option.some.inj hx).symm
      obtain ⟨w, hw1, hw2⟩ := pair_get (da_paired hb) (show ds[i]? = some ds[i] from List.getElem?_eq_getElem hi)
      have hq : SqL K H p ws := .inl (.inl hw)
      refine ⟨⟨ws, w, hq, hw1⟩, fun u H' hy => ?_⟩
      obtain ⟨T, z, rfl, hT, rfl, hz⟩ := hy
      have e : z = w := Option.some.inj ((hz ws hq).symm.trans hw1)
      subst e
      obtain ⟨R2, a2⟩ := R.newTup hT (vs := [.int (i : Nat), z]) (xs := [.int (i : Nat), ds[i]]) (.cons (Dr.int _) (.cons hw2 .nil))
      exact ⟨_, R2, by rw [hx']; exact a2⟩
    · obtain ⟨p', ws, e, hw, hb⟩ := key b s σ H tv ta Hd ps R h
      cases e
      exact ⟨ws, .inl (.inl hw), by rw [pair_len (da_paired hb), enumD, List.length_mapIdx]; exact Nat.le_refl _⟩
def signsD (t : Str) : List PyData := t.cps.toList.map fun c => .str ⟨#[c]⟩
theorem ei_str (h : EV K b te s fun a s1 => ∃ t, a = .d (.str t) ∧ Ξ (signsD t) (fun _ => True) s1) : EI K b (iStr te) s Ξ := fun σ H tv tl Hd ps R Q k =>
  h σ H tv tl Hd ps R _ fun v H1 a s1 Hd1 ps1 h1 R1 a1 => by
    obtain ⟨t, rfl, q⟩ := h1
    cases a1
    refine ⟨t, rfl, k _ H1 _ _ s1 Hd1 ps1 .non (.d .none) q (R1.push (a := .d .none) Dr.non) ⟨fun b s σ H tv ta Hd ps i x R _ hx => ?_, fun b s σ H tv ta Hd ps R _ => ?_⟩⟩
    · have hi : i < t.cps.size := by
        have := (List.getElem?_eq_some_iff.mp hx).1
        simpa [signsD] using this
      refine ⟨hi, fun u H' hy => ?_⟩
      obtain ⟨rfl, c, hc, rfl⟩ := hy
      have e : x = .str ⟨#[c]⟩ := by
        simp [signsD] at hx
        obtain ⟨c', h1, h2⟩ := hx
        rw [hc] at h1
        cases h1
        exact h2.symm
      exact ⟨Hd, R, by rw [e]; exact Dr.str _⟩
    · show t.cps.size ≤ _
      simp [signsD]
/-- for: I holds ahead of turn i -/
theorem go_for {wi : TI} (h : EI K b wi s fun ds Pc s1 => ∃ I : Nat → S → Prop, I 0 s1 ∧ (∀ i s2, i ≤ ds.length → I i s2 → Pc s2.os) ∧
      (∀ i x s2, ds[i]? = some x → I i s2 → GT K b g (.d x) s2 fun s3 => GO K b tx s3 ⟨I (i + 1), N.rt, N.nx, I (i + 1)⟩) ∧ ∀ s2, I ds.length s2 → N.nx s2) : GO K b (tFor wi g tx) s N := fun D σ H tv tl Hd ps R k =>
  h σ H tv tl Hd ps R _ fun J H1 ds Pc s1 Hd1 ps1 tx' ax h1 R1 jk => by
    obtain ⟨I, h0, hp, hs, hd⟩ := h1
    refine ⟨fun i m σ H => m = ds.length - i ∧ i ≤ ds.length ∧ ∃ s2 Hd2 ps2, I i s2 ∧ Rp K b s2 σ H (tx' :: tv) (ax :: tl) Hd2 ps2, ⟨ds.length, by simp, Nat.zero_le _, s1, Hd1, ps1, h0, R1⟩, fun i m σ H hW => ?_⟩
    obtain ⟨rfl, hi, s2, Hd2, ps2, q, R2⟩ := hW
    by_cases hlt : i < ds.length
    · have hx : ds[i]? = some ds[i] := List.getElem?_eq_getElem hlt
      obtain ⟨g1, g2⟩ := jk.go b s2 σ H tv tl Hd2 ps2 i _ R2 (hp i s2 hi q) hx
      refine .inr ⟨g1, fun σ H => ∃ s2 Hd2 ps2, I (i + 1) s2 ∧ Rp K b s2 σ H (tx' :: tv) (ax :: tl) Hd2 ps2, fun σ' H' q' => ⟨ds.length - (i + 1), by omega, rfl, hlt, q'⟩, fun v H' hy => ?_⟩
      obtain ⟨Hd3, R3, a3⟩ := g2 v H' hy
      refine hs i _ s2 hx q σ H' (tx' :: tv) (ax :: tl) Hd3 ps2 v R3 a3 _ fun σ' H' s' Hd' ps' g R' => ?_
      exact g _ σ' H' _ _ Hd' ps' R' ⟨fun σ H s Hd ps q R => ⟨s, Hd, ps, q, R⟩, fun v σ H a s Hd ps q R ha => k.rt v σ H a s Hd ps q R.pop.1 ha, fun σ H s Hd ps q R => k.nx σ H s Hd ps q R.pop.1, fun σ H s Hd ps q R => ⟨s, Hd, ps, q, R⟩⟩
    · have e : i = ds.length := by omega
      subst e
      exact .inl ⟨jk.stop b s2 σ H tv tl Hd2 ps2 R2 (hp _ s2 hi q), k.nx σ H s2 Hd2 ps2 (hd s2 q) R2.pop.1⟩
/-! comprehensions -/
def Tg (js : List Nat) (g : TG) : Prop := ∀ v σ H Q, g v σ H Q → g v σ H fun σ' H' => Q σ' H' ∧ σ'.length = σ.length ∧ ∀ i, i ∉ js → σ'[i]? = σ[i]?
def Tgs (js : List Nat) (g : TGs) : Prop := ∀ v σ H Q, g v σ H Q → g v σ H fun σ' H' => Q σ' H' ∧ σ'.length = σ.length ∧ ∀ i, i ∉ js → σ'[i]? = σ[i]?
theorem tg_name {js : List Nat} {j : Nat} (h : j ∈ js) : Tg js (gName j) := fun v σ H Q q => ⟨q, List.length_set, fun i hi => List.getElem?_set_ne (fun e => hi (by rw [← e]; exact h))⟩
theorem tg_nil {js : List Nat} : Tgs js gNil := fun v σ H Q q => ⟨q.1, q.2, rfl, fun _ _ => rfl⟩
theorem Tg.mono {js : List Nat} {g : TG} (h : Tg js g) (m : ∀ v σ H (Q Q' : L2.St → Hp → Prop), (∀ σ H, Q σ H → Q' σ H) → g v σ H Q → g v σ H Q') : True := trivial
def Mg (g : TG) : Prop := ∀ v σ H (Q Q' : L2.St → Hp → Prop), (∀ σ H, Q σ H → Q' σ H) → g v σ H Q → g v σ H Q'
def Mgs (g : TGs) : Prop := ∀ v σ H (Q Q' : L2.St → Hp → Prop), (∀ σ H, Q σ H → Q' σ H) → g v σ H Q → g v σ H Q'
theorem mg_name {j : Nat} : Mg (gName j) := fun _ _ _ _ _ m q => m _ _ q
theorem mg_nil : Mgs gNil := fun _ _ _ _ _ m q => ⟨q.1, m _ _ q.2⟩
theorem mg_cons {g : TG} {u : TGs} (h1 : Mg g) (h2 : Mgs u) : Mgs (gCons g u) := fun v σ H Q Q' m ⟨x, r, e, q⟩ => ⟨x, r, e, h1 _ _ _ _ _ (fun σ H q => h2 _ _ _ _ _ m q) q⟩
theorem mg_tup {n : Nat} {u : TGs} (h : Mgs u) : Mg (gTup K n u) := fun v σ H Q Q' m ⟨a, xs, e, h1, h2, q⟩ => ⟨a, xs, e, h1, h2, h _ _ _ _ _ m q⟩
theorem tg_cons {js : List Nat} {g : TG} {u : TGs} (m1 : Mg g) (m2 : Mgs u) (h1 : Tg js g) (h2 : Tgs js u) : Tgs js (gCons g u) := fun v σ H Q ⟨x, r, e, q⟩ =>
  ⟨x, r, e, m1 _ _ _ _ _ (fun σ' H' ⟨q, l, z⟩ => m2 _ _ _ _ _ (fun σ2 H2 ⟨q2, l2, z2⟩ => ⟨q2, l2.trans l, fun i hi => (z2 i hi).trans (z i hi)⟩) (h2 r σ' H' Q q)) (h1 x σ H _ q)⟩
theorem tg_tup {js : List Nat} {n : Nat} {u : TGs} (h : Tgs js u) : Tg js (gTup K n u) := fun v σ H Q ⟨a, xs, e, h1, h2, q⟩ => ⟨a, xs, e, h1, h2, h _ _ _ _ q⟩
theorem wipe_out {σ : L2.St} {i : Nat} : ∀ {vs : List Nat}, i ∉ vs → (wipe σ vs)[i]? = σ[i]?
  | [], _ => rfl
  | v :: vs, h => by
    unfold wipe
    rw [List.getElem?_set_ne (fun e => h (by rw [← e]; exact List.mem_cons_self))]
    exact wipe_out fun z => h (List.mem_cons_of_mem _ z)
theorem wipe_in {σ : L2.St} {i : Nat} : ∀ {vs : List Nat}, i ∈ vs → i < σ.length → (wipe σ vs)[i]? = some none
  | v :: vs, h, hl => by
    unfold wipe
    by_cases e : v = i
    · subst e
      exact List.getElem?_set_self (by rw [wipe_length]; exact hl)
    · rw [List.getElem?_set_ne e]
      exact wipe_in (List.mem_of_ne_of_mem (fun q => e q.symm) h) hl
theorem wipe_eq {σ σ' : L2.St} {vs : List Nat} (hl : σ'.length = σ.length) (h : ∀ i, i ∉ vs → σ'[i]? = σ[i]?) : wipe σ' vs = wipe σ vs := by
  apply List.ext_getElem?
  intro i
  by_cases hi : i ∈ vs
  · by_cases hlt : i < σ.length
    · rw [wipe_in hi hlt, wipe_in hi (by rw [hl]; exact hlt)]
    · rw [List.getElem?_eq_none (by rw [wipe_length]; omega), List.getElem?_eq_none (by rw [wipe_length]; omega)]
  · rw [wipe_out hi, wipe_out hi, h i hi]
theorem wp_some {s : S} {i : Nat} {a : A} : ∀ {vs : List Nat}, (s.wp vs).ss[i]? = some (some a) → s.ss[i]? = some (some a) ∧ i ∉ vs
  | [], h => ⟨h, by simp⟩
  | v :: vs, h => by
    have h' : ((s.wp vs).ss.set v none)[i]? = some (some a) := h
    by_cases e : v = i
    · subst e
      by_cases hv : v < (s.wp vs).ss.length
      · rw [List.getElem?_set_self hv] at h'; cases h'
      · rw [List.getElem?_eq_none (by rw [List.length_set]; omega)] at h'; cases h'
    · rw [List.getElem?_set_ne e] at h'
      obtain ⟨h1, h2⟩ := wp_some h'
      exact ⟨h1, by simp only [List.mem_cons, not_or]; exact ⟨fun q => e q.symm, h2⟩⟩
theorem wp_len {s : S} : ∀ {vs : List Nat}, (s.wp vs).ss.length = s.ss.length
  | [] => rfl
  | v :: vs => by
    show ((s.wp vs).ss.set v none).length = _
    rw [List.length_set]
    exact wp_len
theorem Rp.wipe {b : B} {σ : L2.St} {H Hd : Hp} {tv : List V} {ta : List A} {ps : List Addr} (R : Rp K b s σ H tv ta Hd ps) (vs : List Nat) : Rp K b (s.wp vs) (wipe σ vs) H tv ta Hd ps :=
  ⟨R.e0, R.e1, R.e2, R.nw, R.pl, R.nd, R.p0, R.fr, R.ex, R.cl, fun i a hi => by
    obtain ⟨h1, h2⟩ := wp_some hi
    obtain ⟨v, hv, ha⟩ := R.sl i a h1
    exact ⟨v, by rw [wipe_out h2]; exact hv, ha⟩, by rw [wipe_length, wp_len, R.ln], R.tm⟩
theorem Rp.unwipe {b : B} {σ σ' : L2.St} {H Hd : Hp} {tv : List V} {ta : List A} {ps : List Addr} (R : Rp K b s σ' H tv ta Hd ps) {vs : List Nat} (e : L2.wipe σ' vs = L2.wipe σ vs) : Rp K b (s.wp vs) σ H tv ta Hd ps :=
  ⟨R.e0, R.e1, R.e2, R.nw, R.pl, R.nd, R.p0, R.fr, R.ex, R.cl, fun i a hi => by
    obtain ⟨h1, h2⟩ := wp_some hi
    obtain ⟨v, hv, ha⟩ := R.sl i a h1
    exact ⟨v, by rw [← wipe_out h2, ← e, wipe_out h2]; exact hv, ha⟩, by
    have := congrArg List.length e
    rw [wipe_length, wipe_length] at this
    rw [wp_len, ← R.ln, this], R.tm⟩
/-- [elt for g in wi if tt]: the new list is the own cell n -/
theorem ev_lc {wi : TI} {vs : List Nat} (htg : Tg vs g) (hmg : Mg g) (h : EI K b wi s fun ds Pc s1 => ∃ I : Nat → List PyData → S → Prop, I 0 [] ((s1.add (.lst [])).wp vs) ∧
      (∀ i acc s2, i ≤ ds.length → I i acc s2 → Pc s2.os ∧ s2.os[s1.os.length]? = some (.lst acc)) ∧
      (∀ i x acc s2, ds[i]? = some x → I i acc s2 → GT K b g (.d x) (s2.wp vs) fun s3 => ET K b tt s3 fun k s4 =>
        (k = true → EV K b te s4 fun y s5 => ∃ z, y = .d z ∧ s5.os[s1.os.length]? = some (.lst acc) ∧ acc.length < sizeLine ∧ I (i + 1) (acc ++ [z]) ((s5.put s1.os.length (.lst (acc ++ [z]))).wp vs)) ∧
        (k = false → I (i + 1) acc (s4.wp vs))) ∧
      ∀ acc s2, I ds.length acc s2 → Φ (.o s1.os.length) s2) : EV K b (tLc wi g tt te vs) s Φ := fun σ H tv tl Hd ps R Q k =>
  h σ H tv tl Hd ps R _ fun J H1 ds Pc s1 Hd1 ps1 tx' ax h1 R1 jk => by
    obtain ⟨I, h0, hp, hs, hd⟩ := h1
    intro D hD
    obtain ⟨R2, a2⟩ := R1.new (c := .lst []) (o := .lst []) hD ⟨none_of_same R1.e1 hD, [], upd_same, .nil⟩
    have R2' : Rp K b ((s1.add (.lst [])).wp vs) σ _ _ _ Hd1 _ := R2.unwipe rfl
    have a2' : AR K Hd1 (ps1 ++ [D]) (.ref D) (.o s1.os.length) := a2
    refine ⟨fun i m H => m = ds.length - i ∧ i ≤ ds.length ∧ ∃ acc s2 Hd2 ps2, I i acc s2 ∧ Rp K b s2 σ H (tx' :: .ref D :: tv) (ax :: .o s1.os.length :: tl) Hd2 ps2, ⟨ds.length, by simp, Nat.zero_le _, [], _, Hd1, _, h0, (R2'.pop.1.push a2').push R2'.pop.2⟩, fun i m H hW => ?_⟩
    obtain ⟨rfl, hi, acc, s2, Hd2, ps2, q, R3⟩ := hW
    obtain ⟨hPc, hOs⟩ := hp i acc s2 hi q
    by_cases hlt : i < ds.length
    · have hx : ds[i]? = some ds[i] := List.getElem?_eq_getElem hlt
      have g1 := (jk.go b s2 σ H _ _ Hd2 ps2 i _ R3 hPc hx).1
      have g2 := (jk.go b (s2.wp vs) (L2.wipe σ vs) H _ _ Hd2 ps2 i _ (R3.wipe vs) hPc hx).2
      refine .inr ⟨g1, fun H => ∃ acc s2 Hd2 ps2, I (i + 1) acc s2 ∧ Rp K b s2 σ H (tx' :: .ref D :: tv) (ax :: .o s1.os.length :: tl) Hd2 ps2, fun H' q' => ⟨ds.length - (i + 1), by omega, rfl, hlt, q'⟩, fun v H' hy => ?_⟩
      obtain ⟨Hd3, R5, a5⟩ := g2 v H' hy
      refine hmg _ _ _ _ _ (fun σ2 H2 q => ⟨(wipe_eq q.2.1 q.2.2).trans (wipe_eq (wipe_length _ _) fun i hi => wipe_out hi), q.1 ((wipe_eq q.2.1 q.2.2).trans (wipe_eq (wipe_length _ _) fun i hi => wipe_out hi))⟩)
        (htg v (L2.wipe σ vs) H' (fun σ2 H2 => L2.wipe σ2 vs = L2.wipe σ vs → tt σ2 H2 fun b H3 => if b = true then te σ2 H3 fun y H4 => ∃ acc, H4 D = some (.lst acc) ∧ acc.length < sizeLine ∧
          ∃ acc' s2 Hd2 ps2, I (i + 1) acc' s2 ∧ Rp K _ s2 σ (upd H4 D (.lst (acc ++ [y]))) (tx' :: .ref D :: tv) (ax :: .o s1.os.length :: tl) Hd2 ps2 else ∃ acc s2 Hd2 ps2, I (i + 1) acc s2 ∧ Rp K _ s2 σ H3 (tx' :: .ref D :: tv) (ax :: .o s1.os.length :: tl) Hd2 ps2)
          (hs i _ acc s2 hx q (L2.wipe σ vs) H' _ _ Hd3 ps2 v R5 a5 _ fun σ2 H2 s3 Hd4 ps4 g R6 he => ?_))
      refine g σ2 H2 _ _ Hd4 ps4 R6 _ fun kk H3 s4 Hd5 ps5 g R7 => ?_
      cases kk with
      | false => exact ⟨acc, _, Hd5, ps5, g.2 rfl, R7.unwipe he⟩
      | true =>
        refine g.1 rfl σ2 H3 _ _ Hd5 ps5 R7 _ fun y H4 a s5 Hd6 ps6 g R8 a8 => ?_
        obtain ⟨z, rfl, ho, hl, hI⟩ := g
        obtain ⟨p, hpp, e⟩ := R8.pop.1.pop.2
        cases e
        obtain ⟨hn, ws, hw, ha⟩ := R8.cl _ _ D ho hpp
        refine ⟨ws, hw, by rw [pair_len (da_paired ha)]; exact hl, acc ++ [z], _, Hd6, ps6, hI, ?_⟩
        exact (R8.put (c := .lst (acc ++ [z])) ho hpp (fun z => nomatch z) ⟨hn, _, upd_same, paired_da (pair_app (da_paired ha) (.cons (show Dr K Hd6 y z from a8) .nil))⟩).unwipe he
    · have e : i = ds.length := by omega
      subst e
      exact .inl ⟨jk.stop b s2 σ H _ _ Hd2 ps2 R3 hPc, k _ _ _ _ _ _ (hd acc s2 q) R3.pop.1.pop.1 R3.pop.1.pop.2⟩
end
/-! ### defs -/
inductive Rv where
  | val (x : PyData)
  | new (c : C)
  | pv (φ : Hp → V → Prop) (m : ∀ H H' v, Same H H' → φ H v → φ H' v)
  /-- a thing with new own cells within -/
  | nw (a : A) (cs : List C)
def RvR (K : PySem.W.Frag) (H Hd' H' : Hp) (v : V) : Rv → Prop
  | .val x => Dr K Hd' v x
  | .new c => ∃ p, v = .ref p ∧ H p = none ∧ H' p ≠ none ∧ CRp K Hd' [] H' p (flt c)
  | .pv φ _ => φ Hd' v
  | .nw a cs => ∃ qs : List Addr, qs.Nodup ∧ qs.length = cs.length ∧ (∀ p, p ∈ qs → H p = none ∧ H' p ≠ none) ∧ AR K Hd' qs v a ∧ ∀ (k : Nat) cc p, cs[k]? = some cc → qs[k]? = some p → CRp K Hd' qs H' p cc
/-- an exception: its class, its own dict's fields if it has one -/
structure Xv where
  cls : Value
  fs : Option (List (Str × PyData))
mutual
def renA (κ : List Nat) : A → A
  | .o j => .o (κ.idxOf j)
  | .d x => .d x
  | .p φ m => .p φ m
  | .t xs => .t (renAs κ xs)
def renAs (κ : List Nat) : List A → List A
  | [] => []
  | a :: l => renA κ a :: renAs κ l
end
mutual
def okA (κ : List Nat) : A → Prop
  | .o j => j ∈ κ
  | .d _ => True
  | .p _ _ => True
  | .t xs => okAs κ xs
def okAs (κ : List Nat) : List A → Prop
  | [] => True
  | a :: l => okA κ a ∧ okAs κ l
end
def renC (κ : List Nat) : C → C
  | .la xs => .la (renAs κ xs)
  | .dead => .dead
  | .lst xs => .lst xs
  | .dK kvs => .dK kvs
  | .ins cl fs => .ins cl fs
def okC (κ : List Nat) : C → Prop
  | .la xs => okAs κ xs
  | _ => True
mutual
def shA (d : Nat) : A → A
  | .o j => .o (j + d)
  | .d x => .d x
  | .p φ m => .p φ m
  | .t xs => .t (shAs d xs)
def shAs (d : Nat) : List A → List A
  | [] => []
  | a :: l => shA d a :: shAs d l
end
def shC (d : Nat) : C → C
  | .la xs => .la (shAs d xs)
  | .dead => .dead
  | .lst xs => .lst xs
  | .dK kvs => .dK kvs
  | .ins cl fs => .ins cl fs
structure Spc where
  I : Type
  args : I → List A
  cells : I → List C
  pre : I → Prop
  post : I → Rv → List C → Prop
  xpost : I → Xv → List C → Prop := fun _ _ _ => False
def XvR (K : PySem.W.Frag) (Hd' : Hp) (d : Option Addr) : Option (List (Str × PyData)) → Prop
  | none => d = none
  | some fs => ∃ a ws, d = some a ∧ Hd' a = some (.xd ws) ∧ Paired (fun (w : Str × V) f => w.1 = f.1 ∧ Dr K Hd' w.2 f.2) ws fs
/-- the end of a call: what stood stands, but for the cells ps; the data has grown -/
structure Fin' (K : PySem.W.Frag) (H Hd : Hp) (ps : List Addr) (n : Nat) (Hd' H' : Hp) (more : List Addr) (os' : List C) : Prop where
  e1 : Same Hd Hd'
  e2 : Same Hd' H'
  e3 : ∀ a o, a ∉ ps → H a = some o → H' a = some o
  e4 : ∀ a, a ∉ ps → H a ≠ none → Hd a = none → Hd' a = none
  e5 : ∀ p, p ∈ ps → H' p ≠ none
  e6 : os'.length = n
  e7 : ∀ (k : Nat) cc p, os'[k]? = some cc → ps[k]? = some p → CRp K Hd' (ps ++ more) H' p cc
/-- what a def promises -/
def SpB (K : PySem.W.Frag) (f : Spc) : Sp := fun vs H Q E => ∃ Hd ps i, Same Hd H ∧ ps.Nodup ∧ ps.length = (f.cells i).length ∧ (∀ p, p ∈ ps → H p ≠ none) ∧ (∀ (k : Nat) cc p, (f.cells i)[k]? = some cc → ps[k]? = some p → CRp K Hd ps H p cc) ∧ Paired (AR K Hd ps) vs (f.args i) ∧
  f.pre i ∧ (∀ r os', f.post i r os' → ∀ v Hd' H' more, Fin' K H Hd ps (f.cells i).length Hd' H' more os' → RvR K H Hd' H' v r → Q v H') ∧
    ∀ x os', f.xpost i x os' → ∀ d Hd' H' more, Fin' K H Hd ps (f.cells i).length Hd' H' more os' → XvR K Hd' d x.fs → E x.cls d H'
/-- the new own cells κ are all that a speaks of -/
def NwOk (n : Nat) (κ : List Nat) (s' : S) (a : A) : Prop := κ.Nodup ∧ (∀ j, j ∈ κ → n ≤ j) ∧ okA κ a ∧ ∀ j, j ∈ κ → ∃ c, s'.os[j]? = some c ∧ c ≠ .dead ∧ okC κ c
def RTn (n : Nat) (Φ : Rv → List C → Prop) (a : A) (s' : S) : Prop := match a with
  | .d x => Φ (.val x) (s'.os.take n)
  | .o k => (∃ c, n ≤ k ∧ s'.os[k]? = some c ∧ c ≠ .dead ∧ Φ (.new c) (s'.os.take n)) ∨ ∃ κ, NwOk n κ s' (.o k) ∧ Φ (.nw (renA κ (.o k)) (κ.map fun j => renC κ (s'.os.getD j .dead))) (s'.os.take n)
  | .p φ m => Φ (.pv φ m) (s'.os.take n)
  | .t xs => ∃ κ, NwOk n κ s' (.t xs) ∧ Φ (.nw (renA κ (.t xs)) (κ.map fun j => renC κ (s'.os.getD j .dead))) (s'.os.take n)
def RTE (n : Nat) (Φ : Rv → List C → Prop) : EE := ⟨fun s' => RTn n Φ (.d .none) s', fun a s' => RTn n Φ a s', fun _ => False, fun _ => False⟩
def s0 (m : Nat) (as : List A) (os : List C) : S := ⟨as.map some ++ List.replicate (m - as.length) none, os⟩
section
variable {K : PySem.W.Frag} {b : B} {s s1 : S} {te ta tb tc : TE} {tt tu : TT} {t : TA} {x y : A} {Φ Ψ : A → S → Prop} {r r' : R2} {tx ty : TS} {N : EE} {g : TG} {f : Spc}
mutual
theorem ren_ar {Hd : Hp} {ps qs : List Addr} {κ : List Nat} (hq : ∀ j, j ∈ κ → qs[κ.idxOf j]? = ps[j]?) : ∀ (a : A) (v : V), okA κ a → AR' K Hd ps a v → AR' K Hd qs (renA κ a) v
  | .d _, _, _, h => h
  | .p _ _, _, _, h => h
  | .o j, _, n, ⟨p, h1, h2⟩ => ⟨p, (hq j n).trans h1, h2⟩
  | .t xs, _, n, ⟨a, vs, h1, h2, h3⟩ => ⟨a, vs, h1, h2, ren_ars hq xs vs n h3⟩
theorem ren_ars {Hd : Hp} {ps qs : List Addr} {κ : List Nat} (hq : ∀ j, j ∈ κ → qs[κ.idxOf j]? = ps[j]?) : ∀ (as : List A) (vs : List V), okAs κ as → ARs' K Hd ps as vs → ARs' K Hd qs (renAs κ as) vs
  | [], _, _, h => h
  | x :: xs, _, n, ⟨v, ws, h1, h2, h3⟩ => ⟨v, ws, h1, ren_ar hq x v n.1 h2, ren_ars hq xs ws n.2 h3⟩
end
theorem ren_cr {Hd H : Hp} {ps qs : List Addr} {κ : List Nat} {p : Addr} (hq : ∀ j, j ∈ κ → qs[κ.idxOf j]? = ps[j]?) : ∀ {c : C}, okC κ c → CRp K Hd ps H p c → CRp K Hd qs H p (renC κ c)
  | .dead, _, _ => trivial
  | .lst _, _, h => h
  | .dK _, _, h => h
  | .ins _ _, _, h => h
  | .la xs, n, ⟨h0, vs, hv, ha⟩ => ⟨h0, vs, hv, ars_pair (ren_ars hq xs vs n (pair_ars ha))⟩
theorem idx_get {κ : List Nat} {j : Nat} (h : j ∈ κ) : κ[κ.idxOf j]? = some j := by
  have l : κ.idxOf j < κ.length := List.idxOf_lt_length_iff.mpr h
  rw [List.getElem?_eq_getElem l, List.getElem_idxOf l]
theorem nw_fin {σ : L2.St} {H H' Hd' F : Hp} {tv : List V} {ta : List A} {ps ps' more : List Addr} {n : Nat} {κ : List Nat} {a : A} {v : V} {D0 : Hp} (R' : Rp K ⟨D0, F, ps⟩ s σ H' tv ta Hd' ps') (hm' : ps' = ps ++ more) (pl : n = ps.length) (F2 : ∀ p, p ∉ ps → F p = H p)
    (hκ : NwOk n κ s a) (har : AR K Hd' ps' v a) : RvR K H Hd' H' v (.nw (renA κ a) (κ.map fun j => renC κ (s.os.getD j .dead))) := by
  obtain ⟨nd, hn, ha, hc⟩ := hκ
  have hlt : ∀ j, j ∈ κ → j < ps'.length := fun j hj => by
    obtain ⟨c, h1, _⟩ := hc j hj
    rw [R'.pl]
    exact (List.getElem?_eq_some_iff.mp h1).1
  have gd : ∀ j, j ∈ κ → ps'[j]? = some (ps'.getD j 0) := fun j hj => by
    rw [List.getD_eq_getElem?_getD, List.getElem?_eq_getElem (hlt j hj)]
    rfl
  have hq : ∀ j, j ∈ κ → (κ.map fun j => ps'.getD j 0)[κ.idxOf j]? = ps'[j]? := fun j hj => by
    rw [List.getElem?_map, idx_get hj, gd j hj]
    rfl
  refine ⟨κ.map fun j => ps'.getD j 0, ?_, by rw [List.length_map, List.length_map], fun p hp => ?_, ren_ar hq a v ha har, fun k cc p hk hp => ?_⟩
  · refine List.pairwise_map.mpr (List.Pairwise.imp_of_mem (fun {x y} hx hy ne => ?_) nd)
    exact nd_ne R'.nd (gd x hx) (gd y hy) ne
  · obtain ⟨j, hj, rfl⟩ := List.mem_map.mp hp
    have hm := List.mem_of_getElem? (gd j hj)
    have hnp : ps'.getD j 0 ∉ ps := by
      intro hm2
      obtain ⟨i, hi⟩ := List.getElem?_of_mem hm2
      have hil : i < ps.length := (List.getElem?_eq_some_iff.mp hi).1
      have hi' : ps'[i]? = some (ps'.getD j 0) := (by rw [hm', List.getElem?_append_left hil] : ps'[i]? = ps[i]?).trans hi
      have := hn j hj
      exact nd_ne R'.nd hi' (gd j hj) (by omega) rfl
    refine ⟨?_, R'.ex _ hm⟩
    rw [← F2 _ hnp]
    exact R'.fr _ hm
  · rw [List.getElem?_map] at hk hp
    cases e : κ[k]? with
    | none => rw [e] at hk; cases hk
    | some j =>
      rw [e] at hk hp
      cases hk
      cases hp
      have hj := List.mem_of_getElem? e
      obtain ⟨c, h1, _, h3⟩ := hc j hj
      show CRp K Hd' _ H' _ (renC κ (s.os.getD j .dead))
      rw [show s.os.getD j .dead = c by rw [List.getD_eq_getElem?_getD, h1]; rfl]
      exact ren_cr hq h3 (R'.cl j c _ h1 (gd j hj))
theorem go_fn {vs : List V} {H : Hp} {Q : VK} {E : XK} {L : List Str} (h : SpB K f vs H Q E)
    (body : ∀ b i, f.pre i → (∀ x d σ H s tv ta Hd ps, f.xpost i x (s.os.take (f.cells i).length) → Rp K b s σ H tv ta Hd ps → XvR K Hd d x.fs → E x.cls d H) → GO K b tx (s0 L.length (f.args i) (f.cells i)) (RTE (f.cells i).length (f.post i))) : tx { nx := fun _ H' => Q .non H', rt := Q } (L2.start L vs) H := by
  obtain ⟨Hd, ps, i, e1, nd, pl, ex, cl, ha, hpre, hf, hx⟩ := h
  have hb := fun b => body b i hpre
  generalize f.args i = as at ha hb
  generalize f.cells i = os at pl cl hf hb hx
  have hlen := pair_len ha
  obtain ⟨F, hF⟩ : ∃ F : Hp, F = fun a => if a ∈ ps then none else H a := ⟨_, rfl⟩
  have F1 : ∀ p, p ∈ ps → F p = none := fun p hp => by rw [hF]; exact if_pos hp
  have F2 : ∀ p, p ∉ ps → F p = H p := fun p hp => by rw [hF]; exact if_neg hp
  have R : Rp K ⟨Hd, F, ps⟩ (s0 L.length as os) (L2.start L vs) H [] [] Hd ps := by
    refine ⟨Same.refl _, e1, fun a o e => ?_, fun a _ z => z, pl, nd, ⟨[], by simp⟩, F1, ex, cl, fun i a hi => ?_, ?_, .nil⟩
    · by_cases z : a ∈ ps
      · rw [show (B.F ⟨Hd, F, ps⟩) a = F a from rfl, F1 a z] at e; cases e
      · rw [← F2 a z]; exact e
    · have hi' : (as.map some ++ List.replicate (L.length - as.length) none)[i]? = some (some a) := hi
      by_cases hl : i < as.length
      · rw [List.getElem?_append_left (by simpa using hl), List.getElem?_map] at hi'
        cases q : as[i]? with
        | none => rw [q] at hi'; cases hi'
        | some a' =>
          rw [q] at hi'
          have e : a' = a := by simpa using hi'
          subst e
          obtain ⟨v, hv, hr⟩ := pair_get ha q
          refine ⟨v, ?_, hr⟩
          unfold L2.start
          rw [List.getElem?_append_left (by simpa [hlen] using hl), List.getElem?_map, hv]
          rfl
      · rw [List.getElem?_append_right (by simpa using hl)] at hi'
        have := List.mem_of_getElem? hi'
        have := List.eq_of_mem_replicate this
        cases this
    · unfold L2.start
      show _ = (as.map some ++ _).length
      simp [hlen]
  have F3 : ∀ {σ H' s' tv ta Hd' ps'}, Rp K ⟨Hd, F, ps⟩ s' σ H' tv ta Hd' ps' → ∃ more, Fin' K H Hd ps os.length Hd' H' more (s'.os.take os.length) ∧ ps' = ps ++ more := by
    intro σ H' s' tv ta Hd' ps' R'
    obtain ⟨more, hm⟩ := R'.p0
    have hm' : ps' = ps ++ more := hm
    have hle : os.length ≤ s'.os.length := by rw [← R'.pl, hm', List.length_append, pl]; omega
    refine ⟨more, ⟨R'.e0, R'.e1, fun a o z e => R'.e2 a o (by show F a = some o; rw [F2 a z]; exact e), fun a z e e2 => R'.nw a (by show F a ≠ none; rw [F2 a z]; exact e) e2,
      fun p hp => R'.ex p (by rw [hm']; exact List.mem_append_left _ hp), by rw [List.length_take]; omega, fun k cc p hk hp => ?_⟩, hm'⟩
    have hkl : k < ps.length := (List.getElem?_eq_some_iff.mp hp).1
    rw [← hm']
    refine R'.cl k cc p ?_ ?_
    · rw [List.getElem?_take, if_pos (by rw [← pl]; exact hkl)] at hk
      exact hk
    · rw [hm', List.getElem?_append_left hkl]
      exact hp
  have fin : ∀ v σ H' a s' Hd' ps', RTn os.length (f.post i) a s' → Rp K ⟨Hd, F, ps⟩ s' σ H' [] [] Hd' ps' → AR K Hd' ps' v a → Q v H' := by
    intro v σ H' a s' Hd' ps' q R' har
    obtain ⟨more, g, hm'⟩ := F3 R'
    cases a with
    | d x => exact hf _ _ q v Hd' H' more g har
    | p φ m => exact hf _ _ q v Hd' H' more g har
    | o k =>
      rcases q with ⟨c, hk, ho, hcd, q⟩ | ⟨κ, hκ, q⟩
      · obtain ⟨p, hp, e⟩ := har
        refine hf _ _ q v Hd' H' more g ⟨p, e, ?_, R'.ex p (List.mem_of_getElem? hp), cr_flt (R'.cl k _ p ho hp)⟩
        have hnp : p ∉ ps := by
          intro hm2
          obtain ⟨j, hj⟩ := List.getElem?_of_mem hm2
          have hjl : j < ps.length := (List.getElem?_eq_some_iff.mp hj).1
          have hj' : ps'[j]? = some p := by rw [hm', List.getElem?_append_left hjl]; exact hj
          exact nd_ne R'.nd hj' hp (by omega) rfl
        rw [← F2 p hnp]
        exact R'.fr p (List.mem_of_getElem? hp)
      · exact hf _ _ q v Hd' H' more g (nw_fin R' hm' pl.symm F2 hκ har)
    | t xs =>
      obtain ⟨κ, hκ, q⟩ := q
      exact hf _ _ q v Hd' H' more g (nw_fin R' hm' pl.symm F2 hκ har)
  refine hb ⟨Hd, F, ps⟩ (fun x d σ H' s' tv ta Hd' ps' q R' hd => hx x _ q d Hd' H' _ (F3 R').choose_spec.1 hd) _ _ H [] [] Hd ps R ⟨fun σ H' s' Hd' ps' q R' => ?_, fun v σ H' a s' Hd' ps' q R' har => ?_, fun _ _ _ _ _ z => z.elim, fun _ _ _ _ _ z => z.elim⟩
  · exact fin .non σ H' (.d .none) s' Hd' ps' q R' Dr.non
  · exact fin v σ H' a s' Hd' ps' q R' har
theorem spB_len {vs : List V} {H : Hp} {Q : VK} {E : XK} {n : Nat} (h : SpB K f vs H Q E) (hn : ∀ i, (f.args i).length = n) : vs.length = n := by
  obtain ⟨Hd, ps, i, e1, nd, pl, ex, cl, ha, hf⟩ := h
  rw [pair_len ha]
  exact hn _
/-- what a call leaves -/
def aft (s1 : S) (Φ : A → S → Prop) : Rv → Prop
  | .val x => Φ (.d x) s1
  | .new c => Φ (.o s1.os.length) (s1.add (flt c))
  | .pv φ m => Φ (.p φ m) s1
  | .nw a cs => Φ (shA s1.os.length a) ⟨s1.ss, s1.os ++ cs.map (shC s1.os.length)⟩
theorem Rp.adopt {b : B} {σ : L2.St} {H Hd : Hp} {tv : List V} {ta : List A} {ps : List Addr} (R : Rp K b s σ H tv ta Hd ps) {p : Addr} {c : C} (h1 : p ∉ ps) (h2 : b.F p = none) (h3 : H p ≠ none) (hn : CRp K Hd ps H p c) :
    Rp K b (s.add c) σ H tv ta Hd (ps ++ [p]) ∧ AR K Hd (ps ++ [p]) (.ref p) (.o s.os.length) := by
  refine ⟨⟨R.e0, R.e1, R.e2, R.nw, ?_, ?_, ?_, ?_, ?_, ?_, ?_, R.ln, pair_mono (fun _ _ q => ar_more q) R.tm⟩, p, ?_, rfl⟩
  · show (ps ++ [p]).length = (s.os ++ [c]).length
    rw [List.length_append, List.length_append, R.pl]
    rfl
  · refine List.nodup_append.mpr ⟨R.nd, List.pairwise_singleton _ _, fun a ha c hc e => ?_⟩
    rw [List.mem_singleton.mp hc] at e
    exact h1 (by rw [← e]; exact ha)
  · obtain ⟨more, e⟩ := R.p0
    exact ⟨more ++ [p], by rw [e, List.append_assoc]⟩
  · intro q hq
    rcases List.mem_append.mp hq with hq | hq
    · exact R.fr q hq
    · rw [List.mem_singleton.mp hq]
      exact h2
  · intro q hq
    rcases List.mem_append.mp hq with hq | hq
    · exact R.ex q hq
    · rw [List.mem_singleton.mp hq]
      exact h3
  · intro k cc q hk hq
    by_cases hl : k < s.os.length
    · have hk' : s.os[k]? = some cc := by rw [show (s.add c).os = s.os ++ [c] from rfl, List.getElem?_append_left hl] at hk; exact hk
      have hq' : ps[k]? = some q := by rw [List.getElem?_append_left (by rw [R.pl]; exact hl)] at hq; exact hq
      exact cr_more (R.cl k cc q hk' hq')
    · have e : k = s.os.length := by
        have := (List.getElem?_eq_some_iff.mp hk).1
        rw [show (s.add c).os = s.os ++ [c] from rfl, List.length_append, List.length_singleton] at this
        omega
      subst e
      rw [show (s.add c).os = s.os ++ [c] from rfl, List.getElem?_concat_length] at hk
      cases hk
      rw [← R.pl, List.getElem?_concat_length] at hq
      cases hq
      exact cr_more hn
  · intro i a hi
    obtain ⟨v, hv, ha⟩ := R.sl i a hi
    exact ⟨v, hv, ar_more ha⟩
  · rw [← R.pl, List.getElem?_concat_length]
mutual
theorem sh_ar {Hd : Hp} {ps qs : List Addr} : ∀ (a : A) (v : V), AR' K Hd qs a v → AR' K Hd (ps ++ qs) (shA ps.length a) v
  | .d _, _, h => h
  | .p _ _, _, h => h
  | .o j, _, ⟨p, h1, h2⟩ => ⟨p, by rw [List.getElem?_append_right (Nat.le_add_left _ _), Nat.add_sub_cancel]; exact h1, h2⟩
  | .t xs, _, ⟨a, vs, h1, h2, h3⟩ => ⟨a, vs, h1, h2, sh_ars xs vs h3⟩
theorem sh_ars {Hd : Hp} {ps qs : List Addr} : ∀ (as : List A) (vs : List V), ARs' K Hd qs as vs → ARs' K Hd (ps ++ qs) (shAs ps.length as) vs
  | [], _, h => h
  | x :: xs, _, ⟨v, ws, h1, h2, h3⟩ => ⟨v, ws, h1, sh_ar x v h2, sh_ars xs ws h3⟩
end
theorem sh_cr {Hd H : Hp} {ps qs : List Addr} {p : Addr} : ∀ {c : C}, CRp K Hd qs H p c → CRp K Hd (ps ++ qs) H p (shC ps.length c)
  | .dead, _ => trivial
  | .lst _, h => h
  | .dK _, h => h
  | .ins _ _, h => h
  | .la xs, ⟨h0, vs, hv, ha⟩ => ⟨h0, vs, hv, ars_pair (sh_ars xs vs (pair_ars ha))⟩
/-- new own cells -/
theorem Rp.adoptN {b : B} {σ : L2.St} {H Hd : Hp} {tv : List V} {ta : List A} {ps qs : List Addr} {cs : List C} (R : Rp K b s σ H tv ta Hd ps) (nd : qs.Nodup) (hl : qs.length = cs.length) (h1 : ∀ p, p ∈ qs → p ∉ ps ∧ b.F p = none ∧ H p ≠ none)
    (hc : ∀ (k : Nat) cc p, cs[k]? = some cc → qs[k]? = some p → CRp K Hd qs H p cc) : Rp K b ⟨s.ss, s.os ++ cs.map (shC s.os.length)⟩ σ H tv ta Hd (ps ++ qs) := by
  refine ⟨R.e0, R.e1, R.e2, R.nw, ?_, ?_, ?_, ?_, ?_, ?_, ?_, R.ln, pair_mono (fun _ _ q => ar_more q) R.tm⟩
  · show (ps ++ qs).length = (s.os ++ cs.map _).length
    rw [List.length_append, List.length_append, List.length_map, R.pl, hl]
  · refine List.nodup_append.mpr ⟨R.nd, nd, fun a ha c hcq e => ?_⟩
    rw [← e] at hcq
    exact (h1 a hcq).1 ha
  · obtain ⟨more, e⟩ := R.p0
    exact ⟨more ++ qs, by rw [e, List.append_assoc]⟩
  · intro q hq
    rcases List.mem_append.mp hq with hq | hq
    · exact R.fr q hq
    · exact (h1 q hq).2.1
  · intro q hq
    rcases List.mem_append.mp hq with hq | hq
    · exact R.ex q hq
    · exact (h1 q hq).2.2
  · intro k cc q hk hq
    by_cases hlt : k < s.os.length
    · rw [List.getElem?_append_left hlt] at hk
      rw [List.getElem?_append_left (by rw [R.pl]; exact hlt)] at hq
      exact cr_more (R.cl k cc q hk hq)
    · rw [List.getElem?_append_right (by omega), List.getElem?_map] at hk
      rw [List.getElem?_append_right (by rw [R.pl]; omega), R.pl] at hq
      cases e : cs[k - s.os.length]? with
      | none => rw [e] at hk; cases hk
      | some c =>
        rw [e] at hk
        cases hk
        rw [← R.pl]
        exact sh_cr (hc _ c q e hq)
  · intro i a hi
    obtain ⟨v, hv, ha⟩ := R.sl i a hi
    exact ⟨v, hv, ar_more ha⟩
theorem aft_go {b : B} {σ : L2.St} {H H' Hd' : Hp} {tv : List V} {ta : List A} {ps : List Addr} {r : Rv} {v : V} (R2 : Rp K b s σ H' tv ta Hd' ps) (hfr : ∀ p, H p = none → p ∉ ps ∧ b.F p = none) (q : aft s Φ r) (hv : RvR K H Hd' H' v r) :
    ∃ a s3 ps3, Φ a s3 ∧ Rp K b s3 σ H' tv ta Hd' ps3 ∧ AR K Hd' ps3 v a := by
  cases r with
  | val x => exact ⟨_, _, _, q, R2, hv⟩
  | pv φ m => exact ⟨_, _, _, q, R2, hv⟩
  | new xs =>
    obtain ⟨p, rfl, hn, hcd, hc⟩ := hv
    obtain ⟨R3, a3⟩ := R2.adopt (c := flt xs) (hfr p hn).1 (hfr p hn).2 hcd (cr_more (ps := []) hc)
    exact ⟨_, _, _, q, R3, a3⟩
  | nw a cs =>
    obtain ⟨qs, nd, hl, hp, ha, hc⟩ := hv
    have R3 := R2.adoptN nd hl (fun p hq => ⟨(hfr p (hp p hq).1).1, (hfr p (hp p hq).1).2, (hp p hq).2⟩) hc
    refine ⟨_, _, _, q, R3, ?_⟩
    rw [← R2.pl]
    exact sh_ar a v ha
/-- one own cell has changed, the heap has grown -/
theorem Rp.ext1 {b : B} {σ : L2.St} {H H' Hd Hd' : Hp} {tv : List V} {ta : List A} {ps : List Addr} (R : Rp K b s σ H tv ta Hd ps) {k : Nat} {p : Addr} {c c' : C} (hk : s.os[k]? = some c) (hp : ps[k]? = some p) (hc : c ≠ .dead)
    (e1 : Same Hd Hd') (e2 : Same Hd' H') (e3 : ∀ a o, a ≠ p → H a = some o → H' a = some o) (e4 : ∀ a, a ≠ p → H a ≠ none → Hd a = none → Hd' a = none) (e5 : H' p ≠ none) (hn : CRp K Hd' ps H' p c') : Rp K b (s.put k c') σ H' tv ta Hd' ps where
  e0 := R.e0.trans e1
  e1 := e2
  e2 := fun a o h => e3 a o (ne_of_none h (R.fr p (List.mem_of_getElem? hp))) (R.e2 a o h)
  nw := fun a ha hd => by
    have z : a ≠ p := fun e => ha (by rw [e]; exact R.fr p (List.mem_of_getElem? hp))
    refine e4 a z (fun q => ha ?_) (R.nw a ha hd)
    exact none_of_same R.e2 q
  pl := by rw [R.pl]; show _ = (s.os.set k c').length; rw [List.length_set]
  nd := R.nd
  p0 := R.p0
  fr := R.fr
  ex := fun q hq z => by
    by_cases e : q = p
    · exact e5 (by rw [← e]; exact z)
    · cases h : H q with
      | none => exact R.ex q hq h
      | some o => rw [e3 q o e h] at z; cases z
  cl := fun j cj q hj hq => by
    by_cases e : j = k
    · subst e
      rw [hp] at hq
      cases hq
      have : (s.os.set j c')[j]? = some c' := List.getElem?_set_self (List.getElem?_eq_some_iff.mp hk).1
      rw [show (s.put j c').os = s.os.set j c' from rfl, this] at hj
      cases hj
      exact hn
    · have hj' : s.os[j]? = some cj := by
        rw [show (s.put k c').os = s.os.set k c' from rfl, List.getElem?_set_ne (Ne.symm e)] at hj
        exact hj
      have z : q ≠ p := nd_ne R.nd hq hp e
      exact cr_up e1 (R.cl j cj q hj' hq) (fun x => e4 q z (R.ex q (List.mem_of_getElem? hq)) x) fun _ o' ho => e3 q o' z ho
  sl := fun i a hi => by
    obtain ⟨v, hv, ha⟩ := R.sl i a hi
    exact ⟨v, hv, ar_up e1 ha⟩
  ln := R.ln
  tm := pair_mono (fun _ _ q => ar_up e1 q) R.tm
theorem cr_some {Hd H : Hp} {ps : List Addr} {p : Addr} {c : C} (h : CRp K Hd ps H p c) (hc : c ≠ .dead) : H p ≠ none := by
  cases c with
  | dead => exact absurd rfl hc
  | lst xs => rw [h.2.choose_spec.1]; exact fun z => nomatch z
  | dK kvs => rw [h.2.choose_spec.1]; exact fun z => nomatch z
  | ins cl fs => rw [h.2.choose_spec.choose_spec.1]; exact fun z => nomatch z
  | la xs => rw [h.2.choose_spec.1]; exact fun z => nomatch z
/-- an exception of a callee is what is wished for here -/
def XOK1 (K : PySem.W.Frag) (b : B) (x : Xv) (s1 : S) (E : L2.St → XK) : Prop := ∀ d σ H' tv ta Hd' ps', Rp K b s1 σ H' tv ta Hd' ps' → XvR K Hd' d x.fs → E σ x.cls d H'
def XOK (K : PySem.W.Frag) (b : B) (f : Spc) (i : f.I) (s1 : S) (E : L2.St → XK) : Prop := ∀ x os', f.xpost i x os' → XOK1 K b x s1 E
theorem ars_sub0 {Hd : Hp} {ps ps' : List Addr} {vs : List V} {as : List A} (h : Paired (AR K Hd ps) vs as) (hno : ∀ a, a ∈ as → noA a = true) : Paired (AR K Hd ps') vs as := by
  induction h with
  | nil => exact .nil
  | cons h1 _ ih => exact .cons (ar_any' _ _ (hno _ List.mem_cons_self) h1) (ih fun a ha => hno a (List.mem_cons_of_mem _ ha))
/-- a call; the wish of an exception by the slots -/
def tCallG (sp : Sp) (E : L2.St → XK) (t : TA) : TE := fun σ H Q => t σ H fun vs H1 => sp (vs ++ []) H1 Q (E σ)
/-- a call with data alone -/
theorem ev_call0 {E : L2.St → XK} (h : EA K b t s fun as s1 => ∃ i, as = f.args i ∧ f.cells i = [] ∧ noO as = true ∧ f.pre i ∧ (∀ r os', f.post i r os' → aft s1 Φ r) ∧ XOK K b f i s1 E) : EV K b (tCallG (SpB K f) E t) s Φ := fun σ H tv tl Hd ps R Q k =>
  h σ H tv tl Hd ps R _ fun vs H1 as s1 Hd1 ps1 h1 R1 a1 => by
    obtain ⟨i, ei, ec, hno, hpre, hf, hx⟩ := h1
    have hno := noO_ok hno
    have ha : Paired (AR K Hd1 []) vs as := ars_sub0 a1 hno
    rw [List.append_nil]
    refine ⟨Hd1, [], i, R1.e1, .nil, by rw [ec]; rfl, fun p hp => by simp at hp, fun k cc p hk hp => by simp at hp, by rw [← ei]; exact ha, hpre, fun r os' hr v Hd' H' more ⟨e1, e2, e3, e4, _, _, _⟩ hv => ?_, fun x os' hr d Hd' H' more ⟨e1, e2, e3, e4, _, _, _⟩ hv => hx x os' hr d _ H' _ _ _ _ (R1.ext e1 e2 (fun a o h => e3 a o (by simp) h) fun a h1 h2 => e4 a (by simp) h1 h2) hv⟩
    have R2 : Rp K b s1 σ H' tv tl Hd' ps1 := R1.ext e1 e2 (fun a o h => e3 a o (by simp) h) fun a h1 h2 => e4 a (by simp) h1 h2
    have q := hf r os' hr
    obtain ⟨a, s3, ps3, q3, R3, a3⟩ := aft_go R2 (fun p hn => ⟨fun hm => R1.ex p hm hn, none_of_same R1.e2 hn⟩) q hv
    exact k v H' a s3 Hd' ps3 q3 R3 a3
theorem ars_sub {Hd : Hp} {ps ps' : List Addr} {vs : List V} {as : List A} (h : Paired (AR K Hd ps) vs as) (hno : ∀ a, a ∈ as → noA a = true) : Paired (AR K Hd ps') vs as := by
  induction h with
  | nil => exact .nil
  | cons h1 _ ih => exact .cons (ar_any' _ _ (hno _ List.mem_cons_self) h1) (ih fun a ha => hno a (List.mem_cons_of_mem _ ha))
/-- a call whose first argument is the own cell n, which it may change -/
theorem ev_call1 {E : L2.St → XK} (n : Nat) (h : EA K b t s fun as s1 => ∃ i c rest, as = .o n :: rest ∧ f.args i = .o 0 :: rest ∧ f.cells i = [flt c] ∧ s1.os[n]? = some c ∧ c ≠ .dead ∧ noO rest = true ∧ f.pre i ∧ (∀ r c', f.post i r [c'] → aft (s1.put n (flt c')) Φ r) ∧ ∀ x c', f.xpost i x [c'] → XOK1 K b x (s1.put n (flt c')) E) :
    EV K b (tCallG (SpB K f) E t) s Φ := fun σ H tv tl Hd ps R Q k =>
  h σ H tv tl Hd ps R _ fun vs H1 as s1 Hd1 ps1 h1 R1 a1 => by
    obtain ⟨i, c, rest, rfl, ea, ec, ho, hc, hno, hpre, hf, hx⟩ := h1
    have hno := noO_ok hno
    rw [List.append_nil]
    cases a1 with
    | @cons v _ vs _ h1 h2 =>
    obtain ⟨p, hp, rfl⟩ := h1
    have hcell := R1.cl n c p ho hp
    refine ⟨Hd1, [p], i, R1.e1, List.pairwise_singleton _ _, by rw [ec]; rfl, fun q hq => by rw [List.mem_singleton.mp hq]; exact R1.ex p (List.mem_of_getElem? hp), fun j cc q hj hq => ?_, by rw [ea]; exact .cons ⟨p, rfl, rfl⟩ (ars_sub h2 hno), hpre, fun r os' hr v Hd' H' more ⟨e1, e2, e3, e4, e5, e6, e7⟩ hv => ?_, fun x os' hr d Hd' H' more ⟨e1, e2, e3, e4, e5, e6, e7⟩ hv => ?_⟩
    · rw [ec] at hj
      cases j with
      | zero =>
        cases hj
        cases hq
        exact cr_flt hcell
      | succ j => cases hj
    · rw [ec] at e6
      obtain ⟨c', rfl⟩ : ∃ c', os' = [c'] := by
        cases os' with
        | nil => cases e6
        | cons c' l => cases l with
          | nil => exact ⟨c', rfl⟩
          | cons _ _ => cases e6
      have R2 : Rp K b (s1.put n (flt c')) σ H' tv tl Hd' ps1 := R1.ext1 ho hp hc e1 e2 (fun a o z h => e3 a o (by simpa using z) h) (fun a z h h' => e4 a (by simpa using z) h h') (e5 p (List.mem_singleton.mpr rfl)) (cr_flt (e7 0 c' p rfl rfl))
      have q := hf r c' hr
      obtain ⟨a, s3, ps3, q3, R3, a3⟩ := aft_go R2 (fun p hn => ⟨fun hm => R1.ex p hm hn, none_of_same R1.e2 hn⟩) q hv
      exact k v H' a s3 Hd' ps3 q3 R3 a3
    · rw [ec] at e6
      obtain ⟨c', rfl⟩ : ∃ c', os' = [c'] := by
        cases os' with
        | nil => cases e6
        | cons c' l => cases l with
          | nil => exact ⟨c', rfl⟩
          | cons _ _ => cases e6
      have R2 : Rp K b (s1.put n (flt c')) σ H' tv tl Hd' ps1 := R1.ext1 ho hp hc e1 e2 (fun a o z h => e3 a o (by simpa using z) h) (fun a z h h' => e4 a (by simpa using z) h h') (e5 p (List.mem_singleton.mpr rfl)) (cr_flt (e7 0 c' p rfl rfl))
      exact hx x c' hr d _ H' _ _ _ _ R2 hv
def flatD : PyData → Bool
  | .none | .bool _ | .int _ | .str _ => true
  | _ => false
theorem dr_flat {Hd Hd' : Hp} {v : V} : ∀ {d : PyData}, flatD d = true → Dr K Hd v d → Dr K Hd' v d
  | .none, _, h => by cases h; exact .non
  | .bool b, _, h => by cases h; exact .bl b
  | .int b, _, h => by cases h; exact .int b
  | .str b, _, h => by cases h; exact .str b
theorem vws_da {b : B} {σ : L2.St} {H Hd : Hp} {tv : List V} {ta : List A} {ps : List Addr} (R : Rp K b s σ H tv ta Hd ps) : ∀ {vs : List V} {as : List A} {xs : List PyData}, Paired (AR K Hd ps) vs as → Paired (Vw s) as xs → DrA K H vs xs
  | _, _, _, .nil, .nil => .nil
  | _, _, _, .cons h1 h2, .cons q1 q2 => .cons (vw_dr R h1 q1) (vws_da R h2 q2)
/-- a call that reads, own lists among what it reads, and answers with a flat thing -/
theorem ev_callS {E : L2.St → XK} (h : EA K b t s fun as s1 => ∃ i xs, Paired (Vw s1) as xs ∧ f.args i = xs.map A.d ∧ f.cells i = [] ∧ f.pre i ∧ (∀ r os', f.post i r os' → ∃ x, r = .val x ∧ flatD x = true ∧ Φ (.d x) s1) ∧ (∀ x os', f.xpost i x os' → x.fs = none) ∧ XOK K b f i s1 E) : EV K b (tCallG (SpB K f) E t) s Φ := fun σ H tv tl Hd ps R Q k =>
  h σ H tv tl Hd ps R _ fun vs H1 as s1 Hd1 ps1 h1 R1 a1 => by
    obtain ⟨i, xs, hw, ea, ec, hpre, hf, hn, hx⟩ := h1
    rw [List.append_nil]
    refine ⟨H1, [], i, Same.refl _, .nil, by rw [ec]; rfl, fun p hp => by simp at hp, fun k cc p hk hp => by simp at hp, by rw [ea]; exact ars_of_da (vws_da R1 a1 hw), hpre, fun r os' hr v Hd' H' more ⟨e1, e2, e3, e4, _, _, _⟩ hv => ?_, fun x os' hr d Hd' H' more ⟨e1, e2, e3, e4, _, _, _⟩ hv => ?_⟩
    · obtain ⟨x, rfl, fx, q⟩ := hf r os' hr
      have s1' : Same H1 H' := fun a o h => e3 a o (by simp) h
      exact k v H' _ s1 Hd1 ps1 q (R1.ext (Same.refl _) (R1.e1.trans s1') s1' fun a _ z => z) (dr_flat fx hv)
    · have s1' : Same H1 H' := fun a o h => e3 a o (by simp) h
      have en := hn x os' hr
      rw [en] at hv
      exact hx x os' hr d _ H' _ _ _ _ (R1.ext (Same.refl _) (R1.e1.trans s1') s1' fun a _ z => z) (by rw [en]; exact hv)
theorem xok_no {f : Spc} {i : f.I} {s1 : S} {E : L2.St → XK} (h : ∀ x os', ¬ f.xpost i x os' := by intro _ _ h; exact h) : XOK K b f i s1 E := fun x os' q => absurd q (h x os')
/-- a statement that raises -/
theorem go_rz {t : TS} (h : ∀ D σ H tv ta Hd ps, Rp K b s σ H tv ta Hd ps → t D σ H) : GO K b t s N := fun D σ H tv ta Hd ps R _ => h D σ H tv ta Hd ps R
/-- an own list that an expression hands over is from now on data -/
theorem ev_dat (h : EV K b te s fun a s1 => ∃ n xs, a = .o n ∧ s1.os[n]? = some (.lst xs) ∧ Φ (.d (.list xs)) (s1.frz n xs)) : EV K b te s Φ := fun σ H tv tl Hd ps R Q k =>
  h σ H tv tl Hd ps R _ fun v H1 a s1 Hd1 ps1 h1 R1 a1 => by
    obtain ⟨n, xs, rfl, ho, q⟩ := h1
    obtain ⟨Hd', _, R', h'⟩ := R1.frz ho
    exact k v H1 _ _ Hd' ps1 q R' (h' v a1)
/-- truth -/
def Tru (s : S) (a : A) (k : Bool) : Prop := match a with
  | .d (.bool c) => k = c
  | .d .none => k = false
  | .d (.int i) => k = (i != 0)
  | .d (.list ds) => k = !ds.isEmpty
  | .d (.tuple ds) => k = !ds.isEmpty
  | .d (.str t) => t.length ≤ sizeLine ∧ k = ((t.length : Int) != 0)
  | .o n => ∃ ds, s.os[n]? = some (.lst ds) ∧ k = !ds.isEmpty
  | _ => False
theorem tru_of {b : B} {σ : L2.St} {H Hd : Hp} {tv : List V} {ta : List A} {ps : List Addr} (R : Rp K b s σ H tv ta Hd ps) {v : V} {k : Bool} : ∀ {a : A}, AR K Hd ps v a → Tru s a k → TruV K v H k := by
  have nil_iff : ∀ {vs : List V} {ds : List PyData} {H : Hp}, DrA K H vs ds → vs.isEmpty = ds.isEmpty := fun h => by cases h <;> rfl
  intro a h e
  cases a with
  | d x =>
    cases h with
    | non => exact e
    | bl c => exact e
    | int i => exact e
    | str t => exact e
    | lst hv ha => exact .inl ⟨_, .inl (.inl (R.e1 _ _ hv)), by rw [nil_iff ha]; exact e⟩
    | tup hv ha => exact .inr (.inl ⟨_, st_up R.e1 hv, by rw [nil_iff ha]; exact e⟩)
  | o n =>
    obtain ⟨ds, hn, e⟩ := e
    obtain ⟨p, hp, rfl⟩ := h
    obtain ⟨_, vs, hv, ha⟩ := R.cl n _ p hn hp
    exact .inl ⟨vs, .inl (.inl hv), by rw [nil_iff ha]; exact e⟩
  | p φ m => exact e.elim
  | t _ => exact e.elim
theorem et_truth {Φ : Bool → S → Prop} (h : EV K b te s fun a s1 => ∃ k, Tru s1 a k ∧ Φ k s1) : ET K b (fun σ H Q => te σ H fun x H' => ∃ k, TruV K x H' k ∧ Q k H') s Φ := fun σ H tv tl Hd ps R Q k =>
  h σ H tv tl Hd ps R _ fun v H1 a s1 Hd1 ps1 h1 R1 a1 => by
    obtain ⟨c, hc, q⟩ := h1
    exact ⟨c, tru_of R1 a1 hc, k c H1 s1 Hd1 ps1 q R1⟩
theorem ev_notT (h : EV K b te s fun a s1 => ∃ k, Tru s1 a k ∧ Φ (.d (.bool (!k))) s1) : EV K b (tNotT K te) s Φ := fun σ H tv tl Hd ps R Q k =>
  h σ H tv tl Hd ps R _ fun v H1 a s1 Hd1 ps1 h1 R1 a1 => by
    obtain ⟨c, hc, q⟩ := h1
    exact ⟨c, tru_of R1 a1 hc, k _ H1 _ s1 Hd1 ps1 q R1 (.bl _)⟩
end
/-! ### operators of any kind of value -/
section
variable {X : L2.Cx}
def rAddS : R2 := fun x y H Q => ∃ i j, x = .str i ∧ y = .str j ∧ i.length + j.length ≤ sizeLine ∧ Q (.str (i ++ j)) H
def rAddA (K : PySem.W.Frag) : R2 := fun x y H Q => (rI0 fun i j => .int (i + j)) x y H Q ∨ (fun x y H Q => rAddS x y H Q ∨ (fun x y H Q => rCat x y H Q ∨ rCatA K x y H Q) x y H Q) x y H Q
theorem op_addA : OpR X (binaryOp .Add) (rAddA X.K) := op_add.or (op_add_str.or (op_cat.or op_catA))
def rMulA : R2 := fun x y H Q => (rI CMulW fun i j => .int (i * j)) x y H Q ∨ (fun x y H Q => rRep x y H Q ∨ (rI CMul fun i j => .int (i * j)) x y H Q) x y H Q
theorem op_mulA : OpR X (binaryOp .Mult) rMulA := op_mulW.or (op_rep.or op_mul)
def rLtA : R2 := fun x y H Q => (rI0 fun i j => .bl (decide (i < j))) x y H Q ∨ (fun x y H Q => ∃ i j, x = .str i ∧ y = .str j ∧ Q (.bl (decide (i.cps.toList < j.cps.toList))) H) x y H Q
def rLeA : R2 := fun x y H Q => (rI0 fun i j => .bl (decide (i ≤ j))) x y H Q ∨ (fun x y H Q => ∃ i j, x = .str i ∧ y = .str j ∧ Q (.bl (!decide (j.cps.toList < i.cps.toList))) H) x y H Q
def rGtA : R2 := fun x y H Q => (rI0 fun i j => .bl (decide (j < i))) x y H Q ∨ (fun x y H Q => ∃ i j, x = .str i ∧ y = .str j ∧ Q (.bl (decide (j.cps.toList < i.cps.toList))) H) x y H Q
def rGeA : R2 := fun x y H Q => (rI0 fun i j => .bl (decide (j ≤ i))) x y H Q ∨ (fun x y H Q => ∃ i j, x = .str i ∧ y = .str j ∧ Q (.bl (!decide (i.cps.toList < j.cps.toList))) H) x y H Q
theorem op_ltA : OpR X (compareOp .Lt) rLtA := op_lt.or op_lt_str
theorem op_leA : OpR X (compareOp .LtE) rLeA := op_le.or op_le_str
theorem op_gtA : OpR X (compareOp .Gt) rGtA := op_gt.or op_gt_str
theorem op_geA : OpR X (compareOp .GtE) rGeA := op_ge.or op_ge_str
def rIsA : R2 := fun x y H Q => (fun x y H Q => y = .non ∧ Q (.bl (decide (x = .non))) H : R2) x y H Q ∨ rIsB x y H Q
def rNotA : R2 := fun x y H Q => (fun x y H Q => y = .non ∧ Q (.bl (!decide (x = .non))) H : R2) x y H Q ∨ rNotB x y H Q
theorem op_isA : OpR X (compareOp .Is) rIsA := op_isN.or op_isBl
theorem op_notA : OpR X (compareOp .IsNot) rNotA := op_notN.or op_notBl
abbrev R3 := V → Option Int → Option Int → Hp → VK → Prop
def rSlAny (K : PySem.W.Frag) : R3 := fun x lo hi H Q => rSlL K x lo hi H Q ∨ (fun x lo hi H Q => rSlS x lo hi H Q ∨ rSlA K x lo hi H Q) x lo hi H Q
theorem sl_any : SlR X (rSlAny X.K) := sl_list.or (sl_str.or sl_tupA)
def iAny (K : PySem.W.Frag) (te : TE) : TI := fun σ H R => iList K te σ H R ∨ (iTup K te σ H R ∨ iStr te σ H R)
theorem pi_any {tg e : Expr} {te : TE} (he : PE X e te) : PI X tg e (iAny X.K te) := ⟨fun pins s σ H R I h => by
  rcases h with h | h | h
  · exact (pi_list he).run pins s σ H R I h
  · exact (pi_tup he).run pins s σ H R I h
  · exact (pi_str he).run pins s σ H R I h⟩
theorem pg_tup2 {K : PySem.W.Frag} (hK : X.K = K) {i j : Nat} {x y : Str} {p1 p2 pos : Pos} {k : Nat} (hc : X.calm = true) (hN : X.N.Nodup) (hi : X.N[i]? = some x) (hj : X.N[j]? = some y) (hx : Loc X.env.scope x) (hy : Loc X.env.scope y)
    (hfx : X.fn x = true ∨ X.env.scope.names.lookup x = some .local) (hfy : X.fn y = true ∨ X.env.scope.names.lookup y = some .local) : PG X (.Tuple [.Name x p1, .Name y p2] k pos) (gTup K 2 (gCons (gName i) (gCons (gName j) gNil))) := by
  subst hK
  exact pg_tup hc (pgs_cons (pg_name hN hi hx hfx) (pgs_cons (pg_name hN hj hy hfy) pgs_nil))
theorem pg_tup3 {K : PySem.W.Frag} (hK : X.K = K) {i j l : Nat} {x y z : Str} {p1 p2 p3 pos : Pos} {k : Nat} (hc : X.calm = true) (hN : X.N.Nodup) (hi : X.N[i]? = some x) (hj : X.N[j]? = some y) (hl : X.N[l]? = some z) (hx : Loc X.env.scope x) (hy : Loc X.env.scope y) (hz : Loc X.env.scope z)
    (hfx : X.fn x = true ∨ X.env.scope.names.lookup x = some .local) (hfy : X.fn y = true ∨ X.env.scope.names.lookup y = some .local) (hfz : X.fn z = true ∨ X.env.scope.names.lookup z = some .local) :
    PG X (.Tuple [.Name x p1, .Name y p2, .Name z p3] k pos) (gTup K 3 (gCons (gName i) (gCons (gName j) (gCons (gName l) gNil)))) := by
  subst hK
  exact pg_tup hc (pgs_cons (pg_name hN hi hx hfx) (pgs_cons (pg_name hN hj hy hfy) (pgs_cons (pg_name hN hl hz hfz) pgs_nil)))
/-! the same, K named (within a comprehension) -/
section
variable {K : PySem.W.Frag} {a b : Expr} {ta tb : TE} {pos : Pos}
theorem op_addAK (hK : X.K = K) : OpR X (binaryOp .Add) (rAddA K) := by subst hK; exact op_addA
theorem op_eqDK (hK : X.K = K) (hu : X.A.units + 64 < cLine) : OpR X (compareOp .Eq) (rEqD K) := by subst hK; exact op_eqD hu
theorem op_neDK (hK : X.K = K) (hu : X.A.units + 64 < cLine) : OpR X (compareOp .NotEq) (rNeD K) := by subst hK; exact op_neD hu
theorem ix_seqK (hK : X.K = K) : IxR X (rIx K) := by subst hK; exact ix_seq
theorem sl_anyK (hK : X.K = K) : SlR X (rSlAny K) := by subst hK; exact sl_any
theorem call_lenK (hK : X.K = K) : CallR X (.builtin "len") (fun xs H Q => ∃ x n, xs = [x] ∧ LenV K x H n ∧ Q (.int n) H) := by subst hK; exact call_len
theorem pt_truthK (hK : X.K = K) (ha : PE X a ta) (he : ∀ whole, isTrue a X.env whole = (do let v ← whole; standAt a.pos; holding [v] (truthy v))) : PT X a (fun σ H Q => ta σ H fun x H' => ∃ k, TruV K x H' k ∧ Q k H') := by subst hK; exact pt_truth ha he
theorem pe_notTK (hK : X.K = K) (ha : PE X a ta) : PE X (.UnaryOp .Not a pos) (tNotT K ta) := by subst hK; exact pe_notT ha
end
theorem Room_units65 {A : Around} {k : Nat} (hr : Room k A) : A.units + 65 < cLine := by have := hr.un; omega
end
theorem L2.Room.units65 {A : Around} {k : Nat} (hr : Room k A) : A.units + 65 < cLine := by have := hr.un; omega
section
variable {K : PySem.W.Frag} {b : B} {s s1 : S} {te ta tb tc : TE} {tt tu : TT} {t : TA} {x y : A} {Φ Ψ : A → S → Prop} {r r' : R2} {tx ty : TS} {N : EE} {g : TG} {Ξ : List PyData → (List C → Prop) → S → Prop}
theorem v2_addI {i j : Int} (q : Φ (.d (.int (i + j))) s) : V2 K b (rAddA K) (.d (.int i)) (.d (.int j)) s Φ := v2_l (v2_ii q)
theorem v2_addT {i j : Str} (hl : i.length + j.length ≤ sizeLine) (q : Φ (.d (.str (i ++ j))) s) : V2 K b (rAddA K) (.d (.str i)) (.d (.str j)) s Φ := v2_r (v2_l (v2_addS hl q))
theorem v2_addL {xs ys : List PyData} (h1 : Vw s x (.list xs)) (h2 : Vw s y (.list ys)) (hl : xs.length + ys.length ≤ sizeLine) (q : Φ (.d (.list (xs ++ ys))) s) : V2 K b (rAddA K) x y s Φ := v2_r (v2_r (v2_l (v2_cat h1 h2 hl q)))
theorem v2_addLO {xs ys : List PyData} (h1 : Vw s x (.list xs)) (h2 : Vw s y (.list ys)) (hl : xs.length + ys.length ≤ sizeLine) (q : Φ (.o s.os.length) (s.add (.lst (xs ++ ys)))) : V2 K b (rAddA K) x y s Φ := v2_r (v2_r (v2_l (v2_catO h1 h2 hl q)))
theorem v2_catT {xs ys : List PyData} (hl : xs.length + ys.length ≤ sizeLine) (q : Φ (.d (.tuple (xs ++ ys))) s) : V2 K b (rCatA K) (.d (.tuple xs)) (.d (.tuple ys)) s Φ := fun σ H tv tl Hd ps v w R a1 a2 Q k => by
  cases id a1 with
  | @tup p vs _ hv ha =>
  cases id a2 with
  | @tup p' ws _ hw hb =>
  have l1 := pair_len (da_paired ha)
  have l2 := pair_len (da_paired hb)
  refine ⟨p, p', vs, ws, rfl, rfl, st_up R.e1 hv, st_up R.e1 hw, by rw [l1, l2]; exact hl, fun e => ?_, fun _ e => ?_, fun _ _ l hn => ?_⟩
  · have e' : xs = [] := List.length_eq_zero_iff.mp (by rw [← l1, e]; rfl)
    subst e'
    exact k _ H _ s Hd ps q R a2
  · have e' : ys = [] := List.length_eq_zero_iff.mp (by rw [← l2, e]; rfl)
    subst e'
    rw [List.append_nil] at q
    exact k _ H _ s Hd ps q R a1
  · obtain ⟨R2, h2⟩ := R.newTup hn (vs := vs ++ ws) (xs := xs ++ ys) (by rw [List.map_append]; exact pair_app (ars_of_da ha) (ars_of_da hb))
    exact k _ _ _ _ _ _ q R2 h2
theorem v2_addU {xs ys : List PyData} (hl : xs.length + ys.length ≤ sizeLine) (q : Φ (.d (.tuple (xs ++ ys))) s) : V2 K b (rAddA K) (.d (.tuple xs)) (.d (.tuple ys)) s Φ := v2_r (v2_r (v2_r (v2_catT hl q)))
theorem v2_mulI {i j : Int} (c : CMulW i j) (q : Φ (.d (.int (i * j))) s) : V2 K b rMulA (.d (.int i)) (.d (.int j)) s Φ := v2_l (v2_ic c q)
theorem v2_mulL {xs : List PyData} {n : Int} (h1 : Vw s x (.list xs)) (h0 : -(2 ^ 63) ≤ n) (h2 : n < 2 ^ 63) (hl : xs.length * n.toNat ≤ sizeLine) (q : Φ (.o s.os.length) (s.add (.lst (List.replicate n.toNat xs).flatten))) : V2 K b rMulA x (.d (.int n)) s Φ := v2_r (v2_l (v2_rep h1 h0 h2 hl q))
theorem v2_mulJ {i j : Int} (c : CMul i j) (q : Φ (.d (.int (i * j))) s) : V2 K b rMulA (.d (.int i)) (.d (.int j)) s Φ := v2_r (v2_r (v2_ic c q))
theorem v2_ltI {i j : Int} (q : Φ (.d (.bool (decide (i < j)))) s) : V2 K b rLtA (.d (.int i)) (.d (.int j)) s Φ := v2_l (v2_ib (f := fun i j => decide (i < j)) q)
theorem v2_leI {i j : Int} (q : Φ (.d (.bool (decide (i ≤ j)))) s) : V2 K b rLeA (.d (.int i)) (.d (.int j)) s Φ := v2_l (v2_ib (f := fun i j => decide (i ≤ j)) q)
theorem v2_gtI {i j : Int} (q : Φ (.d (.bool (decide (j < i)))) s) : V2 K b rGtA (.d (.int i)) (.d (.int j)) s Φ := v2_l (v2_ib (f := fun i j => decide (j < i)) q)
theorem v2_geI {i j : Int} (q : Φ (.d (.bool (decide (j ≤ i)))) s) : V2 K b rGeA (.d (.int i)) (.d (.int j)) s Φ := v2_l (v2_ib (f := fun i j => decide (j ≤ i)) q)
theorem v2_isNA (n : ∀ φ m, x ≠ .p φ m) (q : Φ (.d (.bool (isNo x))) s) : V2 K b rIsA x (.d .none) s Φ := v2_l (v2_isN n q)
theorem v2_notNA (n : ∀ φ m, x ≠ .p φ m) (q : Φ (.d (.bool (!isNo x))) s) : V2 K b rNotA x (.d .none) s Φ := v2_l (v2_notN n q)
/-! slices of any kind -/
def VS (K : PySem.W.Frag) (b : B) (r : R3) (x : A) (lo hi : Option Int) (s : S) (Φ : A → S → Prop) : Prop := ∀ σ H tv ta Hd ps v, Rp K b s σ H tv ta Hd ps → AR K Hd ps v x → ∀ Q : VK,
  (∀ u H' a s' Hd' ps', Φ a s' → Rp K b s' σ H' tv ta Hd' ps' → AR K Hd' ps' u a → Q u H') → r v lo hi H Q
theorem ev_sl {r : R3} {tlo thi : TO} (h : EV K b te s fun x s1 => EO K b tlo s1 fun lo s2 => EO K b thi s2 fun hi s3 => VS K b r x lo hi s3 Φ) : EV K b (tSl r te tlo thi) s Φ := fun σ H tv tl Hd ps R Q k =>
  h σ H tv tl Hd ps R _ fun v H1 x s1 Hd1 ps1 h1 R1 a1 => h1 σ H1 (v :: tv) (x :: tl) Hd1 ps1 (R1.push a1) _ fun lo H2 s2 Hd2 ps2 h2 R2 => h2 σ H2 (v :: tv) (x :: tl) Hd2 ps2 R2 _ fun hi H3 s3 Hd3 ps3 h3 R3 =>
    h3 σ H3 tv tl Hd3 ps3 v R3.pop.1 R3.pop.2 Q k
theorem vs_list {lo hi : Option Int} {ds : List PyData} (e : Vw s x (.list ds)) (q : Φ (.d (.list (cutD ds lo hi))) s) : VS K b (rSlAny K) x lo hi s Φ := fun σ H tv tl Hd ps v R a Q k => by
  obtain ⟨p, vs, rfl, hv, ha⟩ := vw_lst R a e
  refine .inl ⟨p, vs, rfl, .inl (.inl hv), fun l hn => ?_⟩
  obtain ⟨R5, a5⟩ := R.newLst hn (ars_of_da (da_cut ha lo hi))
  exact k _ _ _ _ _ _ q R5 a5
theorem vs_listO {lo hi : Option Int} {ds : List PyData} (e : Vw s x (.list ds)) (q : Φ (.o s.os.length) (s.add (.lst (cutD ds lo hi)))) : VS K b (rSlAny K) x lo hi s Φ := fun σ H tv tl Hd ps v R a Q k => by
  obtain ⟨p, vs, rfl, hv, ha⟩ := vw_lst R a e
  refine .inl ⟨p, vs, rfl, .inl (.inl hv), fun l hn => ?_⟩
  obtain ⟨R5, a5⟩ := R.new (c := .lst (cutD ds lo hi)) (o := .lst (cutV vs lo hi)) hn ⟨none_of_same R.e1 hn, _, upd_same, da_cut ha lo hi⟩
  exact k _ _ _ _ _ _ q R5 a5
theorem vs_str {lo hi : Option Int} {t : Str} (hl : t.length ≤ sizeLine) (q : Φ (.d (.str (cutS t lo hi))) s) : VS K b (rSlAny K) (.d (.str t)) lo hi s Φ := fun σ H tv tl Hd ps v R a Q k => by
  cases a
  exact .inr (.inl ⟨t, rfl, hl, k _ H _ s Hd ps q R (.str _)⟩)
theorem cutD_all {ds : List PyData} {lo hi : Option Int} (h : HT.sIx ds.length 0 lo = 0 ∧ HT.sIx ds.length ds.length hi = ds.length) : cutD ds lo hi = ds := by
  unfold cutD
  rw [h.1, h.2]
  simp
theorem vs_tup {lo hi : Option Int} {ds : List PyData} (q : Φ (.d (.tuple (cutD ds lo hi))) s) : VS K b (rSlAny K) (.d (.tuple ds)) lo hi s Φ := fun σ H tv tl Hd ps v R a Q k => by
  cases id a with
  | @tup p vs _ hv ha =>
  have hl := pair_len (da_paired ha)
  refine .inr (.inr ⟨p, vs, rfl, st_up R.e1 hv, fun e => ?_, fun _ l hn => ?_⟩)
  · rw [hl] at e
    rw [cutD_all e] at q
    exact k _ H _ s Hd ps q R a
  · obtain ⟨R5, a5⟩ := R.newTup hn (ars_of_da (da_cut ha lo hi))
    exact k _ _ _ _ _ _ q R5 a5
/-- the script -/
def scrP (K : PySem.W.Frag) (ns : List Int) : A := .p (fun H v => ∃ a, v = .ref a ∧ SqL K H a (ns.map V.int)) fun _ _ _ e ⟨a, h1, h2⟩ => ⟨a, h1, sl_up e h2⟩
theorem da_ints {H : Hp} : ∀ ns : List Int, DrA K H (ns.map V.int) (ns.map PyData.int)
  | [] => .nil
  | n :: ns => .cons (.int n) (da_ints ns)
theorem vs_scr {lo hi : Option Int} {ns : List Int} (q : Φ (.d (.list (cutD (ns.map .int) lo hi))) s) : VS K b (rSlAny K) (scrP K ns) lo hi s Φ := fun σ H tv tl Hd ps v R a Q k => by
  obtain ⟨p, rfl, hs⟩ := a
  refine .inl ⟨p, _, rfl, sl_up R.e1 hs, fun l hn => ?_⟩
  obtain ⟨R5, a5⟩ := R.newLst hn (ars_of_da (da_cut (da_ints ns) lo hi))
  exact k _ _ _ _ _ _ q R5 a5
/-! walks of any kind -/
theorem ei_anyL (h : EI K b (iList K te) s Ξ) : EI K b (iAny K te) s Ξ := fun σ H tv tl Hd ps R Q k => .inl (h σ H tv tl Hd ps R Q k)
theorem ei_anyT (h : EI K b (iTup K te) s Ξ) : EI K b (iAny K te) s Ξ := fun σ H tv tl Hd ps R Q k => .inr (.inl (h σ H tv tl Hd ps R Q k))
theorem ei_anyS (h : EI K b (iStr te) s Ξ) : EI K b (iAny K te) s Ξ := fun σ H tv tl Hd ps R Q k => .inr (.inr (h σ H tv tl Hd ps R Q k))
theorem vm_insert {n : Nat} {ds : List PyData} {z : PyData} {i : Int} (h : s.os[n]? = some (.lst ds)) (hl : ds.length < sizeLine) (i0 : 0 ≤ i) (i1 : i < 2 ^ 63) (q : Φ (.d .none) (s.put n (.lst (ds.take i.toNat ++ [z] ++ ds.drop i.toNat)))) :
    VM K b (fun x vs H Q => ∃ (l : Addr) (xs : List V) (i : Int) (y : V), x = .ref l ∧ vs = [.int i, y] ∧ H l = some (.lst xs) ∧ xs.length < sizeLine ∧ 0 ≤ i ∧ i < 2 ^ 63 ∧ Q .non (upd H l (.lst (xs.take i.toNat ++ [y] ++ xs.drop i.toNat)))) (.o n) [.d (.int i), .d z] s Φ := fun σ H tv tl Hd ps v vs R a1 a2 Q k => by
  cases a2 with
  | @cons w _ _ _ c1 c2 =>
  cases c2 with
  | @cons w2 _ _ _ c2 c3 =>
  cases c3
  cases c1
  obtain ⟨p, hp, rfl⟩ := a1
  obtain ⟨hn, ws, hw, ha⟩ := R.cl n _ p h hp
  refine ⟨p, ws, i, w2, rfl, rfl, hw, by rw [pair_len (da_paired ha)]; exact hl, i0, i1, ?_⟩
  exact k _ _ _ _ _ _ q (R.put h hp (fun z => nomatch z) ⟨hn, _, upd_same, paired_da (pair_app (pair_app (pair_take _ (da_paired ha)) (.cons c2 .nil)) (pair_drop _ (da_paired ha)))⟩) .non
theorem vc_gcd {i j : Int} (q : Φ (.d (.int ((Nat.gcd i.natAbs j.natAbs : Nat) : Int))) s) : VC K b rGcd [.d (.int i), .d (.int j)] s Φ := fun σ H tv tl Hd ps vs R a Q k => by
  cases a with
  | @cons v _ _ _ a1 t =>
    cases t with
    | @cons v _ _ _ a2 t =>
      cases t
      cases a1; cases a2
      exact ⟨i, j, rfl, k _ H _ s Hd ps q R (.int _)⟩
/-! ### dicts of one's own -/
def keyD : Key → PyData
  | .inl i => .int i
  | .inr x => .str x
def lkD (kvs : List (Key × PyData)) (k : Key) : Option PyData := (kvs.find? fun kv => decide (kv.1 = k)).map (·.2)
def putD (kvs : List (Key × PyData)) (k : Key) (v : PyData) : List (Key × PyData) := if (kvs.any fun kv => decide (kv.1 = k)) = true then kvs.map (fun kv => if kv.1 = k then (kv.1, v) else kv) else kvs ++ [(k, v)]
abbrev KVR (K : PySem.W.Frag) (Hd : Hp) : List (Key × V) → List (Key × PyData) → Prop := Paired fun a b => a.1 = b.1 ∧ Dr K Hd a.2 b.2
theorem kv_look {Hd : Hp} {k : Key} : ∀ {ws : List (Key × V)} {kvs : List (Key × PyData)}, KVR K Hd ws kvs → (lkD kvs k = none → valV ws k = none) ∧ ∀ z, lkD kvs k = some z → ∃ v, valV ws k = some v ∧ Dr K Hd v z
  | _, _, .nil => ⟨fun _ => rfl, fun z h => by cases h⟩
  | w :: ws, kv :: kvs, .cons h t => by
    obtain ⟨i1, i2⟩ := kv_look (k := k) t
    by_cases e : kv.1 = k
    · have e' : w.1 = k := h.1.trans e
      have l1 : lkD (kv :: kvs) k = some kv.2 := by simp [lkD, List.find?_cons, e]
      rw [l1, valV_pos e']
      refine ⟨fun q => (nomatch q), fun z hz => ?_⟩
      cases hz
      exact ⟨w.2, rfl, h.2⟩
    · have e' : ¬ w.1 = k := fun q => e (h.1.symm.trans q)
      have l1 : lkD (kv :: kvs) k = lkD kvs k := by simp [lkD, List.find?_cons, e]
      rw [l1, valV_neg e']
      exact ⟨i1, i2⟩
theorem kv_isSome {Hd : Hp} {k : Key} {ws : List (Key × V)} {kvs : List (Key × PyData)} (ha : KVR K Hd ws kvs) : (valV ws k).isSome = (lkD kvs k).isSome := by
  obtain ⟨h1, h2⟩ := kv_look (k := k) ha
  cases q : lkD kvs k with
  | none => rw [h1 q]; rfl
  | some z =>
    obtain ⟨u, hu, _⟩ := h2 z q
    rw [hu]
    rfl
theorem kv_any {Hd : Hp} {k : Key} : ∀ {ws : List (Key × V)} {kvs : List (Key × PyData)}, KVR K Hd ws kvs → (ws.any fun kv => decide (kv.1 = k)) = kvs.any fun kv => decide (kv.1 = k)
  | _, _, .nil => rfl
  | w :: ws, kv :: kvs, .cons h t => by rw [List.any_cons, List.any_cons, h.1, kv_any t]
theorem kv_map {Hd : Hp} {k : Key} {v : V} {z : PyData} (hv : Dr K Hd v z) : ∀ {ws : List (Key × V)} {kvs : List (Key × PyData)}, KVR K Hd ws kvs → KVR K Hd (ws.map fun kv => if kv.1 = k then (kv.1, v) else kv) (kvs.map fun kv => if kv.1 = k then (kv.1, z) else kv)
  | _, _, .nil => .nil
  | w :: ws, kv :: kvs, .cons h t => by
    refine .cons ?_ (kv_map hv t)
    dsimp only
    by_cases e : kv.1 = k
    · rw [if_pos e, if_pos (h.1.trans e)]
      exact ⟨h.1, hv⟩
    · rw [if_neg e, if_neg (fun q => e (h.1.symm.trans q))]
      exact h
theorem kv_put {Hd : Hp} {k : Key} {v : V} {z : PyData} (hv : Dr K Hd v z) {ws : List (Key × V)} {kvs : List (Key × PyData)} (h : KVR K Hd ws kvs) : KVR K Hd (putK ws k v) (putD kvs k z) := by
  unfold putK putD
  rw [kv_any h]
  split
  · exact kv_map hv h
  · exact pair_app h (.cons ⟨rfl, hv⟩ .nil)
theorem keyD_V {Hd : Hp} {v : V} {key : Key} (h : Dr K Hd v (keyD key)) : v = kV key := by
  cases key with
  | inl i => cases h; rfl
  | inr x => cases h; rfl
theorem ev_dget {td ty : TE} (h : EV K b td s fun x s1 => EV K b ty s1 fun y s2 => ∃ n kvs key z, x = .o n ∧ s2.os[n]? = some (.dK kvs) ∧ y = .d (keyD key) ∧ lkD kvs key = some z ∧ Φ (.d z) s2) : EV K b (tDGet td ty) s Φ := fun σ H tv tl Hd ps R Q k =>
  h σ H tv tl Hd ps R _ fun v H1 x s1 Hd1 ps1 h1 R1 a1 => h1 σ H1 (v :: tv) (x :: tl) Hd1 ps1 (R1.push a1) _ fun w H2 y s2 Hd2 ps2 h2 R2 a2 => by
    obtain ⟨n, kvs, key, z, rfl, hn, rfl, hl, q⟩ := h2
    obtain ⟨R3, p, hp, rfl⟩ := R2.pop
    obtain ⟨_, ws, hw, ha⟩ := R3.cl n _ p hn hp
    obtain ⟨u, hu, hz⟩ := (kv_look ha).2 z hl
    rw [keyD_V a2]
    exact ⟨p, u, rfl, by rw [← hu]; exact DGet.k hw, k _ H2 _ s2 Hd2 ps2 q R3 hz⟩
theorem ev_din {td ty : TE} (h : EV K b ty s fun y s1 => EV K b td s1 fun x s2 => ∃ n kvs key, x = .o n ∧ s2.os[n]? = some (.dK kvs) ∧ y = .d (keyD key) ∧ Φ (.d (.bool (lkD kvs key).isSome)) s2) : EV K b (tDIn ty td) s Φ := fun σ H tv tl Hd ps R Q k =>
  h σ H tv tl Hd ps R _ fun v H1 y s1 Hd1 ps1 h1 R1 a1 => h1 σ H1 (v :: tv) (y :: tl) Hd1 ps1 (R1.push a1) _ fun w H2 x s2 Hd2 ps2 h2 R2 a2 => by
    obtain ⟨n, kvs, key, rfl, hn, rfl, q⟩ := h2
    obtain ⟨R3, a3⟩ := R2.pop
    obtain ⟨p, hp, rfl⟩ := a2
    obtain ⟨_, ws, hw, ha⟩ := R3.cl n _ p hn hp
    rw [keyD_V a3]
    refine ⟨p, _, rfl, DGet.k hw, ?_⟩
    rw [kv_isSome ha]
    exact k _ H2 _ s2 Hd2 ps2 q R3 (.bl _)
theorem ev_dnin {td ty : TE} (h : EV K b ty s fun y s1 => EV K b td s1 fun x s2 => ∃ n kvs key, x = .o n ∧ s2.os[n]? = some (.dK kvs) ∧ y = .d (keyD key) ∧ Φ (.d (.bool (!(lkD kvs key).isSome))) s2) : EV K b (tDNotIn ty td) s Φ := fun σ H tv tl Hd ps R Q k =>
  h σ H tv tl Hd ps R _ fun v H1 y s1 Hd1 ps1 h1 R1 a1 => h1 σ H1 (v :: tv) (y :: tl) Hd1 ps1 (R1.push a1) _ fun w H2 x s2 Hd2 ps2 h2 R2 a2 => by
    obtain ⟨n, kvs, key, rfl, hn, rfl, q⟩ := h2
    obtain ⟨R3, a3⟩ := R2.pop
    obtain ⟨p, hp, rfl⟩ := a2
    obtain ⟨_, ws, hw, ha⟩ := R3.cl n _ p hn hp
    rw [keyD_V a3]
    refine ⟨p, _, rfl, DGet.k hw, ?_⟩
    rw [kv_isSome ha]
    exact k _ H2 _ s2 Hd2 ps2 q R3 (.bl _)
theorem go_dput {td ty tv' : TE} (h : EV K b tv' s fun z s1 => EV K b td s1 fun x s2 => EV K b ty s2 fun y s3 => ∃ n kvs key d, z = .d d ∧ x = .o n ∧ s3.os[n]? = some (.dK kvs) ∧ y = .d (keyD key) ∧ kvs.length < sizeLine ∧ N.nx (s3.put n (.dK (putD kvs key d)))) : GO K b (sDPut td ty tv') s N := fun D σ H tv tl Hd ps R k =>
  h σ H tv tl Hd ps R _ fun u H1 z s1 Hd1 ps1 h1 R1 a1 => h1 σ H1 (u :: tv) (z :: tl) Hd1 ps1 (R1.push a1) _ fun v H2 x s2 Hd2 ps2 h2 R2 a2 => h2 σ H2 (v :: u :: tv) (x :: z :: tl) Hd2 ps2 (R2.push a2) _ fun w H3 y s3 Hd3 ps3 h3 R3 a3 => by
    obtain ⟨n, kvs, key, d, rfl, rfl, hn, rfl, hl, q⟩ := h3
    obtain ⟨R4, p, hp, rfl⟩ := R3.pop
    obtain ⟨R5, a5⟩ := R4.pop
    obtain ⟨h0, ws, hw, ha⟩ := R5.cl n _ p hn hp
    rw [keyD_V a3]
    refine ⟨p, _, rfl, DPut.k hw (by rw [pair_len ha]; exact hl), ?_⟩
    exact k.nx _ _ _ _ _ q (R5.put hn hp (fun z => nomatch z) ⟨h0, _, upd_same, kv_put a5 ha⟩)
theorem ev_dnew (q : Φ (.o s.os.length) (s.add (.dK []))) : EV K b tDNewK s Φ := fun σ H tv tl Hd ps R Q k p hn => by
  obtain ⟨R2, a2⟩ := R.new (c := .dK []) (o := .dK []) hn ⟨none_of_same R.e1 hn, [], upd_same, .nil⟩
  exact k _ _ _ _ _ _ q R2 a2
/-- a written dict -/
def EPs (K : PySem.W.Frag) (b : B) : List (TE × TE) → S → (List (Key × PyData) → S → Prop) → Prop
  | [], s, Φ => Φ [] s
  | (tk, tv) :: r, s, Φ => EV K b tk s fun x s1 => EV K b tv s1 fun y s2 => ∃ key z, x = .d (keyD key) ∧ y = .d z ∧ EPs K b r s2 fun l s3 => Φ ((key, z) :: l) s3
theorem eps_ok {b : B} : ∀ {trs : List (TE × TE)} {s : S} {Φ : List (Key × PyData) → S → Prop} {σ : L2.St} {H Hd : Hp} {tv : List V} {tl : List A} {ps : List Addr}, EPs K b trs s Φ → Rp K b s σ H tv tl Hd ps → ∀ Q : List (V × V) → Hp → Prop,
    (∀ l H' s' Hd' ps' ws, Φ l s' → Rp K b s' σ H' tv tl Hd' ps' → KVR K Hd' ws l → Q (ws.map fun w => (kV w.1, w.2)) H') → tPairs trs σ H Q
  | [], s, Φ, σ, H, Hd, tv, tl, ps, h, R, Q, k => k [] H s Hd ps [] h R .nil
  | (tk, tv') :: r, s, Φ, σ, H, Hd, tv, tl, ps, h, R, Q, k =>
    h σ H tv tl Hd ps R _ fun u H1 x s1 Hd1 ps1 h1 R1 a1 => h1 σ H1 (u :: tv) (x :: tl) Hd1 ps1 (R1.push a1) _ fun v H2 y s2 Hd2 ps2 h2 R2 a2 => by
      obtain ⟨key, z, rfl, rfl, h3⟩ := h2
      refine eps_ok h3 (R2.push a2) _ fun l H3 s3 Hd3 ps3 ws h4 R3 a3 => ?_
      obtain ⟨R4, a4⟩ := R3.pop
      obtain ⟨R5, a5⟩ := R4.pop
      have := k ((key, z) :: l) H3 s3 Hd3 ps3 ((key, v) :: ws) h4 R5 (.cons ⟨rfl, a4⟩ a3)
      rw [keyD_V a5]
      exact this
def mergeD (kvs more : List (Key × PyData)) : List (Key × PyData) := more.foldl (fun acc kv => putD acc kv.1 kv.2) kvs
theorem kv_merge {Hd : Hp} : ∀ {more : List (Key × V)} {mores : List (Key × PyData)} {ws : List (Key × V)} {kvs : List (Key × PyData)}, KVR K Hd more mores → KVR K Hd ws kvs → KVR K Hd (mergeK ws more) (mergeD kvs mores)
  | _, _, _, _, .nil, h => h
  | w :: more, kv :: mores, ws, kvs, .cons h t, q => by
    have e : w.1 = kv.1 := h.1
    show KVR K Hd (mergeK (putK ws w.1 w.2) more) (mergeD (putD kvs kv.1 kv.2) mores)
    rw [e]
    exact kv_merge t (kv_put h.2 q)
theorem ev_disp {trs : List (TE × TE)} (h : EPs K b trs (s.add (.dK [])) fun l s1 => s1.os[s.os.length]? = some (.dK []) ∧ l.length ≤ 15 ∧ Φ (.o s.os.length) (s1.put s.os.length (.dK (mergeD [] l)))) : EV K b (tDisp trs) s Φ := fun σ H tv tl Hd ps R Q k p hn => by
  obtain ⟨R2, a2⟩ := R.new (c := .dK []) (o := .dK []) hn ⟨none_of_same R.e1 hn, [], upd_same, .nil⟩
  refine eps_ok h (R2.push a2) _ fun l H3 s3 Hd3 ps3 ws h4 R3 a3 => ?_
  obtain ⟨ho, hl, q⟩ := h4
  obtain ⟨R4, p', hp, e⟩ := R3.pop
  cases e
  obtain ⟨h0, ws0, hw, ha⟩ := R4.cl _ _ p ho hp
  cases ha
  refine ⟨hw, ws, rfl, by rw [pair_len a3]; exact hl, ?_⟩
  exact k _ _ _ _ _ _ q (R4.put (c := .dK (mergeD [] l)) ho hp (fun z => nomatch z) ⟨h0, _, upd_same, kv_merge a3 .nil⟩) ⟨p, hp, rfl⟩
/-! ### isinstance of data -/
def tyN : PyData → String
  | .none => "NoneType"
  | .bool _ => "bool"
  | .int _ => "int"
  | .str _ => "str"
  | .list _ => "list"
  | .tuple _ => "tuple"
  | .dict _ => "dict"
def isTy (n : String) (d : PyData) : Bool := tyN d == n || (tyN d == "bool" && n == "int")
theorem tyx_of {H : Hp} {v : V} : ∀ {d : PyData}, Dr K H v d → TyX K H v (.type (tyN d))
  | .none, h => by cases h; exact .base .non
  | .bool b, h => by cases h; exact .base (.bl b)
  | .int b, h => by cases h; exact .base (.int b)
  | .str b, h => by cases h; exact .base (.str b)
  | .list ds, h => by
    cases h with
    | lst hv ha => exact .base (.lst hv)
  | .tuple ds, h => by
    cases h with
    | tup hv ha =>
      rcases hv with (hv | ⟨o, hv⟩) | ⟨o, its, n, hk, hc, _⟩
      · exact .base (.tup hv)
      · exact .fTuple hv
      · exact .kTuple hk hc
  | .dict _, h => by cases h
theorem kit_isTy {n : String} (hn : n = "int" ∨ n = "bool" ∨ n = "str" ∨ n = "list" ∨ n = "tuple") (d : PyData) (hd : ∀ kvs, d ≠ .dict kvs) : PySem.W.kitOne K (.type (tyN d)) (.type n) = some (isTy n d) := by
  have ht : tyN d = "NoneType" ∨ tyN d = "bool" ∨ tyN d = "int" ∨ tyN d = "str" ∨ tyN d = "list" ∨ tyN d = "tuple" := by
    cases d with
    | none => exact .inl rfl
    | bool b => exact .inr (.inl rfl)
    | int b => exact .inr (.inr (.inl rfl))
    | str b => exact .inr (.inr (.inr (.inl rfl)))
    | list b => exact .inr (.inr (.inr (.inr (.inl rfl))))
    | tuple b => exact .inr (.inr (.inr (.inr (.inr rfl))))
    | dict b => exact absurd rfl (hd b)
  unfold isTy
  generalize tyN d = m at ht
  rcases hn with rfl | rfl | rfl | rfl | rfl <;> rcases ht with rfl | rfl | rfl | rfl | rfl | rfl <;> exact kit_ty (by decide +kernel)
theorem ev_isi {n : String} (hn : n = "int" ∨ n = "bool" ∨ n = "str" ∨ n = "list" ∨ n = "tuple") (h : EV K b te s fun a s1 => ∃ d, Vw s1 a d ∧ Φ (.d (.bool (isTy n d))) s1) : EV K b (tCB (rIsi K) (tCons te (tCons (tC (.ty n)) tNil))) s Φ := fun σ H tv tl Hd ps R Q k =>
  h σ H tv tl Hd ps R _ fun v H1 a s1 Hd1 ps1 h1 R1 a1 => by
    obtain ⟨d, hv, q⟩ := h1
    have hd := vw_dr R1 a1 hv
    exact ⟨v, .ty n, _, _, isTy n d, rfl, .ty n, tyx_of hd, kit_isTy hn d (fun kvs e => by subst e; cases hd), k _ H1 _ s1 Hd1 ps1 q R1 (.bl _)⟩
end
section
variable {K : PySem.W.Frag} {b : B} {s s1 : S} {te ta tb tc : TE} {tt tu : TT} {t : TA} {x y : A} {Φ Ψ : A → S → Prop} {r r' : R2} {tx ty : TS} {N : EE} {g : TG} {f : Spc}
/-- some own cells have changed, the heap has grown -/
theorem Rp.extN {b : B} {σ : L2.St} {H H' Hd Hd' : Hp} {tv : List V} {ta : List A} {ps : List Addr} (R : Rp K b s σ H tv ta Hd ps) (P : Addr → Prop) (hP : ∀ p, P p → p ∈ ps) {os2 : List C} (hl : os2.length = s.os.length)
    (hc : ∀ (k : Nat) c p, os2[k]? = some c → ps[k]? = some p → (¬ P p ∧ s.os[k]? = some c) ∨ (P p ∧ CRp K Hd' ps H' p c))
    (e1 : Same Hd Hd') (e2 : Same Hd' H') (e3 : ∀ a o, ¬ P a → H a = some o → H' a = some o) (e4 : ∀ a, ¬ P a → H a ≠ none → Hd a = none → Hd' a = none) (e5 : ∀ p, P p → H' p ≠ none) : Rp K b ⟨s.ss, os2⟩ σ H' tv ta Hd' ps where
  e0 := R.e0.trans e1
  e1 := e2
  e2 := fun a o h => e3 a o (fun hp => by rw [R.fr a (hP a hp)] at h; cases h) (R.e2 a o h)
  nw := fun a ha hd => by
    refine e4 a (fun hp => ha (R.fr a (hP a hp))) (fun q => ha ?_) (R.nw a ha hd)
    exact none_of_same R.e2 q
  pl := by rw [R.pl]; exact hl.symm
  nd := R.nd
  p0 := R.p0
  fr := R.fr
  ex := fun q hq z => by
    by_cases e : P q
    · exact e5 q e z
    · cases h : H q with
      | none => exact R.ex q hq h
      | some o => rw [e3 q o e h] at z; cases z
  cl := fun j cj q hj hq => by
    rcases hc j cj q hj hq with ⟨n, h⟩ | ⟨_, h⟩
    · exact cr_up e1 (R.cl j cj q h hq) (fun x => e4 q n (R.ex q (List.mem_of_getElem? hq)) x) fun _ o' ho => e3 q o' n ho
    · exact h
  sl := fun i a hi => by
    obtain ⟨v, hv, ha⟩ := R.sl i a hi
    exact ⟨v, hv, ar_up e1 ha⟩
  ln := R.ln
  tm := pair_mono (fun _ _ q => ar_up e1 q) R.tm
/-- a call whose first two arguments are the own cells n and m -/
theorem ev_call2 {E : L2.St → XK} (n m : Nat) (hnm : n ≠ m) (h : EA K b t s fun as s1 => ∃ i c c2 rest, as = .o n :: .o m :: rest ∧ f.args i = .o 0 :: .o 1 :: rest ∧ f.cells i = [flt c, flt c2] ∧ s1.os[n]? = some c ∧ s1.os[m]? = some c2 ∧ c ≠ .dead ∧ c2 ≠ .dead ∧ noO rest = true ∧ f.pre i ∧
      (∀ r c' c2', f.post i r [c', c2'] → aft ((s1.put n (flt c')).put m (flt c2')) Φ r) ∧ ∀ x os', ¬ f.xpost i x os') :
    EV K b (tCallG (SpB K f) E t) s Φ := fun σ H tv tl Hd ps R Q k =>
  h σ H tv tl Hd ps R _ fun vs H1 as s1 Hd1 ps1 h1 R1 a1 => by
    obtain ⟨i, c, c2, rest, rfl, ea, ec, ho, ho2, hc, hc2, hno, hpre, hf, hx⟩ := h1
    have hno := noO_ok hno
    rw [List.append_nil]
    cases a1 with
    | @cons v _ vs _ h1 h2 =>
    cases h2 with
    | @cons v2 _ vs _ h2 h3 =>
    obtain ⟨p, hp, rfl⟩ := h1
    obtain ⟨p2, hp2, rfl⟩ := h2
    have hne : p ≠ p2 := nd_ne R1.nd hp hp2 hnm
    have hcell := R1.cl n c p ho hp
    have hcell2 := R1.cl m c2 p2 ho2 hp2
    refine ⟨Hd1, [p, p2], i, R1.e1, ?_, by rw [ec]; rfl, fun q hq => ?_, fun j cc q hj hq => ?_, by rw [ea]; exact .cons ⟨p, rfl, rfl⟩ (.cons ⟨p2, rfl, rfl⟩ (ars_sub h3 hno)), hpre, fun r os' hr v Hd' H' more ⟨e1, e2, e3, e4, e5, e6, e7⟩ hv => ?_, fun x os' hr => absurd hr (hx x os')⟩
    · exact List.nodup_cons.mpr ⟨by simpa using hne, List.pairwise_singleton _ _⟩
    · rcases List.mem_cons.mp hq with e | hq
      · rw [e]; exact R1.ex p (List.mem_of_getElem? hp)
      · rw [List.mem_singleton.mp hq]; exact R1.ex p2 (List.mem_of_getElem? hp2)
    · rw [ec] at hj
      match j, hj, hq with
      | 0, hj, hq => cases hj; cases hq; exact cr_flt hcell
      | 1, hj, hq => cases hj; cases hq; exact cr_flt hcell2
    · rw [ec] at e6
      obtain ⟨c', c2', rfl⟩ : ∃ c' c2', os' = [c', c2'] := by
        match os', e6 with
        | [c', c2'], _ => exact ⟨c', c2', rfl⟩
      have R2 : Rp K b ((s1.put n (flt c')).put m (flt c2')) σ H' tv tl Hd' ps1 := by
        refine R1.extN (fun a => a = p ∨ a = p2) (fun q hq => ?_) (os2 := (s1.os.set n (flt c')).set m (flt c2')) (by rw [List.length_set, List.length_set]) (fun k cc q hk hq => ?_) e1 e2 (fun a o z h => e3 a o (by simpa using z) h) (fun a z h h' => e4 a (by simpa using z) h h') (fun q hq => e5 q (by simpa using hq))
        · rcases hq with rfl | rfl
          · exact List.mem_of_getElem? hp
          · exact List.mem_of_getElem? hp2
        · by_cases e : k = m
          · subst e
            rw [hp2] at hq
            cases hq
            rw [List.getElem?_set_self (by rw [List.length_set]; exact (List.getElem?_eq_some_iff.mp ho2).1)] at hk
            cases hk
            exact .inr ⟨.inr rfl, cr_flt (e7 1 _ _ rfl rfl)⟩
          · rw [List.getElem?_set_ne (Ne.symm e)] at hk
            by_cases e2 : k = n
            · subst e2
              rw [hp] at hq
              cases hq
              rw [List.getElem?_set_self (List.getElem?_eq_some_iff.mp ho).1] at hk
              cases hk
              exact .inr ⟨.inl rfl, cr_flt (e7 0 _ _ rfl rfl)⟩
            · rw [List.getElem?_set_ne (Ne.symm e2)] at hk
              refine .inl ⟨fun z => ?_, hk⟩
              rcases z with z | z
              · exact nd_ne R1.nd hq hp e2 z
              · exact nd_ne R1.nd hq hp2 e z
      have q := hf r c' c2' hr
      obtain ⟨a, s3, ps3, q3, R3, a3⟩ := aft_go R2 (fun p hn => ⟨fun hm => R1.ex p hm hn, none_of_same R1.e2 hn⟩) q hv
      exact k v H' a s3 Hd' ps3 q3 R3 a3
/-- products -/
def Sm (x : Int) : Prop := x.natAbs < 2 ^ 4000
theorem cmS {i j : Int} (hi : Sm i) (hj : Sm j) : CMulW i j := wide_mul hi hj (by decide) (by decide) (by decide)
theorem cm64 {i j : Int} (hi : -(2 ^ 63) ≤ i ∧ i < 2 ^ 63) (hj : -(2 ^ 63) ≤ j ∧ j < 2 ^ 63) : CMulW i j :=
  wide_mul (a := 64) (b := 64) (by omega) (by omega) (by decide) (by decide) (by decide)
theorem fd64 {i j : Int} (hi : 0 < j ∧ j < 2 ^ 63) : CDivW i j := wide_div (b := 64) hi.1 (by omega) (by decide) (by decide)
theorem fdS {i j : Int} (h0 : 0 < j) (hj : Sm j) : CDivW i j := wide_div h0 hj (by decide) (by decide)
theorem sm64 {i : Int} (hi : -(2 ^ 63) ≤ i ∧ i < 2 ^ 63) : Sm i := by
  have : i.natAbs < 2 ^ 64 := by omega
  exact Nat.lt_trans this (Nat.pow_lt_pow_right (by decide) (by decide))
end
section
variable {K : PySem.W.Frag} {b : B} {s s1 : S} {te ta tb tc : TE} {tt tu : TT} {t : TA} {x y : A} {Φ Ψ : A → S → Prop} {r r' : R2} {tx ty : TS} {N : EE} {g : TG} {f : Spc}
theorem gts_consD {g : TG} {u : TGs} {d : PyData} {ds : List PyData} {N : S → Prop} (h : GT K b g (.d d) s fun s1 => GTs K b u (ds.map A.d) s1 N) : GTs K b (gCons g u) ((d :: ds).map A.d) s N := gts_cons h
theorem gts_nilD {N : S → Prop} (q : N s) : GTs K b gNil (([] : List PyData).map A.d) s N := gts_nil q
theorem rt_val {n : Nat} {Φ : Rv → List C → Prop} {z : PyData} (q : Φ (.val z) (s.os.take n)) : (RTE n Φ).rt (.d z) s := q
theorem rt_new {n k : Nat} {Φ : Rv → List C → Prop} {c : C} (h1 : n ≤ k) (h2 : s.os[k]? = some c) (h3 : c ≠ .dead) (q : Φ (.new c) (s.os.take n)) : (RTE n Φ).rt (.o k) s := .inl ⟨c, h1, h2, h3, q⟩
/-- a call that reads data and answers with the datum z -/
theorem ev_callV {E : L2.St → XK} (h : EA K b t s fun as s1 => ∃ i z, as = f.args i ∧ f.cells i = [] ∧ noO as = true ∧ f.pre i ∧ (∀ r os', f.post i r os' → r = .val z) ∧ (∀ x os', ¬ f.xpost i x os') ∧ Φ (.d z) s1) : EV K b (tCallG (SpB K f) E t) s Φ :=
  ev_call0 fun σ H tv tl Hd ps R Q k => h σ H tv tl Hd ps R Q fun vs H' as s' Hd' ps' ⟨i, z, e1, e2, e3, e4, e5, e6, e7⟩ => k vs H' as s' Hd' ps' ⟨i, e1, e2, e3, e4, fun r os' q => by rw [e5 r os' q]; exact e7, xok_no e6⟩
theorem go_sAsg (h : EV K b te s fun a s1 => GT K b g a s1 fun s2 => GO K b ty s2 N) : GO K b (tSeq (tAsg te g) ty) s N := go_seq (go_asg h)
theorem go_sDrop (h : EV K b te s fun _ s1 => GO K b ty s1 N) : GO K b (tSeq (tDrop te) ty) s N := go_seq (go_drop h)
theorem go_sAug {i : Nat} {f : Int → Int → Int} {m : Int} (hi : s.ss[i]? = some (some (.d (.int m)))) (h : EV K b te s fun a s1 => ∃ n, a = .d (.int n) ∧ GO K b ty (s1.set i (.d (.int (f m n)))) N) : GO K b (tSeq (tAug i te (ipI f)) ty) s N := go_seq (go_aug hi h)
/-- a statement, then the rest, with a word between them -/
theorem go_mid (M : S → Prop) (h : GO K b tx s { N with nx := M }) (k : ∀ s1, M s1 → GO K b ty s1 N) : GO K b (tSeq tx ty) s N := go_seq (go_mono h k (fun _ _ q => q) (fun _ q => q) (fun _ q => q))
theorem ev_const {v : V} {d : PyData} (hv : ∀ H, Dr K H v d) (q : Φ (.d d) s) : EV K b (tC v) s Φ := fun σ H tv tl Hd ps R Q k => k v H _ s Hd ps q R (hv Hd)
theorem put_same {k : Nat} {c : C} (h : s.os[k]? = some c) : s.put k c = s := by
  obtain ⟨hl, e⟩ := List.getElem?_eq_some_iff.mp h
  show S.mk s.ss (s.os.set k c) = s
  rw [← e, List.set_getElem_self]
/-- an argument that is an own list or data -/
def vA (o : Bool) (k : Nat) (xs : List PyData) : A := if o then .o k else .d (.list xs)
theorem ev_callA {E : L2.St → XK} {o : Bool} {n m : Nat} {xs ys : List PyData} {i : f.I} (hi : f.args i = [vA o 0 xs, vA o 1 ys]) (hc : f.cells i = if o then [.lst xs, .lst ys] else []) (hp : f.pre i) (hx : ∀ x os', ¬ f.xpost i x os') (hq : ∀ r os', f.post i r os' → os' = f.cells i) (hnm : n ≠ m)
    (h : EA K b t s fun as s1 => as = [vA o n xs, vA o m ys] ∧ (o = true → s1.os[n]? = some (.lst xs) ∧ s1.os[m]? = some (.lst ys)) ∧ ∀ r os', f.post i r os' → aft s1 Φ r) : EV K b (tCallG (SpB K f) E t) s Φ := by
  cases o with
  | false =>
    refine ev_call0 fun σ H tv tl Hd ps R Q k => h σ H tv tl Hd ps R Q fun vs H' as s' Hd' ps' g => k vs H' as s' Hd' ps' ?_
    obtain ⟨rfl, _, g⟩ := g
    exact ⟨i, by rw [hi]; rfl, by rw [hc]; rfl, rfl, hp, g, xok_no hx⟩
  | true =>
    refine ev_call2 n m hnm fun σ H tv tl Hd ps R Q k => h σ H tv tl Hd ps R Q fun vs H' as s' Hd' ps' g => k vs H' as s' Hd' ps' ?_
    obtain ⟨rfl, g1, g⟩ := g
    obtain ⟨g2, g3⟩ := g1 rfl
    refine ⟨i, .lst xs, .lst ys, [], rfl, by rw [hi]; rfl, by rw [hc]; rfl, g2, g3, (fun z => nomatch z), (fun z => nomatch z), rfl, hp, fun r c c' hr => ?_, hx⟩
    have e := hq r _ hr
    rw [hc] at e
    cases e
    rw [put_same g2, put_same g3]
    exact g r _ hr
theorem ev_callA1 {E : L2.St → XK} {o : Bool} {n : Nat} {xs : List PyData} {i : f.I} (hi : f.args i = [vA o 0 xs]) (hc : f.cells i = if o then [.lst xs] else []) (hp : f.pre i) (hx : ∀ x os', ¬ f.xpost i x os') (hq : ∀ r os', f.post i r os' → os' = f.cells i)
    (h : EA K b t s fun as s1 => as = [vA o n xs] ∧ (o = true → s1.os[n]? = some (.lst xs)) ∧ ∀ r os', f.post i r os' → aft s1 Φ r) : EV K b (tCallG (SpB K f) E t) s Φ := by
  cases o with
  | false =>
    refine ev_call0 fun σ H tv tl Hd ps R Q k => h σ H tv tl Hd ps R Q fun vs H' as s' Hd' ps' g => k vs H' as s' Hd' ps' ?_
    obtain ⟨rfl, _, g⟩ := g
    exact ⟨i, by rw [hi]; rfl, by rw [hc]; rfl, rfl, hp, g, xok_no hx⟩
  | true =>
    refine ev_call1 n fun σ H tv tl Hd ps R Q k => h σ H tv tl Hd ps R Q fun vs H' as s' Hd' ps' g => k vs H' as s' Hd' ps' ?_
    obtain ⟨rfl, g1, g⟩ := g
    have g2 := g1 rfl
    refine ⟨i, .lst xs, [], rfl, by rw [hi]; rfl, by rw [hc]; rfl, g2, (fun z => nomatch z), rfl, hp, fun r c hr => ?_, fun x c' q => absurd q (hx x _)⟩
    have e := hq r _ hr
    rw [hc] at e
    cases e
    rw [put_same g2]
    exact g r _ hr
theorem put_last {ss : List (Option A)} {cs : List C} {c c' : C} : (S.mk ss (cs ++ [c])).put cs.length c' = S.mk ss (cs ++ [c']) := by
  show S.mk ss ((cs ++ [c]).set cs.length c') = _
  rw [List.set_append_right _ _ (Nat.le_refl _), Nat.sub_self]
  rfl
theorem vm_appL {ss : List (Option A)} {cs : List C} {ds : List PyData} {z : PyData} (hl : ds.length ≤ 100000) (q : Φ (.d .none) ⟨ss, cs ++ [.lst (ds ++ [z])]⟩) : VM K b rAppend (.o cs.length) [.d z] ⟨ss, cs ++ [.lst ds]⟩ Φ :=
  vm_append List.getElem?_concat_length (Nat.lt_of_le_of_lt hl (by decide)) (by rw [put_last]; exact q)
theorem vm_popL {ss : List (Option A)} {cs : List C} {ds : List PyData} {z : PyData} (q : Φ (.d z) ⟨ss, cs ++ [.lst ds]⟩) : VM K b rPop (.o cs.length) [] ⟨ss, cs ++ [.lst (ds ++ [z])]⟩ Φ :=
  vm_pop List.getElem?_concat_length (by rw [List.length_append, List.length_singleton, Nat.add_sub_cancel, List.getElem?_append_right (Nat.le_refl _), Nat.sub_self]; rfl) (by rw [put_last, List.dropLast_concat]; exact q)
theorem get_last {cs : List C} {c : C} : (cs ++ [c])[cs.length]? = some c := List.getElem?_concat_length
theorem sh_int {i : Int} : SeqAt.shaped (.int i) = true := rfl
theorem sh_bool {i : Bool} : SeqAt.shaped (.bool i) = true := rfl
theorem v2_eqI {i j : Int} (q : Φ (.d (.bool (decide (i = j)))) s) : V2 K b (rEqD K) (.d (.int i)) (.d (.int j)) s Φ := v2_eq rfl rfl rfl rfl q
theorem v2_neI {i j : Int} (q : Φ (.d (.bool (!decide (i = j)))) s) : V2 K b (rNeD K) (.d (.int i)) (.d (.int j)) s Φ := v2_ne rfl rfl rfl rfl q
theorem v2_eqB {i j : Bool} (q : Φ (.d (.bool (i == j))) s) : V2 K b (rEqD K) (.d (.bool i)) (.d (.bool j)) s Φ := v2_eq rfl rfl rfl rfl q
theorem v2_neB {i j : Bool} (q : Φ (.d (.bool (!(i == j)))) s) : V2 K b (rNeD K) (.d (.bool i)) (.d (.bool j)) s Φ := v2_ne rfl rfl rfl rfl q
theorem v2_eqS {i j : Str} (z1 : SeqAt.shaped (.str i) = true) (z2 : SeqAt.shaped (.str j) = true) (q : Φ (.d (.bool (i == j))) s) : V2 K b (rEqD K) (.d (.str i)) (.d (.str j)) s Φ := v2_eq rfl rfl z1 z2 q
theorem v2_neS {i j : Str} (z1 : SeqAt.shaped (.str i) = true) (z2 : SeqAt.shaped (.str j) = true) (q : Φ (.d (.bool (!(i == j)))) s) : V2 K b (rNeD K) (.d (.str i)) (.d (.str j)) s Φ := v2_ne rfl rfl z1 z2 q
theorem v2_ixV {ds : List PyData} {i : Int} {z : PyData} (h : Vw s x (.list ds)) (e : atI ds i = some z) (q : Φ (.d z) s) : V2 K b (rIx K) x (.d (.int i)) s Φ := by
  cases x with
  | d d => cases h; exact v2_ixL e q
  | o k =>
    obtain ⟨xs, hk, e2⟩ := h
    cases e2
    exact v2_ixO hk e q
  | p _ _ => exact h.elim
  | t _ => exact h.elim
theorem atI_n {α : Type} {xs : List α} {i : Nat} {z : α} (h : xs[i]? = some z) : atI xs (i : Int) = some z := atI_nat h
theorem vc_lenV {ds : List PyData} (h : Vw s x (.list ds)) (q : Φ (.d (.int ds.length)) s) : VC K b (fun xs H Q => ∃ x n, xs = [x] ∧ LenV K x H n ∧ Q (.int n) H) [x] s Φ := vc_len (.inl h) q
theorem vc_lenT {ds : List PyData} (q : Φ (.d (.int ds.length)) s) : VC K b (fun xs H Q => ∃ x n, xs = [x] ∧ LenV K x H n ∧ Q (.int n) H) [.d (.tuple ds)] s Φ := vc_len (.inr rfl) q
theorem v2_isBA {i j : Bool} (q : Φ (.d (.bool (decide (i = j)))) s) : V2 K b rIsA (.d (.bool i)) (.d (.bool j)) s Φ := fun σ H tv tl Hd ps v w R a1 a2 Q k => by
  cases a1; cases a2
  exact .inr ⟨i, j, rfl, rfl, k _ H _ s Hd ps q R (.bl _)⟩
theorem v2_notBA {i j : Bool} (q : Φ (.d (.bool (!decide (i = j)))) s) : V2 K b rNotA (.d (.bool i)) (.d (.bool j)) s Φ := fun σ H tv tl Hd ps v w R a1 a2 Q k => by
  cases a1; cases a2
  exact .inr ⟨i, j, rfl, rfl, k _ H _ s Hd ps q R (.bl _)⟩
def SmC (a : Int × Int) : Prop := Sm a.1 ∧ Sm a.2
end
end Dw

/-! super().__init__(..) in an error's own __init__, the error two and more deep over ValueError -/
namespace Dw
open PySem
open _root_.L2
section
open PySem.W PySem.Calls PyProof.Rows
variable {prog : Program} {w : World} {A : Around} {E : Value → Shared → Prop} {h : Heap} {g : Array GenState} {d : Drawn} {t : Nat} {os : OsState}
variable {nm q : Str} {C N : Addr} {bs bm : List Value} {hdct : Bool} {sn : List Str} {sub : List Value} {ab : Bool} {col : Option Bool} {dd : Option Addr} {k0 k1 k2 k3 k5 : Option Value}
theorem call_mwV {u e t0 : Addr} {rest : List Value} {Q : Value → Shared → Prop}
    (hC : h.get? C = some (excClassObj nm q C N bs bm hdct sn sub ab col dd k0 k1 k2 k3 k5 "ValueError.__new__")) (he : h.get? e = some (HandSPX.excO C t0)) (hu : h.get? u = some (kxs_mw "ValueError.__init__" e)) (hrest : rest.length ≤ sizeLine)
    (hq : ∀ h' t1, (∀ b o, b ≠ e → h.get? b = some o → h'.get? b = some o) → h'.get? e = some (HandSPX.excO C t1) → Q .none ⟨h', g, d, t, os⟩) :
    wpAny (model prog w) A (call (.ref u) rest) Q E ⟨h, g, d, t, os⟩ := by
  refine wpAny_call (codeAny_of_tree ?_)
  show wpAny _ A.in1 (callAny (.ref u) ⟨rest, []⟩) _ _ _
  simp only [callAny]
  refine wpAny_bind (wpAny_load hu ?_)
  simp only [kxs_mw, show (Value.type "method-wrapper" == Value.type "method" || Value.type "method-wrapper" == Value.type "builtin_function_or_method" || Value.type "method-wrapper" == Value.type "method-wrapper") = true by decide, if_true]
  refine W.KFB.if_so (by decide) ?_
  refine wpAny_bind (ESX.check_bound F.excBase_ValueError hC he rfl ?_)
  refine wpAny_bind (wpAny_pure (wpAny_pure ?_))
  refine ⟨Code.quiet_builtin _ (by decide +kernel), codeAny_builtin F.excBase_ValueError.initEntry ?_⟩
  rw [Around.under_plainId F.excBase_ValueError.init.plain _]
  wp_walk
  refine hq _ h.objs.size (fun b o hb ho => ?_) ?_
  · rw [Heap.get?_update_other _ _ (Ne.symm hb)]
    exact Heap.get?_push_of_some _ ho
  · rw [Heap.get?_update_self _ (Heap.get?_push_of_some _ he) rfl]
    rfl
end
/-- what the written part says for super() in the __init__ of the class at C: its cell, its code -/
structure SupC (K : PySem.W.Frag) (P : Program) (C cc cda : Addr) : Prop where
  cell : ∃ cl cld csl, K.lookup cc = some ⟨cl, cld, .cell (some (.ref C)), csl⟩
  code : ∃ ccl cdd vs ccs file tf, K.lookup cda = some ⟨ccl, cdd, .fields vs, ccs⟩ ∧ vs[2]? = some (.str file tf) ∧ (P.main.file == file) = true
  sup : PySem.W.ks_superIn K C C "__init__" = some (some (.builtin "ValueError.__init__"))
  sb : PySem.W.subIn K (.ref C) (.type "ValueError") = some true
  any : PySem.W.nsIn K cStatics "thirdparty.any" = some none
  mro : PySem.W.mroIn K C (.ref C) = some true
/-- names: the parameters first; no cells of its own; free: __class__ alone -/
structure FnScopeS (N P : List Str) (sc : Scope) : Prop where
  kind : sc.kind = .function
  co : sc.isCoroutine = false
  gen : sc.isGenerator = false
  nd : N.Nodup
  pre : N.take P.length = P
  par : ∀ x ∈ P, sc.names.lookup x = some .local
  nocell : ∀ y ∈ sc.names, y.2 ≠ .cell
  fre : ∀ x, sc.names.lookup x = some .free → x = "__class__"
  hs : sc.names.lookup ("super" : Str) = some .globalImplicit
  hc : sc.names.lookup ("__class__" : Str) = some .free
/-- such a def -/
structure FunS (K : PySem.W.Frag) (P : Program) (x qual : Str) (params : Arguments) (body : List Stmt) (scope : Scope) (C : Addr) (f : Addr) (fd : FuncData) : Prop where
  ex : ∃ (oc : Value) (od : Option Addr) (kV doc pm : Value) (an : Option Addr) (cda cc : Addr) (ct : Value) (osl : Array (Option Value)),
    fd = PySem.W.fnX x qual params body scope [("__class__", cc)] .none kV doc pm an (.ref cda) ct ∧ K.lookup f = some ⟨oc, od, .func fd, osl⟩ ∧ PySem.W.codeIn K (.ref cda) qual = true ∧ SupC K P C cc cda
  kp : PySem.W.keepIn K (.ref f) = true
def cxS (CX : CXT) (P : Program) (w : World) (K : PySem.W.Frag) (mg : Str → Option Value) (base : Heap) (N : List Str) (qual : Str) (scope : Scope) (f : Addr) (cd : Value) (cc : Addr) (A : Around) (outer : List Env) (s : Shared) (H : Hp) (E : XK) : Cx where
  prog := P
  w := w
  K := K
  mg := mg
  base := base
  A := A.deeper (PySem.W.ksEnv qual scope s.heap.objs.size f cd cc)
  N := N
  s_0 := s
  H_0 := H
  env := PySem.W.ksEnv qual scope s.heap.objs.size f cd cc
  outer := outer
  stack := PySem.W.ksEnv qual scope s.heap.objs.size f cd cc :: outer
  ex := []
  calm := true
  fn := fun _ => false
  pn := []
  xe := fun e s' => wpAny (model P w) (A.deeper (PySem.W.ksEnv qual scope s.heap.objs.size f cd cc)) (leaving (PySem.W.ksEnv qual scope s.heap.objs.size f cd cc) e) (fun _ s'' => CX outer H s E e s'') (fun e' s'' => CX outer H s E e' s'') s'
theorem zip_rev_lookup {ps : List Str} (nd : ps.Nodup) : ∀ {us : List Value} {i : Nat} {y : Str} {u : Value}, ps[i]? = some y → us[i]? = some u → (ps.zip us).reverse.lookup y = some u := by
  have key : ∀ {l : List (Str × Value)} {y : Str} {u : Value}, (l.map (·.1)).Nodup → (y, u) ∈ l → l.lookup y = some u := by
    intro l
    induction l with
    | nil => intro y u _ h; cases h
    | cons p l ih =>
      intro y u nd h
      obtain ⟨a, v⟩ := p
      rw [List.map_cons, List.nodup_cons] at nd
      rcases List.mem_cons.mp h with e | h
      · cases e
        simp [List.lookup]
      · have ne : y ≠ a := fun e => nd.1 (by rw [← e]; exact List.mem_map_of_mem (f := (·.1)) h)
        have e : (y == a) = false := by simpa using ne
        simp [List.lookup, e, ih nd.2 h]
  intro us i y u h1 h2
  have sub : ∀ {ps : List Str} {us : List Value}, ((ps.zip us).map (·.1)).Sublist ps := by
    intro ps us
    have e : (ps.zip us).map (·.1) = ps.take (min ps.length us.length) := by
      induction ps generalizing us with
      | nil => simp
      | cons p ps ih =>
        cases us with
        | nil => simp
        | cons u us => simp [ih, Nat.add_min_add_right]
    rw [e]
    exact List.take_sublist _ _
  refine key ?_ ?_
  · rw [List.map_reverse]
    exact List.pairwise_reverse.mpr ((nd.sublist sub).imp fun h => h.symm)
  · rw [List.mem_reverse]
    refine List.mem_of_getElem? (i := i) ?_
    rw [List.getElem?_zip_eq_some]
    exact ⟨h1, h2⟩
theorem cell_of {f : Str} {cc c : Addr} {x : Str} (h : List.lookup x [(("__class__" : Str), cc)] = some c) : x = "__class__" ∧ c = cc := by
  by_cases e : x = "__class__"
  · subst e
    simp [List.lookup] at h
    exact ⟨rfl, h.symm⟩
  · have e' : (x == ("__class__" : Str)) = false := by simpa using e
    simp [List.lookup, e'] at h
theorem inv_startS {CX : CXT} {P : Program} {w : World} {K : PySem.W.Frag} {mg : Str → Option Value} {base : Heap} {N ps : List Str} {qual : Str} {scope : Scope} {f : Addr} {cd : Value} {C cc cda : Addr} {A : Around} {outer : List Env} {s : Shared} {h1 : Heap} {tk : Nat} {H : Hp} {E : XK} {us : List Value} {vs : List V}
    (S : FnScopeS N ps scope) (SC : SupC K P C cc cda) (hd : A.handled = none) (e0 : Env0 P w K mg base A outer s H) (hl : vs.length = ps.length) (r : Vals vs us)
    (hns : h1.Ns s.heap.objs.size (fun x => (ps.zip us).reverse.lookup x)) (hk : ∀ b o, s.heap.get? b = some o → h1.get? b = some o) :
    Inv (cxS CX P w K mg base N qual scope f cd cc A outer s H E) [] (L2.start N vs) H { s with heap := h1, toks := tk } := by
  have hpl : ps.length ≤ N.length := by have := congrArg List.length S.pre; rw [List.length_take] at this; omega
  have noA : ∀ b : Addr, b ∉ (cxS CX P w K mg base N qual scope f cd cc A outer s H E).ex := fun b z => absurd (show b ∈ ([] : List Addr) from z) (by simp)
  obtain ⟨cl, cld, csl, hcell⟩ := SC.cell
  have hb := e0.mod.kin _ _ hcell
  refine ⟨⟨e0.mod, S.kind, rfl, rfl, Nat.le_refl _, fun y z c h1 h2 => ?_, fun y hy => ?_, fun y c h _ => ?_, fun _ => hd, Around.frames_deeper e0.frames, .inr ⟨rfl, rfl⟩, fun b z => absurd z (noA b), e0.bs, e0.bsz, fun b _ _ => noA b, fun b z => absurd z (noA b), e0.funs, e0.frf⟩,
    rfl, e0.bare, Un.kept hk, ⟨_, hns, fun i y v h1 h2 h3 => ?_⟩, fun y c h => ?_, e0.hok.fresh (Nat.le_refl _), fun y c h => ?_, fun p hp => absurd (show p ∈ ([] : List (Addr × Obj)) from hp) (by simp), e0.hok.kept hk, ?_⟩
  · exact (cell_of (f := y) h1).1.trans (cell_of (f := y) h2).1.symm
  · have hy : scope.names.lookup y = some .cell ∨ scope.names.lookup y = some .free := hy
    rcases hy with hy | hy
    · exact absurd rfl (S.nocell _ (PySem.mem_of_lookup hy))
    · rw [S.fre y hy]
      exact ⟨cc, by simp [cxS, List.lookup]⟩
  · cases (show false = true from h)
  · have hi : i < vs.length := by
      unfold L2.start at h2
      by_cases hi : i < vs.length
      · exact hi
      · rw [List.getElem?_append_right (by simpa using hi)] at h2
        rw [List.getElem?_replicate] at h2
        split at h2 <;> cases h2
    have ha : vs[i]? = some v := by
      unfold L2.start at h2
      rw [List.getElem?_append_left (by simpa using hi), List.getElem?_map] at h2
      cases e : vs[i]? with
      | none => rw [e] at h2; cases h2
      | some a => rw [e] at h2; cases h2; rfl
    obtain ⟨u, hu, rv⟩ := r.get ha
    have hp : ps[i]? = some y := by
      rw [← S.pre, List.getElem?_take_of_lt (by omega)]; exact h1
    have ndP : ps.Nodup := by rw [← S.pre]; exact S.nd.sublist (List.take_sublist _ _)
    exact ⟨u, rv, .inl ⟨S.par y (List.mem_of_getElem? hp), zip_rev_lookup ndP hp hu⟩⟩
  · obtain ⟨rfl, rfl⟩ := cell_of (f := y) h
    exact ⟨_, _, hk _ _ (e0.bs _ _ hb).1, rfl⟩
  · obtain ⟨rfl, rfl⟩ := cell_of (f := y) h
    exact (e0.bs _ _ hb).2
  · unfold L2.start
    show _ = N.length
    rw [List.length_append, List.length_map, List.length_replicate]
    omega

theorem pin1 {X : Cx} {σ : L2.St} {H : Hp} {s : Shared} {u : Addr} {o : Obj} (I : Inv X [] σ H s) (h1 : s.heap.get? u = some o) (h2 : H u = none) (h3 : u ≠ X.env.locals) (h4 : u ∉ X.fs) (h5 : ∀ v, o.data ≠ .cell v) : Inv X [(u, o)] σ H s :=
  I.pins_of fun p hp => by
    rw [List.mem_singleton.mp hp]
    exact ⟨h1, h2, h3, h4, h5⟩
theorem unpin {X : Cx} {σ : L2.St} {H : Hp} {s : Shared} {l : List (Addr × Obj)} (I : Inv X l σ H s) : Inv X [] σ H s := I.pins_of fun p hp => by simp at hp
section
open PySem.W PySem.Calls PyProof.Rows
/-- THE RULE: an __init__ that begins with super().__init__(e, ..) -/
theorem fn_super {CX : CXT} {P : Program} {w : World} {K : PySem.W.Frag} {mg : Str → Option Value} {base : Heap} {k : Nat} {f : Addr} {name qual : Str} {params : Arguments} {rest : List Stmt} {scope : Scope} {dV kV doc pm ct oc : Value} {an od : Option Addr}
    {osl : Array (Option Value)} {N ps : List Str} {sp : Sp} {C cc cda : Addr} {p0 p1 p2 p3 p4 : Pos} {e : Expr} {es : List Expr} {pl : Sem Bool} {ar : Arg}
    (lk : K.lookup f = some ⟨oc, od, .func (fnX name qual params (.Expr (.Call (.Attribute (.Call (.Name "super" p0) [] [] p1) "__init__" p2) (e :: es) [] p3) p4 :: rest) scope [("__class__", cc)] dV kV doc pm an (.ref cda) ct), osl⟩)
    (hcd : codeIn K (.ref cda) qual = true) (S : FnScopeS N ps scope) (SC : SupC K P C cc cda) (T : OexC K C) (hmg : mg "super" = none) (htop : (P.main.scope.names.lookup ("super" : Str)).isSome = false)
    (hp : (params.posonlyargs ++ params.args).head? = some ar) (hps : ps.head? = some ar.arg)
    (len : ∀ vs H Q E, sp vs H Q E → vs.length = ps.length)
    (hi : ∀ L, interactive (ksEnv qual scope L f (.ref cda) cc) = false)
    (hsw : ∀ L, swapsWith (.Call (.Attribute (.Call (.Name "super" p0) [] [] p1) "__init__" p2) (e :: es) [] p3) none p4.line (ksEnv qual scope L f (.ref cda) cc) = pure false)
    (hev : ∀ L, eval (.Call (.Attribute (.Call (.Name "super" p0) [] [] p1) "__init__" p2) (e :: es) [] p3) (ksEnv qual scope L f (.ref cda) cc) = (do
      let ov ← attributeBase (.Call (.Name "super" p0) [] [] p1) "__init__" (ksEnv qual scope L f (.ref cda) cc) (eval (.Call (.Name "super" p0) [] [] p1) (ksEnv qual scope L f (.ref cda) cc))
      standAt p2.atName
      let (fx, first) ← holding [ov] (getMethod ov "__init__" pl)
      callWith p3 fx first (backTo p3 (starEach (e :: es) (ksEnv qual scope L f (.ref cda) cc))) []))
    (he : ∀ L, starEach (e :: es) (ksEnv qual scope L f (.ref cda) cc) = (false, eval e (ksEnv qual scope L f (.ref cda) cc)) :: starEach es (ksEnv qual scope L f (.ref cda) cc))
    (hpl : ∀ L, (backTo p3 (starEach es (ksEnv qual scope L f (.ref cda) cc))).any (·.1) = false)
    (hbody : ∀ (A : Around) (outer : List Env) (s : Shared) (H : Hp) (vs : List V) (Q : VK) (E : XK), Room k (A.deeper (ksEnv qual scope s.heap.objs.size f (.ref cda) cc)) → sp vs H Q E →
      ∃ ta t a, PA (cxS CX P w K mg base N qual scope f (.ref cda) cc A outer s H E) (e :: es) ta ∧ PSs (cxS CX P w K mg base N qual scope f (.ref cda) cc A outer s H E) rest t ∧ vs.head? = some (.ref a) ∧ H a = some (exo a C none) ∧
        ta (L2.start N vs) H fun us H1 => us.length ≤ 1000 ∧ H1 a = some (exo a C none) ∧ t { nx := fun _ H' => Q .non H', rt := Q } (L2.start N vs) H1) :
    FnOk P w K mg base CX (k + 1) f (fnX name qual params (.Expr (.Call (.Attribute (.Call (.Name "super" p0) [] [] p1) "__init__" p2) (e :: es) [] p3) p4 :: rest) scope [("__class__", cc)] dV kV doc pm an (.ref cda) ct) ps sp := by
  refine ⟨len, fun A outer s H args us vs Q E hr e0 hb r hsp => ?_⟩
  have hl := len _ _ _ _ hsp
  have KX : K.In s.heap := e0.mod.kin.keeps fun b o e => (e0.bs b o e).1
  have lim : s.heap.NoLimit := e0.mod.nolimit.keeps fun b o e => (e0.bs b o e).1
  refine ks_codeAny_call_defAt (binds := ps.zip us) hr.depth (KX _ _ lk) rfl lim (codeRec_of KX hcd) rfl hb S.nocell (fun y hy => S.par y.1 (List.of_mem_zip hy).1) (fun h1 hns hk => ?_) S.co S.gen S.kind
  have I := inv_startS (qual := qual) (CX := CX) (P := P) (w := w) (mg := mg) (base := base) (N := N) (ps := ps) (f := f) (cd := .ref cda) (A := A) (outer := outer) (tk := s.toks + (ps.zip us).length) (E := E) S SC hr.hd e0 hl r hns hk
  obtain ⟨ta, t, a, hA, hS, hva, hHa, hq⟩ := hbody A outer s H vs Q E (hr.deeper _) hsp
  obtain ⟨nm, q, CN, bs, bm, sn, sub, ab, col, dd, k0, k1, k2, k3, k5, hC, hbm⟩ := T.cls
  have hcl : clsIn K C = some { name := nm, bases := bs, mro := .ref C :: bm, ns := CN, qualname := q, hasDict := true, slotNames := sn, subclasses := sub, abstract := ab, collection := col, hasDel := false } := by unfold clsIn; rw [hC] <;> rfl
  obtain ⟨t1, ho⟩ := exo_at I.hok hHa
  obtain ⟨ccl, cdd, cvs, ccs, file, tf, hcode, hvs, hfile⟩ := SC.code
  obtain ⟨cl, cld, csl, hcell⟩ := SC.cell
  obtain ⟨mb, hb1, hb2⟩ := I.mod.blt
  have K1 := I.kIn
  have hself : (ps.zip us).reverse.lookup ar.arg = some (.ref a) := by
    have ndP : ps.Nodup := by rw [← S.pre]; exact S.nd.sublist (List.take_sublist _ _)
    refine zip_rev_lookup ndP (i := 0) (by rw [← List.head?_eq_getElem?]; exact hps) ?_
    cases r with
    | nil => cases hva
    | cons h _ => cases hva; rw [show _ = Value.ref a from h]; rfl
  have har : scope.names.lookup ar.arg = some .local := S.par _ (List.mem_of_mem_head? hps)
  obtain ⟨hh, g, d, tk, os⟩ := s
  have I' := I
  show PySem.wpAt (model P w) (A.deeper (ksEnv qual scope hh.objs.size f (.ref cda) cc)) (.func _ (ksEnv qual scope hh.objs.size f (.ref cda) cc)) (execs (_ :: rest) (ksEnv qual scope hh.objs.size f (.ref cda) cc)) _ _ _
  refine ks_wpAt_execs_cons (ks_wpAt_Expr_any ?_ (hi _) (hsw _))
  refine ks_wpAt_MethodCall (pl := pl) ?_ (hev _)
  refine ks_wpAt_super_base (f := f) (cc := cda) S.hs S.hc (by decide) rfl (K1 _ _ lk) rfl hp rfl (K1 _ _ hcode) rfl hvs hfile htop ?_
  refine ks_loadName_global S.kind S.hs (loadGlobal_builtin (I.mod.glob.keeps I.bk) hmg (hb1.keeps I.bk) ((hb2 _ (by decide)).trans (by decide +kernel)) ⟨rfl, ?_⟩)
  refine wpAny_loadName_free S.kind S.hc rfl ⟨_, K1 _ _ hcell, rfl⟩ ?_
  refine wpAny_loadName_local S.kind har hns hself ?_
  refine ks_wpAny_isType_cls (K1 _ _ hC) rfl ⟨rfl, ?_⟩
  refine ks_wpAny_call_super (K1 _ _ hC) rfl ho rfl (fun c z => by cases z) (looks_mroIn K1 SC.mro) (fun h2 e2 kp2 => ?_)
  have I2 : Inv (cxS CX P w K mg base N qual scope f (.ref cda) cc A outer ⟨hh, g, d, tk, os⟩ H E) [] (L2.start N vs) H ⟨h2, g, d, tk + (ps.zip us).length, os⟩ := I.kept (t' := tk + (ps.zip us).length) kp2
  have K2 := I2.kIn
  have hf := SC.sup
  unfold ks_superIn at hf
  rw [hcl] at hf
  have J2 : InstAt h2 a { cls := .ref C, dict := none, data := .fields #[.ref t1, .none, .none, .none, .bool false, .none] } C none := ⟨kp2 _ _ ho, rfl, rfl, trivial⟩
  have hxC : a ≠ C := ks_ne K2 J2 hcl
  refine kxs_getMethod kxs_ValueError e2 (looks_opaque K2 SC.any) (fun A Q E s k q => wpAny_bind ((looks_clsIn K2 hcl) A _ E s k (wpAny_pure q))) rfl K2 hf (J2.type.andThen (looks_subIn K2 SC.sb)) hxC (by decide) ?_
  have hget : (h2.push (kxs_mw "ValueError.__init__" a)).get? h2.objs.size = some (kxs_mw "ValueError.__init__" a) := Heap.get?_push_at rfl rfl
  have I3 := pin1 (I2.kept (h' := h2.push (kxs_mw "ValueError.__init__" a)) (t' := tk + (ps.zip us).length + 1) fun b o e => Heap.get?_push_of_some _ e) hget (I2.hok.fresh (Nat.le_refl _)) (Nat.ne_of_gt I2.lt) (I2.nofs (Nat.le_refl _)) (fun v z => by cases z)
  rw [he]
  refine kxs_callWith (i := "ValueError.__init__") (x := a) (by show (false || (backTo p3 (starEach es _)).any (·.1)) = false; rw [hpl]; rfl) (evalArgs_plain ?_)
  have hA' := hA.run p3 _ _ _ _ _ I3 hq
  rw [show starEach (e :: es) (cxS CX P w K mg base N qual scope f (.ref cda) cc A outer ⟨hh, g, d, tk, os⟩ H E).env = _ from he _] at hA'
  refine thn hA' fun us4 s4 ⟨vs4, H4, I4, r4, hlen4, hHa4, q4⟩ => ⟨(I4.pin _ (List.mem_append_right _ (List.mem_singleton.mpr rfl))).1, ?_⟩
  obtain ⟨t4, ho4⟩ := exo_at I4.hok hHa4
  have hu4 := (I4.pin _ (List.mem_append_right _ (List.mem_singleton.mpr rfl))).1
  have K4 := I4.kIn
  obtain ⟨hp4, g4, d4, tk4, os4⟩ := s4
  refine call_mwV (K4 _ _ hC) ho4 hu4 (by show us4.length ≤ sizeLine; rw [← Paired.length r4, sizeLine_eq]; omega) fun h5 t5 k5 hx5 => ?_
  have J := I4.write (t' := tk4) (x := a) (e := a) (o := exo a C none) (by rw [hHa4]; exact True.intro) (.inl rfl) k5 ⟨_, hx5⟩ (exo_ok hx5)
  have eu : upd H4 a (exo a C none) = H4 := by
    funext b
    by_cases hb : b = a
    · rw [hb, upd_same, hHa4]
    · rw [upd_ne hb]
  rw [eu] at J
  refine PySem.wpAt_of_wpAny (wpAny_mono (hS.run [] _ _ _ _ (unpin J) q4) (fun fl s' hs => ?_) fun e s' hs => hs)
  have fin : ∀ {σ' : L2.St} {H' : Hp} {v : V} {u : Value}, Inv (cxS CX P w K mg base N qual scope f (.ref cda) cc A outer ⟨hh, g, d, tk, os⟩ H E) [] σ' H' s' → RelV v u → Q v H' → CE outer P w H ⟨hh, g, d, tk, os⟩ Q u s' :=
    fun {σ' H' v u} J rv q => ⟨v, H', J.os, J.bare, J.base, J.hok, rv, q⟩
  cases fl with
  | ret u =>
    obtain ⟨v, σ', H', J, rv, q⟩ := hs
    exact fin J rv q
  | next =>
    obtain ⟨σ', H', J, q⟩ := hs
    exact fin (v := V.non) (u := Value.none) J rfl q
  | brk =>
    obtain ⟨_, _, _, q⟩ := hs
    exact False.elim q
  | cont =>
    obtain ⟨_, _, _, q⟩ := hs
    exact False.elim q
end
end Dw

/-! errors over the engine: made, raised, caught, asked -/
namespace Dw
open PySem
open _root_.L2
/-! ### making, with the context told -/
section
open PySem.Spec PyProof.Rows
variable {X : Cx} {e : Expr} {es : List Expr} {ta : TA} {p pos : Pos}
theorem pmk_oexN {CX : CXT} {x : Str} {C fI : Addr} {k : Nat} {fd : FuncData} {ps : List Str} {sp : Sp} {ds : List Value} {dvs : List V} (T : OexC X.K C) (iC : PySem.W.findIn X.K (.ref C) "__init__" = some (some (.ref fI))) (tI : PySem.W.typeIn X.K (.ref fI) = some (.type "function"))
    (F1 : FnOk X.prog X.w X.K X.mg X.base CX k fI fd ps sp) (hr : Room (k + 1) X.A) (hb : Binds X.K fd ps ds) (hd : Vals dvs ds) (hx : Passes CX X (fun _ _ _ => False)) (hg : Gl X x) (hm : X.mg x = some (.ref C)) (ha : PA X (e :: es) ta)
    (hdb : (x == ("__debug__" : Str)) = false := by decide) (he : starEach (e :: es) X.env = (false, eval e X.env) :: starEach es X.env := by rfl) (hpl : (backTo pos (starEach es X.env)).any (·.1) = false := by rfl) :
    L2N.PMk X (.Call (.Name x p) (e :: es) [] pos) (tMkO C sp dvs ta) := by
  intro pins s σ H Q I h
  obtain ⟨nm, q, N, bs, bm, sn, sub, ab, col, dd, k0, k1, k2, k3, k5, hC, hbm⟩ := T.cls
  refine wpAny_Call_Name_kw (ld_glob I hg hm ?_ hdb)
  refine PySem.W.callWith_K (h₀ := X.base) I.ok.mod.kin T.kC (thn (ha.run pos pins s σ H _ I h) fun us s1 ⟨vs, H1, I1, r1, hz, q1⟩ => ⟨I1.kIn, ?_⟩) he hpl
  show wpAny _ _ (call (.ref C) us) _ _ _
  obtain ⟨hp, g, dr, tk, os⟩ := s1
  have hsz : hp.objs.size ≤ hp.objs.size + 1 := Nat.le_succ _
  have hn : H1 (hp.objs.size + 1) = none := I1.hok.fresh hsz
  have hq := q1 (hp.objs.size + 1) hn
  have kk : ∀ b o, hp.get? b = some o → ((hp.push (PySem.W.kdv_tup us)).push (PySem.HandSPX.excO C hp.objs.size)).get? b = some o := fun b o e => Heap.get?_push_of_some _ (Heap.get?_push_of_some _ e)
  have hget : ((hp.push (PySem.W.kdv_tup us)).push (PySem.HandSPX.excO C hp.objs.size)).get? (hp.objs.size + 1) = some (PySem.HandSPX.excO C hp.objs.size) := by heap_get
  have I2 : Inv X pins σ (upd H1 (hp.objs.size + 1) (exo (hp.objs.size + 1) C none)) ⟨(hp.push (PySem.W.kdv_tup us)).push (PySem.HandSPX.excO C hp.objs.size), g, dr, tk, os⟩ :=
    I1.laid (t' := tk) (a := hp.objs.size + 1) (o := exo (hp.objs.size + 1) C none) (h' := (hp.push (PySem.W.kdv_tup us)).push (PySem.HandSPX.excO C hp.objs.size)) kk hsz (exo_ok hget)
  have r2 : Vals (V.ref (hp.objs.size + 1) :: (vs ++ dvs)) (Value.ref (hp.objs.size + 1) :: (us ++ ds)) := .cons rfl (r1.append hd)
  have hl : (Value.ref (hp.objs.size + 1) :: us ++ ds).length = ps.length := by
    have e := r2.length
    rw [F1.len _ _ _ _ hq] at e
    exact e.symm
  have hus : us.length ≤ sizeLine := by
    rw [← Paired.length r1, sizeLine_eq]
    omega
  refine wpAny_call (PySem.HandSPX.call_own F.excBase_ValueError (fun Y => PySem.HandSPX.refsVE_contains Y bm hbm) (I1.kIn _ _ hC) (PySem.W.looks_findIn I1.kIn iC) (fun self => PySem.W.bind_fn I1.kIn self tI) hus
    (codeAny_mono (F1.run _ X.stack _ _ ⟨Value.ref (hp.objs.size + 1) :: us, []⟩ (Value.ref (hp.objs.size + 1) :: (us ++ ds)) _ _ (fun _ _ _ => False) (hr.make C us []) (I2.env0.make C us []) (hb _ (Value.ref (hp.objs.size + 1) :: us) I2.kIn hl) r2 hq) fun r s' hq' => ?_))
  cases r with
  | error er => exact hx pins σ _ _ er s' I2 hq'
  | ok fl =>
    cases fl with
    | ret u =>
      obtain ⟨v, H2, os2, bare2, un2, hok2, rv, ev, d, fs, ea, ed, hd1, q2⟩ := hq'
      subst ev
      obtain ⟨h2, g2, d2, t2, os'⟩ := s'
      obtain ⟨t0, G, J, kG, ge, hoe, na⟩ := mk_end0 (d2 := d2) (t2 := t2) I1 hsz kk un2 hok2 os2 bare2 ea ed hd1
      exact ⟨rv, _, _, _, ⟨G, g2, d2, t2, os'⟩, _, .ref C, some d, rfl, J, kG, ge, hoe, ⟨rfl, rfl, fun vs e => by cases e; rfl⟩, rfl, rfl, na, rfl, bare2, raises_own T.exC T.tyC, q2⟩
    | next => exact False.elim hq'
    | brk => exact False.elim hq'
    | cont => exact False.elim hq'
theorem passN {X : Cx} : Passes (L2N.CX X.prog X.w) X E0 := fun _ _ _ _ _ _ _ h => by
  obtain ⟨_, _, _, _, _, _, _, _, _, _, _, _, z⟩ := h
  exact z.elim
end

/-! ### fields -/
/-- what may stand in an error's text -/
def Fm (w : V) : Prop := (∃ y : Str, w = .str y ∧ y.length ≤ 4096) ∨ ∃ i : Int, w = .int i ∧ i.natAbs.log2 < 1920
def FmD : PyData → Prop
  | .str y => y.length ≤ 4096
  | .int i => i.natAbs.log2 < 1920
  | _ => False
def Part (σ : L2.St) (H : Hp) (t : TE) : Prop := ∀ Q : VK, (∀ y : Str, y.length ≤ 4096 → Q (.str y) H) → t σ H Q
section
variable {σ : L2.St} {H : Hp}
theorem part_c {x : Str} (h : x.length ≤ 4096) : Part σ H (tC (.str x)) := fun Q q => q x h
theorem part_f {i : Nat} {v : V} (h : σ[i]? = some (some v)) (hv : Fm v) : Part σ H (tFmt (tVar i)) := fun Q q => ⟨v, h, by
  rcases hv with ⟨y, rfl, hy⟩ | ⟨i, rfl, hi⟩
  · exact .inl ⟨y, rfl, Nat.le_trans hy (by decide), q y hy⟩
  · refine .inr ⟨i, rfl, hi, q _ ?_⟩
    have e := int_text_length_le (k := 1920) (by decide) hi
    show (Str.ofString (toString i)).length ≤ 4096
    rw [ofString_length]
    omega⟩
theorem js_ok : ∀ {ts : List TE} {acc : Str} {Q : Str → Hp → Prop}, (∀ t ∈ ts, Part σ H t) → acc.length + 4096 * ts.length ≤ sizeLine → (∀ out, Q out H) → tJs ts acc σ H Q
  | [], acc, Q, _, _, q => q acc
  | t :: ts, acc, Q, h, hl, q => h t List.mem_cons_self _ fun y hy => ⟨y, rfl, by
      rw [Str.length_append]
      rw [List.length_cons] at hl
      omega, js_ok (fun t ht => h t (List.mem_cons_of_mem _ ht)) (by
      rw [Str.length_append]
      rw [List.length_cons] at hl
      omega) q⟩
end
/-- C's __init__: the text of super() told from the arguments, each kept as a field -/
def spE (K : PySem.W.Frag) (C : Addr) (fs : List Str) : Sp := fun vs H Q _ => ∃ a ws, vs = .ref a :: ws ∧ ws.length = fs.length ∧ (∀ w ∈ ws, Fm w) ∧ H a = some (exo a C none) ∧
  ∀ dx, H dx = none → dx ≠ a → Q .non (upd (upd H dx (exd dx (fs.zip ws).reverse)) a (exo a C (some dx)))
theorem spE_len {K : PySem.W.Frag} {C : Addr} {fs : List Str} {n : Nat} (hn : fs.length + 1 = n) : ∀ vs H Q E, spE K C fs vs H Q E → vs.length = n := by
  rintro vs H Q E ⟨a, ws, rfl, hl, _⟩
  rw [List.length_cons, hl]
  exact hn
theorem ost1 {K : PySem.W.Frag} {C a : Addr} {f : Str} {v : V} {D : Ends} {σ : L2.St} {H : Hp} (T : OexC K C) (n : PySem.W.findIn K (.ref C) f = some none) (h0 : σ[0]? = some (some (.ref a))) {i : Nat} (h1 : σ[i]? = some (some v)) (ha : H a = some (exo a C none))
    (q : ∀ dx, H dx = none → dx ≠ a → D.nx σ (upd (upd H dx (exd dx [(f, v)])) a (exo a C (some dx)))) : tOst K f (tVar 0) (tVar i) D σ H := ⟨v, h1, .ref a, h0, a, C, rfl, T, n, .inl ⟨ha, q⟩⟩
theorem ost2 {K : PySem.W.Frag} {C a dx : Addr} {f : Str} {v : V} {D : Ends} {σ : L2.St} {H0 : Hp} {fs : List (Str × V)} (T : OexC K C) (n : PySem.W.findIn K (.ref C) f = some none) (h0 : σ[0]? = some (some (.ref a))) {i : Nat} (h1 : σ[i]? = some (some v)) (hne : dx ≠ a) (hl : fs.length ≤ 900)
    (q : D.nx σ (upd (upd H0 dx (exd dx ((f, v) :: fs))) a (exo a C (some dx)))) : tOst K f (tVar 0) (tVar i) D σ (upd (upd H0 dx (exd dx fs)) a (exo a C (some dx))) := ⟨v, h1, .ref a, h0, a, C, rfl, T, n, .inr ⟨dx, fs, upd_same, by rw [upd_ne hne, upd_same], hl, by
    have e : upd (upd (upd H0 dx (exd dx fs)) a (exo a C (some dx))) dx (exd dx ((f, v) :: fs)) = upd (upd H0 dx (exd dx ((f, v) :: fs))) a (exo a C (some dx)) := by
      funext b
      by_cases hb : b = dx
      · subst hb; rw [upd_same, upd_ne hne, upd_same]
      · rw [upd_ne hb]
        by_cases ha : b = a
        · subst ha; rw [upd_same, upd_same]
        · rw [upd_ne ha, upd_ne hb, upd_ne ha, upd_ne hb]
    rw [e]
    exact q⟩⟩
theorem pair_zip {K : PySem.W.Frag} {Hd : Hp} : ∀ {fs : List Str} {vs : List V} {xs : List PyData}, DrA K Hd vs xs → Paired (fun (w : Str × V) f => w.1 = f.1 ∧ Dr K Hd w.2 f.2) (fs.zip vs) (fs.zip xs)
  | [], _, _, _ => .nil
  | f :: fs, _, _, .nil => .nil
  | f :: fs, _, _, .cons h t => .cons ⟨rfl, h⟩ (pair_zip t)
theorem pair_rev {α β : Type} {G : α → β → Prop} : ∀ {xs : List α} {ys : List β}, Paired G xs ys → Paired G xs.reverse ys.reverse
  | _, _, .nil => .nil
  | _, _, .cons h t => by
    rw [List.reverse_cons, List.reverse_cons]
    exact pair_app (pair_rev t) (.cons h .nil)
section
variable {K : PySem.W.Frag} {b : B} {s s1 : S} {te ta tb tc : TE} {tt tu : TT} {t : TA} {x y : A} {Φ Ψ : A → S → Prop} {N : EE} {f : Spc}
theorem fm_of {H : Hp} {v : V} : ∀ {d : PyData}, FmD d → Dr K H v d → Fm v
  | .str y, h, e => by cases e; exact .inl ⟨_, rfl, h⟩
  | .int i, h, e => by cases e; exact .inr ⟨_, rfl, h⟩
/-- raise C(x, ..) -/
theorem go_raiseE {C : Addr} {fs : List Str} {W : WX} (h : EA K b t s fun as s1 => ∃ xs, as = xs.map A.d ∧ xs.length = fs.length ∧ xs.length ≤ 1000 ∧ (∀ x ∈ xs, FmD x) ∧ ∀ d σ H' tv ta Hd' ps', Rp K b s1 σ H' tv ta Hd' ps' → XvR K Hd' d (some (fs.zip xs).reverse) → W (.ref C) d σ H') :
    GO K b (fun _ σ H => tMkO C (spE K C fs) [] t σ H fun cls d H' => W cls d σ H') s N := fun D σ H tv tl Hd ps R _ =>
  h σ H tv tl Hd ps R _ fun vs H1 as s1 Hd1 ps1 h1 R1 a1 => by
    obtain ⟨xs, rfl, hl, h1000, hf, hx⟩ := h1
    have hda := da_of_ars a1
    have hlen := pair_len (da_paired hda)
    refine ⟨by omega, fun a ha => ?_⟩
    rw [List.append_nil]
    have fm : ∀ {vs : List V} {xs : List PyData}, DrA K Hd1 vs xs → (∀ x ∈ xs, FmD x) → ∀ w ∈ vs, Fm w := by
      intro vs xs h
      induction xs generalizing vs with
      | nil => cases h; intro _ w hw; cases hw
      | cons x xs ih =>
        cases h with
        | cons h t =>
          intro hf w hw
          rcases List.mem_cons.mp hw with e | hw
          · rw [e]; exact fm_of (hf x List.mem_cons_self) h
          · exact ih t (fun y hy => hf y (List.mem_cons_of_mem _ hy)) w hw
    refine ⟨a, vs, rfl, by omega, fm hda hf, upd_same, fun dx hdx hne => ⟨rfl, dx, (fs.zip vs).reverse, upd_same, by rw [upd_ne hne, upd_same], by rw [upd_ne hne] at hdx; exact hdx, ?_⟩⟩
    rw [upd_ne hne] at hdx
    have e : upd (del (upd (upd (upd H1 a (exo a C none)) dx (exd dx (fs.zip vs).reverse)) a (exo a C (some dx))) a) dx (.xd (fs.zip vs).reverse) = upd H1 dx (.xd (fs.zip vs).reverse) := by
      funext c
      by_cases hc : c = dx
      · subst hc; rw [upd_same, upd_same]
      · rw [upd_ne hc, upd_ne hc]
        by_cases hca : c = a
        · subst hca; rw [del_same]; exact ha.symm
        · rw [del_ne hca, upd_ne hca, upd_ne hc, upd_ne hca]
    rw [e]
    have R2 := R1.newD (.xd (fs.zip vs).reverse) hdx
    refine hx (some dx) _ _ _ _ _ _ R2 ⟨dx, _, rfl, upd_same, ?_⟩
    exact pair_mono (fun w f q => ⟨q.1, dp_up (same_new (none_of_same R1.e1 hdx)) _ _ q.2⟩) (pair_rev (pair_zip (fs := fs) hda))
/-- raise C('..') -/
theorem go_raise0 {C : Addr} {W : WX} (hx : ∀ σ H' tv ta Hd' ps', Rp K b s σ H' tv ta Hd' ps' → W (.ref C) none σ H') : GO K b (fun _ σ H => W (.ref C) none σ H) s N := fun D σ H tv tl Hd ps R _ => hx σ H tv tl Hd ps R
/-! ### try -/
theorem xvr_up {Hd Hd' : Hp} (e : Same Hd Hd') {d : Option Addr} : ∀ {fs : Option (List (Str × PyData))}, XvR K Hd d fs → XvR K Hd' d fs
  | none, h => h
  | some fs, ⟨a, ws, h1, h2, h3⟩ => ⟨a, ws, h1, e _ _ h2, pair_mono (fun w f q => ⟨q.1, dp_up e _ _ q.2⟩) h3⟩
/-- the exception at a, its dict d -/
def exX (K : PySem.W.Frag) (a : Addr) (d : Option Addr) (fs : Option (List (Str × PyData))) : Dw.A := .p (fun H v => v = .ref a ∧ XvR K H d fs) fun _ _ _ e h => ⟨h.1, xvr_up e h.2⟩
theorem Rp.enter {σ : L2.St} {H Hd : Hp} {tv : List V} {ta : List A} {ps : List Addr} (R : Rp K b s σ H tv ta Hd ps) : Rp K ⟨Hd, b.F, ps⟩ s σ H tv ta Hd ps :=
  ⟨Same.refl _, R.e1, R.e2, fun _ _ z => z, R.pl, R.nd, ⟨[], by simp⟩, R.fr, R.ex, R.cl, R.sl, R.ln, R.tm⟩
theorem Rp.back {s' : S} {σ σ' : L2.St} {H H' Hd Hd' : Hp} {tv tv' : List V} {ta ta' : List A} {ps ps' : List Addr} (R : Rp K b s σ H tv ta Hd ps) (R' : Rp K ⟨Hd, b.F, ps⟩ s' σ' H' tv' ta' Hd' ps') : Rp K b s' σ' H' tv' ta' Hd' ps' :=
  ⟨R.e0.trans R'.e0, R'.e1, R'.e2, fun a h1 h2 => R'.nw a h1 (R.nw a h1 h2), R'.pl, R'.nd, by
    obtain ⟨m1, e1⟩ := R.p0
    obtain ⟨m2, e2⟩ := R'.p0
    have e2 : ps' = ps ++ m2 := e2
    exact ⟨m1 ++ m2, by rw [e2, e1, List.append_assoc]⟩, R'.fr, R'.ex, R'.cl, R'.sl, R'.ln, R'.tm⟩
theorem Rp.tms {s' : S} {σ σ' : L2.St} {H H' Hd Hd' : Hp} {tv tv' : List V} {ta ta' : List A} {ps ps' : List Addr} (R : Rp K b s σ H tv ta Hd ps) (R' : Rp K ⟨Hd, b.F, ps⟩ s' σ' H' tv' ta' Hd' ps') : Rp K b s' σ' H' tv ta Hd' ps' := by
  refine (R.back R').tmp ?_
  obtain ⟨m2, e2⟩ := R'.p0
  have e2 : ps' = ps ++ m2 := e2
  rw [e2]
  exact pair_mono (fun _ _ q => ar_more (ar_up R'.e0 q)) R.tm
theorem go_try {tb : WX → TS} {ts : Addr → Value → Option Addr → TS} {c : Value} {i : Nat} {Wout : WX} (XP : Xv → S → Prop)
    (hb : ∀ b' (W : WX), (∀ x d σ H s tv ta Hd ps, XP x s → Rp K b' s σ H tv ta Hd ps → XvR K Hd d x.fs → W x.cls d σ H) → GO K b' (tb W) s N)
    (hs : ∀ x s1, XP x s1 → PySem.W.exmOne K x.cls c = some true ∧ ∀ a d, GO K b (ts a x.cls d) (s1.set i (exX K a d x.fs)) ⟨fun s2 => N.nx (s2.wp [i]), N.rt, fun s2 => N.bk (s2.wp [i]), fun s2 => N.ct (s2.wp [i])⟩) :
    GO K b (fun D σ H => tb (wAs K c i ts Wout D) D σ H) s N := fun D σ H tv tl Hd ps R k => by
  refine hb ⟨Hd, b.F, ps⟩ _ (fun x d σ1 H1 s1 tv1 ta1 Hd1 ps1 hx R1 hd => ?_) D σ H tv tl Hd ps R.enter ⟨fun σ' H' s' Hd' ps' q R' => k.nx σ' H' s' Hd' ps' q (R.back R'), fun v σ' H' a s' Hd' ps' q R' ha => k.rt v σ' H' a s' Hd' ps' q (R.back R') ha, fun σ' H' s' Hd' ps' q R' => k.bk σ' H' s' Hd' ps' q (R.back R'), fun σ' H' s' Hd' ps' q R' => k.ct σ' H' s' Hd' ps' q (R.back R')⟩
  obtain ⟨em, hgo⟩ := hs x s1 hx
  refine ⟨true, em, fun _ a _ => ?_, fun z => nomatch z⟩
  refine hgo a d _ _ _ tv tl Hd1 ps1 ((R.tms R1).set (a := exX K a d x.fs) ⟨rfl, hd⟩ i) ⟨fun σ H s Hd ps q R => ?_, fun v σ H a s Hd ps q R ha => k.rt v σ H a s Hd ps q R ha, fun σ H s Hd ps q R => ?_, fun σ H s Hd ps q R => ?_⟩
  · exact k.nx _ H _ Hd ps q (R.wipe [i])
  · exact k.bk _ H _ Hd ps q (R.wipe [i])
  · exact k.ct _ H _ Hd ps q (R.wipe [i])
theorem ev_S {sp : Sp} {E : L2.St → XK} (h : EV K b (tCallG sp E t) s Φ) : EV K b (tCallS sp E t) s Φ := fun σ H tv tl Hd ps R Q k => by
  have e : tCallS sp E t = tCallG sp E t := by
    funext σ H Q
    show (t σ H fun vs H1 => sp vs H1 Q (E σ)) = t σ H fun vs H1 => sp (vs ++ []) H1 Q (E σ)
    congr 1
    funext vs H1
    rw [List.append_nil]
  rw [e]
  exact h σ H tv tl Hd ps R Q k
/-! ### asking the caught error -/
def XdAt (H : Hp) : Option Addr → Prop
  | none => True
  | some dd => ∃ fs, H dd = some (.xd fs)
def clsA : Value → Addr
  | .ref D => D
  | _ => 0
def rIsY (K : PySem.W.Frag) (D a : Addr) (d : Option Addr) : List V → Hp → VK → Prop := fun xs H Q => ∃ (c : V) (cv : Value) (b : Bool), xs = [.ref a, c] ∧ (∀ u, RelV c u → u = cv) ∧ PySem.W.kitOne K (.ref D) cv = some b ∧ XdAt H d ∧ Q (.bl b) H
def rIsYT (K : PySem.W.Frag) (D a : Addr) (d : Option Addr) : List V → Hp → VK → Prop := fun xs H Q => ∃ (tp : Addr) (cs : List V) (cvs : List Value) (b : Bool), xs = [.ref a, .ref tp] ∧ H tp = some (.tup cs) ∧ (∀ us, Vals cs us → us = cvs) ∧ PySem.W.kitAny K (.ref D) cvs = some b ∧ XdAt H d ∧ Q (.bl b) H
theorem inst_of {X : Cx} {a D : Addr} {oe : Obj} {d : Option Addr} {H : Hp} {s : Shared} (hget : s.heap.get? a = some oe) (hz : Zc (.ref D) d oe) (hf : ∃ vs, oe.data = .fields vs) (hok : HOk X.prog X.w H s.heap) (hx : XdAt H d) : ∃ od, PySem.W.InstAt s.heap a oe D od := by
  obtain ⟨vs, hv⟩ := hf
  cases d with
  | none => exact ⟨none, hget, hz.1, by unfold PySem.W.notCls; rw [hv] <;> rfl, by rw [hz.2]; trivial⟩
  | some dd =>
    obtain ⟨fs, hd⟩ := hx
    obtain ⟨mA, hns, hr⟩ : ObjOk X.prog X.w H s.heap dd (.xd fs) := hok dd _ hd
    obtain ⟨od, ho, hl⟩ := lookIn_ns hns
    exact ⟨some od, hget, hz.1, by unfold PySem.W.notCls; rw [hv] <;> rfl, by rw [hz.2]; exact ho⟩
theorem call_isY {X : Cx} {K : PySem.W.Frag} {a D : Addr} {oe : Obj} {cls : Value} {d : Option Addr} {pn : List (Addr × Obj)} (hK : X.K = K) (C : ExcC K D) (hcls : cls = .ref D) (hz : L2N.Zn cls d oe) (hf : ∃ vs, oe.data = .fields vs) :
    CallR (X.suite a ((a, oe) :: pn)) (.builtin "isinstance") (rIsY K D a d) := by
  subst hK hcls
  intro pins s σ H xs us Q I r h
  obtain ⟨c, cv, b, rfl, hcv, e, hd, q⟩ := h
  match us, r with
  | [_, u2], .cons rx (.cons rt .nil) =>
    have ex : _ = Value.ref a := rx
    have ec := hcv _ rt
    subst ex ec
    obtain ⟨od, J⟩ := inst_of (X := X.suite a ((a, oe) :: pn)) (I.pin (a, oe) (List.mem_append.mpr (.inl List.mem_cons_self))).1 hz.zc hf I.hok hd
    exact PySem.W.kia_one (PySem.W.kitx_exc (od := od) (by obtain ⟨cd, hc, _⟩ := PySem.W.any_some C.hd; rw [hc]; rfl) C.hg C.hk C.hs C.ha C.hn C.ht C.hm) I.kIn J e (fun z => nomatch z) fun tk => ⟨.bl b, H, I.kept (t' := tk) fun _ _ z => z, rfl, q⟩
theorem call_isYT {X : Cx} {K : PySem.W.Frag} {a D : Addr} {oe : Obj} {cls : Value} {d : Option Addr} {pn : List (Addr × Obj)} (hK : X.K = K) (C : ExcC K D) (hcls : cls = .ref D) (hz : L2N.Zn cls d oe) (hf : ∃ vs, oe.data = .fields vs) :
    CallR (X.suite a ((a, oe) :: pn)) (.builtin "isinstance") (rIsYT K D a d) := by
  subst hK hcls
  intro pins s σ H xs us Q I r h
  obtain ⟨tp, cs, cvs, b, rfl, hT, hcv, e, hd, q⟩ := h
  match us, r with
  | [_, u2], .cons rx (.cons rt .nil) =>
    have ex : _ = Value.ref a := rx
    have et : u2 = Value.ref tp := rt
    subst ex et
    obtain ⟨od, J⟩ := inst_of (X := X.suite a ((a, oe) :: pn)) (I.pin (a, oe) (List.mem_append.mpr (.inl List.mem_cons_self))).1 hz.zc hf I.hok hd
    obtain ⟨_, its, rv, o, h1, h2, n, h3⟩ := (show ObjOk _ _ H s.heap tp (.tup cs) from I.hok tp _ hT)
    have e3 := hcv _ rv
    subst e3
    obtain ⟨oc, od2, dt, sl⟩ := o
    simp only at h2 h3
    subst h2 h3
    exact PySem.W.kia_tup (PySem.W.kitx_exc (od := od) (by obtain ⟨cd, hc, _⟩ := PySem.W.any_some C.hd; rw [hc]; rfl) C.hg C.hk C.hs C.ha C.hn C.ht C.hm) I.kIn J h1 e (fun z => nomatch z) fun tk => ⟨.bl b, H, I.kept (t' := tk) fun _ _ z => z, rfl, q⟩
theorem xdat {Hd H : Hp} (e : Same Hd H) {d : Option Addr} : ∀ {fs : Option (List (Str × PyData))}, XvR K Hd d fs → XdAt H d
  | none, h => by cases (show d = none from h); trivial
  | some fs, ⟨a, ws, h1, h2, _⟩ => by subst h1; exact ⟨ws, e _ _ h2⟩
theorem ev_isY {i : Nat} {D a : Addr} {d : Option Addr} {fs : Option (List (Str × PyData))} {c : V} {cv : Value} {r : Bool} (hi : s.ss[i]? = some (some (exX K a d fs))) (hc : ∀ u, RelV c u → u = cv) (hk : PySem.W.kitOne K (.ref D) cv = some r) (q : Φ (.d (.bool r)) s) : EV K b (tCB (rIsY K D a d) (tCons (tVar i) (tCons (tC c) tNil))) s Φ := fun σ H tv tl Hd ps R Q k => by
  obtain ⟨v, hv, ha⟩ := R.sl i _ hi
  obtain ⟨rfl, hx⟩ := ha
  exact ⟨_, hv, _, _, r, rfl, hc, hk, xdat R.e1 hx, k _ H _ s Hd ps q R (.bl _)⟩
theorem ev_isY1 {i : Nat} {D a c : Addr} {d : Option Addr} {fs : Option (List (Str × PyData))} {r : Bool} (hi : s.ss[i]? = some (some (exX K a d fs))) (hk : PySem.W.kitOne K (.ref D) (.ref c) = some r) (q : Φ (.d (.bool r)) s) : EV K b (tCB (rIsY K D a d) (tCons (tVar i) (tCons (tC (.ref c)) tNil))) s Φ := ev_isY (cv := .ref c) hi (fun _ h => h) hk q
theorem ev_isY2 {i : Nat} {D a : Addr} {n : String} {d : Option Addr} {fs : Option (List (Str × PyData))} {r : Bool} (hi : s.ss[i]? = some (some (exX K a d fs))) (hk : PySem.W.kitOne K (.ref D) (.type n) = some r) (q : Φ (.d (.bool r)) s) : EV K b (tCB (rIsY K D a d) (tCons (tVar i) (tCons (tC (.ty n)) tNil))) s Φ := ev_isY (cv := .type n) hi (fun _ h => h) hk q
def tCls : List V → TA
  | [] => tNil
  | c :: cs => tCons (tC c) (tCls cs)
theorem tCls_ok {σ : L2.St} {H : Hp} : ∀ {cs : List V} {Q : List V → Hp → Prop}, Q cs H → tCls cs σ H Q
  | [], Q, q => q
  | c :: cs, Q, q => tCls_ok (cs := cs) (Q := fun xs H2 => Q (c :: xs) H2) q
theorem ev_isYT {i : Nat} {D a : Addr} {d : Option Addr} {fs : Option (List (Str × PyData))} {cs : List V} {cvs : List Value} {r : Bool} (hi : s.ss[i]? = some (some (exX K a d fs))) (hc : ∀ us, Vals cs us → us = cvs) (hl : cs.length ≤ 1000) (hk : PySem.W.kitAny K (.ref D) cvs = some r) (q : Φ (.d (.bool r)) s) :
    EV K b (tCB (rIsYT K D a d) (tCons (tVar i) (tCons (tTup (tCls cs)) tNil))) s Φ := fun σ H tv tl Hd ps R Q k => by
  obtain ⟨v, hv, ha⟩ := R.sl i _ hi
  obtain ⟨rfl, hx⟩ := ha
  refine ⟨_, hv, tCls_ok ⟨by rw [sizeLine_eq]; omega, fun p hp => ?_⟩⟩
  have R2 := R.newD (.tup cs) hp
  exact ⟨p, cs, cvs, r, rfl, upd_same, hc, hk, xdat R2.e1 (xvr_up (same_new (none_of_same R.e1 hp)) hx), k _ _ _ s _ ps q R2 (.bl _)⟩
theorem look_cons {α : Type} (f g : Str) (y : α) (fs : List (Str × α)) : ((f, y) :: fs).lookup g = if g = f then some y else fs.lookup g := by
  by_cases h : g = f
  · subst h
    simp [List.lookup]
  · have e : (g == f) = false := by simpa using h
    rw [if_neg h]
    simp [List.lookup, e]
theorem ev_xf {i : Nat} {C a : Addr} {cls : Value} {d : Option Addr} {fs : List (Str × PyData)} {n : Str} {z : PyData} (hi : s.ss[i]? = some (some (exX K a d (some fs)))) (hc : cls = .ref C) (hz : fs.lookup n = some z) (q : Φ (.d z) s) : EV K b (tXf a cls d C n (tVar i)) s Φ := fun σ H tv tl Hd ps R Q k => by
  obtain ⟨v, hv, ha⟩ := R.sl i _ hi
  obtain ⟨rfl, dd, ws, hd, h2, h3⟩ := ha
  have key : ∀ {ws : List (Str × V)} {fs : List (Str × PyData)}, Paired (fun (w : Str × V) f => w.1 = f.1 ∧ Dr K Hd w.2 f.2) ws fs → fs.lookup n = some z → ∃ v, ws.lookup n = some v ∧ Dr K Hd v z := by
    intro ws fs h
    induction h with
    | nil => intro h; cases h
    | @cons w f ws fs h t ih =>
      obtain ⟨w1, w2⟩ := w
      obtain ⟨f1, f2⟩ := f
      obtain ⟨h1, h2⟩ := h
      dsimp only at h1 h2
      subst h1
      intro hl
      rw [look_cons] at hl ⊢
      by_cases e : n = w1
      · rw [if_pos e] at hl ⊢
        cases hl
        exact ⟨w2, rfl, h2⟩
      · rw [if_neg e] at hl ⊢
        exact ih hl
  obtain ⟨u, hu, hr⟩ := key h3 hz
  exact ⟨_, hv, rfl, hc, dd, ws, u, hd, R.e1 _ _ h2, hu, k u H _ s Hd ps q R hr⟩
/-! ### suites -/
def tGuard (p : Prop) (t : TS) : TS := fun D σ H => p ∧ t D σ H
theorem pss_guard {X : Cx} {st : List Stmt} {p : Prop} {t : TS} (h : p → PSs X st t) : PSs X st (tGuard p t) := ⟨fun pins s σ H D I q => (h q.1).run pins s σ H D I q.2⟩
theorem go_guard {p : Prop} {t : TS} (hp : p) (h : GO K b t s N) : GO K b (tGuard p t) s N := fun D σ H tv ta Hd ps R k => ⟨hp, h D σ H tv ta Hd ps R k⟩
theorem suite_hot {X : Cx} {a : Addr} {oe : Obj} {cls : Value} {d : Option Addr} {pn : List (Addr × Obj)} (hz : L2N.Zn cls d oe) (hf : ∃ vs, oe.data = .fields vs) : L2H.HotC (X.suite a ((a, oe) :: pn)) := by
  obtain ⟨vs, hv⟩ := hf
  exact ⟨(a, oe), ⟨rfl, vs, hv, hz.2.2 vs hv⟩, List.mem_cons_self⟩
theorem suite_room {X : Cx} {a : Addr} {pn : List (Addr × Obj)} {j k : Nat} (hr : Room k X.A) (h : j ≤ k := by decide) : L2H.RoomH j (X.suite a pn).A := ⟨(hr.mono h).dp, (hr.mono h).un⟩
end
end Dw
theorem L2H.RoomH.units {A : PySem.Around} {k : Nat} (hr : L2H.RoomH k A) : A.units + 64 < PySem.cLine := by have := hr.un; omega
theorem L2H.RoomH.units65 {A : PySem.Around} {k : Nat} (hr : L2H.RoomH k A) : A.units + 65 < PySem.cLine := by have := hr.un; omega
namespace Dw
open PySem
open _root_.L2
section
open PySem.Spec PyProof.Rows
variable {P : Program} {w : World} {K : PySem.W.Frag} {mg : Str → Option Value} {base : Heap} {x qual : Str} {params : Arguments} {body : List Stmt} {scope : Scope} {dvs : List V} {kws : List (Str × V)} {f : Addr} {fd : FuncData}
theorem okH {CX : CXT} {N ps : List Str} {k : Nat} {sp : Sp} (F : FunD K x qual params body scope dvs kws f fd) (S : FnScope N ps scope) (len : ∀ vs H Q E, sp vs H Q E → vs.length = ps.length)
    (hbody : ∀ (cdv : Value) (A : Around) (outer : List Env) (s : Shared) (H : Hp) (vs : List V) (Q : VK) (E : XK) (p : Addr × Obj), L2H.Hot1 A p → L2H.RoomH k (A.deeper (envOfC qual scope s.heap.objs.size f cdv)) → sp vs H Q E →
      ∃ t, PSs (L2H.cxH CX P w K mg base N qual scope f cdv A outer s H E p) body t ∧ t { nx := fun _ H' => Q .non H', rt := Q } (L2.start N vs) H) : L2H.FnH P w K mg base CX (k + 1) f fd ps sp := by
  obtain ⟨oc, od, dV, kV, doc, pm, an, cdv, ct, osl, rfl, lk, hcd, _, _⟩ := F.ex
  exact L2H.fn_ofH lk hcd S len fun A outer s H vs Q E p hot hr hsp => hbody cdv A outer s H vs Q E p hot hr hsp
end
end Dw
namespace Dw
open PySem
open _root_.L2
theorem pass0A {X : Cx} {σ : L2.St} {E : XK} : PassesAt CX0 X σ E := fun _ _ _ _ _ _ h => h.elim
end Dw
namespace Dw
open PySem
open _root_.L2
theorem takesN {X : Cx} : L2N.Takes X (fun _ _ _ _ => False) := fun _ _ x => by
  obtain ⟨_, _, _, _, _, _, _, _, _, _, _, _, _, _, _, _, w⟩ := x
  exact w.elim
theorem hotH {CX : CXT} {P : Program} {w : World} {K : PySem.W.Frag} {mg : Str → Option Value} {base : Heap} {N : List Str} {qual : Str} {scope : Scope} {f : Addr} {cd : Value} {A : Around} {outer : List Env} {s : Shared} {H : Hp} {E : XK} {p : Addr × Obj} (h : L2H.Hot1 A p) : L2H.HotC (L2H.cxH CX P w K mg base N qual scope f cd A outer s H E p) := ⟨p, ⟨h.1, h.2⟩, List.mem_cons_self⟩
end Dw

/-! the head's facts: errors with super().__init__, classes asked -/
namespace Dw
open PySem
open _root_.L2
/-- an error's class with its own __init__ -/
structure ErrI (K : PySem.W.Frag) (P : Program) (C fI : Addr) (fd : FuncData) (qual : Str) (params : Arguments) (body : List Stmt) (scope : Scope) (flds : List Str) : Prop where
  o : OexC K C
  i : PySem.W.findIn K (.ref C) "__init__" = some (some (.ref fI))
  t : PySem.W.typeIn K (.ref fI) = some (.type "function")
  n : ∀ f ∈ flds, PySem.W.findIn K (.ref C) f = some none
  F : FunS K P "__init__" qual params body scope C fI fd
/-- a plain error's class -/
structure ErrP (K : PySem.W.Frag) (C : Addr) : Prop where
  x : PySem.W.excIn K C [.type "ValueError", .type "Exception", .type "BaseException", .type "object"] "ValueError.__new__" = true
  k : PySem.W.keepIn K (.ref C) = true
  s : PySem.W.subIn K (.ref C) (.type "BaseException") = some true
  t : PySem.W.typeIn K (.ref C) = some (.type "type")
def oexB (K : PySem.W.Frag) (C : Addr) : Bool := (match K.lookup C with
  | some ⟨.type t, _, .cls cd, sl⟩ => decide (t = "type") && (match cd.mro, sl.toList with
    | .ref C' :: bm, [_, _, _, _, some (.builtin n), _] => decide (C' = C) && (decide (n = "ValueError.__new__") && (!cd.hasDel && (cd.hasDict && PySem.HandSPX.refsVE bm)))
    | _, _ => false)
  | _ => false) && (He.eqO (PySem.W.findIn K (.ref C) "__setattr__") (some (some (.builtin "object.__setattr__"))) &&
    (decide (PySem.W.subIn K (.ref C) (.type "BaseException") = some true) && (decide (PySem.W.typeIn K (.ref C) = some (.type "type")) && PySem.W.keepIn K (.ref C))))
theorem oexB_ok {K : PySem.W.Frag} {C : Addr} (h : oexB K C = true) : OexC K C := by
  obtain ⟨h1, h⟩ := He.ba h
  obtain ⟨h2, h⟩ := He.ba h
  obtain ⟨h3, h⟩ := He.ba h
  obtain ⟨h4, h5⟩ := He.ba h
  refine ⟨?_, He.eqO_ok h2, of_decide_eq_true h3, of_decide_eq_true h4, h5⟩
  split at h1
  · rename_i t dd cd sl ho
    obtain ⟨ht, g1⟩ := He.ba h1
    split at g1
    · rename_i C' bm k0 k1 k2 k3 n k5 hm hs
      obtain ⟨e1, g2⟩ := He.ba g1
      obtain ⟨e2, g3⟩ := He.ba g2
      obtain ⟨e3, g4⟩ := He.ba g3
      obtain ⟨e4, g5⟩ := He.ba g4
      have e1 := of_decide_eq_true e1
      have e2 := of_decide_eq_true e2
      have ht := of_decide_eq_true ht
      obtain ⟨nm, bs, mro, ns, qn, hd, sn, sub, ab, col, dl⟩ := cd
      dsimp only at hm e3 e4
      have e3 : dl = false := by cases dl with
        | false => rfl
        | true => cases e3
      subst hm e3 e4 e1 e2 ht
      have hsl : sl = #[k0, k1, k2, k3, some (.builtin "ValueError.__new__"), k5] := by
        obtain ⟨l⟩ := sl
        simp only at hs
        rw [hs]
      subst hsl
      exact ⟨nm, qn, ns, bs, bm, sn, sub, ab, col, dd, k0, k1, k2, k3, k5, ho, g5⟩
    · cases g1
  · cases h1
def supB (K : PySem.W.Frag) (file : Str) (C cc cda : Addr) : Bool := (match K.lookup cc with
  | some ⟨_, _, .cell (some (.ref D)), _⟩ => decide (D = C)
  | _ => false) && ((match K.lookup cda with
  | some ⟨_, _, .fields vs, _⟩ => (match (vs[2]? : Option Value) with
    | some (.str f _) => file == f
    | _ => false)
  | _ => false) && (decide (PySem.W.ks_superIn K C C "__init__" = some (some (.builtin "ValueError.__init__"))) && (decide (PySem.W.subIn K (.ref C) (.type "ValueError") = some true) &&
    (He.eqO (PySem.W.nsIn K cStatics "thirdparty.any") (some none) && decide (PySem.W.mroIn K C (.ref C) = some true)))))
theorem supB_ok {K : PySem.W.Frag} {P : Program} {C cc cda : Addr} (h : supB K P.main.file C cc cda = true) : SupC K P C cc cda := by
  obtain ⟨h1, h⟩ := He.ba h
  obtain ⟨h2, h⟩ := He.ba h
  obtain ⟨h3, h⟩ := He.ba h
  obtain ⟨h4, h⟩ := He.ba h
  obtain ⟨h5, h6⟩ := He.ba h
  refine ⟨?_, ?_, of_decide_eq_true h3, of_decide_eq_true h4, He.eqO_ok h5, of_decide_eq_true h6⟩
  · split at h1
    · rename_i D sl ho
      rw [of_decide_eq_true h1] at ho
      exact ⟨_, _, _, ho⟩
    · cases h1
  · split at h2
    · rename_i vs sl ho
      split at h2
      · rename_i f tf hv
        exact ⟨_, _, vs, _, f, tf, ho, hv, h2⟩
      · cases h2
    · cases h2
/-- one such class: its name, its __init__ -/
structure DefS where
  cls : Str
  qual : Str
  params : Arguments
  body : List Stmt
  scope : Scope
  flds : List Str
def DefS.C (K : PySem.W.Frag) (d : DefS) : Addr := He.ga K d.cls
def DefS.f (K : PySem.W.Frag) (d : DefS) : Addr := He.ma K (d.C K) "__init__"
abbrev FnSV : Type := Option (Str × Str × Arguments × FuncBody × Scope × Addr × List Str × Addr)
def fnS (K : PySem.W.Frag) (d : DefS) : FnSV := match K.lookup (d.f K) with
  | some ⟨_, _, .func fd, _⟩ => some (fd.name, fd.qualname, fd.params, fd.body, fd.scope, fd.globals, fd.closure.map (·.1), fd.builtins)
  | _ => none
def DefS.val (d : DefS) : FnSV := some ("__init__", d.qual, d.params, .stmts d.body, d.scope, mainGlobals, ["__class__"], builtinsNs)
def DefS.ok (K : PySem.W.Frag) (file : Str) (d : DefS) : Bool := oexB K (d.C K) && (He.eqO (PySem.W.findIn K (.ref (d.C K)) "__init__") (some (some (.ref (d.f K)))) && (decide (PySem.W.typeIn K (.ref (d.f K)) = some (.type "function")) &&
  ((d.flds.all fun f => He.eqO (PySem.W.findIn K (.ref (d.C K)) f) (some none)) && (PySem.W.keepIn K (.ref (d.f K)) && (match K.lookup (d.f K) with
    | some ⟨_, _, .func fd, _⟩ => (match fd.code, fd.closure, fd.defaults with
      | .ref cda, [(_, cc)], .none => PySem.W.codeIn K (.ref cda) d.qual && supB K file (d.C K) cc cda
      | _, _, _ => false)
    | _ => false)))))
theorem DefS.errI {K : PySem.W.Frag} {P : Program} {d : DefS} (e : fnS K d = d.val) (c : d.ok K P.main.file = true) : ∃ fd, ErrI K P (d.C K) (d.f K) fd d.qual d.params d.body d.scope d.flds := by
  obtain ⟨h1, h⟩ := He.ba c
  obtain ⟨h2, h⟩ := He.ba h
  obtain ⟨h3, h⟩ := He.ba h
  obtain ⟨h4, h⟩ := He.ba h
  obtain ⟨h5, h6⟩ := He.ba h
  unfold fnS at e
  cases q : K.lookup (d.f K) with
  | none =>
    rw [q] at h6
    cases h6
  | some o =>
    obtain ⟨oc, od, dt, osl⟩ := o
    rw [q] at h6 e
    cases dt with
    | func fd =>
      obtain ⟨n1, n2, n3, n4, n5, n6, n7, n8, n9, n10, n11, n12, n13, n14, n15⟩ := fd
      have e2 : (some (n1, n2, n3, n4, n5, n6, n7.map (·.1), n15) : FnSV) = some (("__init__" : Str), d.qual, d.params, FuncBody.stmts d.body, d.scope, mainGlobals, [("__class__" : Str)], builtinsNs) := e
      simp only [Option.some.injEq, Prod.mk.injEq] at e2
      obtain ⟨g1, g2, g3, g4, g5, g6, g7, g8⟩ := e2
      cases n7 with
      | nil => cases g7
      | cons p r =>
        obtain ⟨nm, cc⟩ := p
        cases r with
        | cons p2 r2 => cases g7
        | nil =>
          cases n13 with
          | ref cda =>
           cases n8 with
           | none =>
            obtain ⟨h7, h8⟩ := He.ba (show (PySem.W.codeIn K (.ref cda) d.qual && supB K P.main.file (d.C K) cc cda) = true from h6)
            have en : nm = "__class__" := by simpa using g7
            subst g1 g2 g3 g4 g5 g6 g8 en
            exact ⟨_, oexB_ok h1, He.eqO_ok h2, of_decide_eq_true h3, fun f hf => He.eqO_ok (List.all_eq_true.mp h4 f hf), ⟨oc, od, n9, n10, n11, n12, cda, cc, n14, osl, rfl, q, h7, supB_ok h8⟩, h5⟩
           | _ => cases h6
          | _ => cases h6
    | _ => cases h6
/-- ExcC, asked of a class -/
def eccB (K : PySem.W.Frag) (C : Addr) : Bool := He.eqO (PySem.W.findIn K (.ref C) "__getattribute__") (some (some (.builtin "BaseException.__getattribute__"))) && (He.eqO (PySem.W.findIn K (.ref C) "__getattr__") (some none) && (decide (PySem.W.subIn K (.ref C) (.type "BaseException") = some true) &&
  (PySem.W.hasDictIn K C && (He.eqO (PySem.W.findIn K (.ref C) "__class__") (some (some (.builtin "object.__class__"))) && (He.eqO (PySem.W.specialIn K (.builtin "object.__class__") "__get__") (some (some (.builtin "getset_descriptor.__get__"))) &&
  (decide (PySem.W.takesIn K (.builtin "object.__class__") = some true) && decide (PySem.W.mroIn K C (.type "object") = some true)))))))
theorem eccB_ok {K : PySem.W.Frag} {C : Addr} (h : eccB K C = true) : ExcC K C := by
  obtain ⟨h1, h⟩ := He.ba h
  obtain ⟨h2, h⟩ := He.ba h
  obtain ⟨h3, h⟩ := He.ba h
  obtain ⟨h4, h⟩ := He.ba h
  obtain ⟨h5, h⟩ := He.ba h
  obtain ⟨h6, h⟩ := He.ba h
  obtain ⟨h7, h8⟩ := He.ba h
  exact ⟨He.eqO_ok h1, He.eqO_ok h2, of_decide_eq_true h3, h4, He.eqO_ok h5, He.eqO_ok h6, of_decide_eq_true h7, of_decide_eq_true h8⟩
theorem ExcC.xf {K : PySem.W.Frag} {C : Addr} (h : ExcC K C) : XfC K C := ⟨h.hg, h.hk, h.hs, h.hd⟩
/-- isinstance, except: answers by names; none: a built-in class -/
inductive Fk where
  | kit (x y : Str) (b : Bool)
  | kty (x : Str) (n : String) (b : Bool)
  | ecc (x : Str)
  | noat (x f : Str)
  | raw (p : PySem.W.Frag → Bool)
def Fk.ok (K : PySem.W.Frag) : Fk → Bool
  | .kit x y b => decide (PySem.W.kitOne K (.ref (He.ga K x)) (.ref (He.ga K y)) = some b)
  | .kty x n b => decide (PySem.W.kitOne K (.ref (He.ga K x)) (.type n) = some b)
  | .ecc x => eccB K (He.ga K x)
  | .noat x f => He.eqO (PySem.W.findIn K (.ref (He.ga K x)) f) (some none)
  | .raw p => p K
/-! ### the Hook -/
def asY (g : Addr → Option Obj) : Nat → List Addr
  | 0 => [mainGlobals, cStatics]
  | n + 1 => He.growD g (asY g n)
abbrev AlY : Type := He.AlD × Bool × List FnSV
def obsY (fa : List He.Fa) (fn : List He.DefD) (file : Str) (fs : List DefS) (fk : List Fk) (K : PySem.W.Frag) : AlY := (He.obsD fa fn K, (fs.all fun d => d.ok K file) && fk.all fun f => f.ok K, fs.map fun d => fnS K d)
def valY (fn : List He.DefD) (fs : List DefS) : AlY := (He.valD fn, true, fs.map DefS.val)
def SaysY (fa : List He.Fa) (fn : List He.DefD) (file : Str) (fs : List DefS) (fk : List Fk) (K : PySem.W.Frag) : Prop := obsY fa fn file fs fk K = valY fn fs
def obsYG (n : Nat) (fa : List He.Fa) (fn : List He.DefD) (file : Str) (fs : List DefS) (fk : List Fk) (g : Addr → Option Obj) : AlY := obsY fa fn file fs fk (He.frG g (asY g n))
def hookY (n : Nat) (fa : List He.Fa) (fn : List He.DefD) (file : Str) (fs : List DefS) (fk : List Fk) : PySem.W.Hook where
  α := AlY
  obs := fun s => obsYG n fa fn file fs fk s.heap.get?
  val := fun _ => valY fn fs
  says := fun _ h => ∃ K : PySem.W.Frag, K.In h ∧ SaysY fa fn file fs fk K
  of := fun _ _ e => ⟨_, He.frG_in, e⟩
  keeps := fun _ _ _ ⟨K, hK, c⟩ k => ⟨K, PySem.W.Frag.In.keeps hK k, c⟩
theorem obsYG_eq {n : Nat} {fa : List He.Fa} {fn : List He.DefD} {file : Str} {fs : List DefS} {fk : List Fk} {g : Addr → Option Obj} {s : Shared} (h : ∀ a, g a = s.heap.get? a) : obsYG n fa fn file fs fk g = (hookY n fa fn file fs fk).obs s := by
  have e : g = s.heap.get? := funext h
  rw [e] <;> rfl
section
variable {fa : List He.Fa} {fn : List He.DefD} {fs : List DefS} {fk : List Fk} {K : PySem.W.Frag} {P : Program}
theorem SaysY.d {file : Str} (c : SaysY fa fn file fs fk K) : He.SaysD fa fn K := congrArg (fun z : AlY => z.1) c
theorem SaysY.err (c : SaysY fa fn P.main.file fs fk K) (i : Nat) {d : DefS} (h : fs[i]? = some d := by rfl) : ∃ fd, ErrI K P (d.C K) (d.f K) fd d.qual d.params d.body d.scope d.flds := by
  have c2 := (He.ba (show ((fs.all fun d => d.ok K P.main.file) && fk.all fun f => f.ok K) = true from congrArg (fun z : AlY => z.2.1) c)).1
  have e : fs.map (fun d => fnS K d) = fs.map DefS.val := congrArg (fun z : AlY => z.2.2) c
  have e2 : (fs.map fun d => fnS K d)[i]? = (fs.map DefS.val)[i]? := by rw [e]
  rw [List.getElem?_map, List.getElem?_map, h] at e2
  exact DefS.errI (Option.some.inj e2) (List.all_eq_true.mp c2 d (List.mem_of_getElem? h))
theorem SaysY.fact {file : Str} (c : SaysY fa fn file fs fk K) (i : Nat) {f : Fk} (h : fk[i]? = some f := by rfl) : f.ok K = true := by
  have c2 := (He.ba (show ((fs.all fun d => d.ok K file) && fk.all fun f => f.ok K) = true from congrArg (fun z : AlY => z.2.1) c)).2
  exact List.all_eq_true.mp c2 f (List.mem_of_getElem? h)
theorem kit_ok {x y : Str} {b : Bool} (h : (Fk.kit x y b).ok K = true) : PySem.W.kitOne K (.ref (He.ga K x)) (.ref (He.ga K y)) = some b := of_decide_eq_true h
theorem kty_ok {x : Str} {n : String} {b : Bool} (h : (Fk.kty x n b).ok K = true) : PySem.W.kitOne K (.ref (He.ga K x)) (.type n) = some b := of_decide_eq_true h
theorem ecc_ok {x : Str} (h : (Fk.ecc x).ok K = true) : ExcC K (He.ga K x) := eccB_ok h
theorem noa_ok {x f : Str} (h : (Fk.noat x f).ok K = true) : PySem.W.findIn K (.ref (He.ga K x)) f = some none := He.eqO_ok h
theorem errp_ok {x : Str} (h : (He.Fa.exc x).ok K = true) : ErrP K (He.ga K x) := by
  obtain ⟨h1, h2, h3, h4⟩ := He.exc_ok h
  exact ⟨h1, h2, h3, h4⟩
end
end Dw
namespace Dw
open PySem
theorem free_only {sc : Scope} {x : Str} (h : (sc.names.all fun y => decide (y.2 = .free → y.1 = ("__class__" : Str))) = true) (hx : sc.names.lookup x = some .free) : x = "__class__" :=
  (of_decide_eq_true (List.all_eq_true.mp h (x, .free) (PySem.mem_of_lookup hx)) : _) rfl
end Dw

namespace Dw
open PySem
open _root_.L2
/-! ### equal data, sums, least ones -/
def Shp (k : Nat) (d : PyData) : Prop := d.canLay0 = true ∧ d.depth ≤ k
theorem shp_int {i : Int} : Shp 0 (.int i) := ⟨rfl, Nat.le_refl _⟩
theorem shp_bool {i : Bool} : Shp 0 (.bool i) := ⟨rfl, Nat.le_refl _⟩
theorem shp_none : Shp 0 .none := ⟨rfl, Nat.le_refl _⟩
theorem shp_str {x : Str} (h : PyData.strOk x = true) : Shp 0 (.str x) := ⟨h, Nat.le_refl _⟩
theorem Shp.up {j k : Nat} {d : PyData} (h : Shp j d) (l : j ≤ k) : Shp k d := ⟨h.1, Nat.le_trans h.2 l⟩
theorem shp_all {k : Nat} : ∀ {xs : List PyData}, (∀ x ∈ xs, Shp k x) → PyData.canLayAll0 xs = true ∧ PyData.depthAll xs ≤ k
  | [], _ => ⟨rfl, Nat.zero_le _⟩
  | x :: xs, h => by
    obtain ⟨h1, h2⟩ := h x List.mem_cons_self
    obtain ⟨h3, h4⟩ := shp_all (xs := xs) fun y hy => h y (List.mem_cons_of_mem _ hy)
    refine ⟨?_, ?_⟩
    · show (x.canLay0 && PyData.canLayAll0 xs) = true
      rw [h1, h3]; rfl
    · show max x.depth (PyData.depthAll xs) ≤ k
      omega
theorem shp_list {k : Nat} {xs : List PyData} (h : ∀ x ∈ xs, Shp k x) : Shp (k + 1) (.list xs) := ⟨(shp_all h).1, Nat.succ_le_succ (shp_all h).2⟩
theorem shp_tup {k : Nat} {xs : List PyData} (h : ∀ x ∈ xs, Shp k x) : Shp (k + 1) (.tuple xs) := ⟨(shp_all h).1, Nat.succ_le_succ (shp_all h).2⟩
theorem Shp.shaped {k : Nat} {d : PyData} (h : Shp k d) (hk : k ≤ 64) : SeqAt.shaped d = true := by
  unfold SeqAt.shaped
  rw [h.1, decide_eq_true (Nat.le_trans h.2 hk)]
  rfl
theorem Shp.refl {k : Nat} {d : PyData} (h : Shp k d) : PyData.eqv d d = true := SeqAt.eqv_refl d h.1
section
variable {K : PySem.W.Frag} {b : B} {s : S} {x y : A} {Φ : A → S → Prop} {d : PyData} {k : Nat}
theorem v2_eqS1 (h1 : Vw s x d) (h2 : Vw s y d) (z : Shp k d) (hk : k ≤ 64) (q : Φ (.d (.bool true)) s) : V2 K b (rEqD K) x y s Φ := v2_eq h1 h2 (z.shaped hk) (z.shaped hk) (by rw [z.refl]; exact q)
theorem v2_neS1 (h1 : Vw s x d) (h2 : Vw s y d) (z : Shp k d) (hk : k ≤ 64) (q : Φ (.d (.bool false)) s) : V2 K b (rNeD K) x y s Φ := v2_ne h1 h2 (z.shaped hk) (z.shaped hk) (by rw [z.refl]; exact q)
theorem da_intsV {H : Hp} : ∀ {ns : List Int} {vs : List V}, DrA K H vs (ns.map PyData.int) → vs = ns.map V.int
  | [], _, h => by cases h; rfl
  | n :: ns, _, h => by
    cases h with
    | cons h t =>
      cases h
      rw [da_intsV t]
      rfl
theorem vc_sum {ns : List Int} (h : Vw s x (.list (ns.map .int))) (q : Φ (.d (.int ns.sum)) s) : VC K b (rSum K) [x] s Φ := fun σ H tv tl Hd ps vs R a Q k => by
  cases a with
  | @cons v _ _ _ a1 t =>
    cases t
    obtain ⟨p, vs, rfl, hv, ha⟩ := vw_lst R a1 h
    have e := da_intsV ha
    subst e
    exact ⟨p, ns, rfl, .inl (.inl hv), k _ H _ s Hd ps q R (.int _)⟩
theorem vc_min {ns : List Int} (h : Vw s x (.list (ns.map .int))) (hl : 0 < ns.length) (q : ∀ m, m ∈ ns → (∀ y, y ∈ ns → m ≤ y) → Φ (.d (.int m)) s) : VC K b (rMin K) [x] s Φ := fun σ H tv tl Hd ps vs R a Q k => by
  cases a with
  | @cons v _ _ _ a1 t =>
    cases t
    obtain ⟨p, vs, rfl, hv, ha⟩ := vw_lst R a1 h
    have e := da_intsV ha
    subst e
    exact ⟨p, ns, rfl, .inl (.inl hv), hl, fun m h1 h2 => k _ H _ s Hd ps (q m h1 h2) R (.int _)⟩
theorem vc_max {ns : List Int} (h : Vw s x (.list (ns.map .int))) (hl : 0 < ns.length) (q : ∀ m, m ∈ ns → (∀ y, y ∈ ns → y ≤ m) → Φ (.d (.int m)) s) : VC K b (rMax K) [x] s Φ := fun σ H tv tl Hd ps vs R a Q k => by
  cases a with
  | @cons v _ _ _ a1 t =>
    cases t
    obtain ⟨p, vs, rfl, hv, ha⟩ := vw_lst R a1 h
    have e := da_intsV ha
    subst e
    exact ⟨p, ns, rfl, .inl (.inl hv), hl, fun m h1 h2 => k _ H _ s Hd ps (q m h1 h2) R (.int _)⟩
end
end Dw
namespace Dw
open PySem
open _root_.L2
section
variable {K : PySem.W.Frag} {b : B} {s : S} {Φ : A → S → Prop} {i j : Str}
theorem v2_eqSt (h : PyData.strOk i = true) (q : Φ (.d (.bool true)) s) : V2 K b (rEqD K) (.d (.str i)) (.d (.str i)) s Φ := v2_eqS1 (d := .str i) rfl rfl (shp_str h) (Nat.zero_le _) q
theorem v2_neSt (h : PyData.strOk i = true) (q : Φ (.d (.bool false)) s) : V2 K b (rNeD K) (.d (.str i)) (.d (.str i)) s Φ := v2_neS1 (d := .str i) rfl rfl (shp_str h) (Nat.zero_le _) q
theorem v2_eqSf (h : PyData.strOk i = true) (h2 : PyData.strOk j = true) (e : (i == j) = false) (q : Φ (.d (.bool false)) s) : V2 K b (rEqD K) (.d (.str i)) (.d (.str j)) s Φ := v2_eq (d := .str i) (e := .str j) rfl rfl ((shp_str h).shaped (Nat.zero_le _)) ((shp_str h2).shaped (Nat.zero_le _)) (by show Φ (.d (.bool (i == j))) s; rw [e]; exact q)
theorem v2_neSf (h : PyData.strOk i = true) (h2 : PyData.strOk j = true) (e : (i == j) = false) (q : Φ (.d (.bool true)) s) : V2 K b (rNeD K) (.d (.str i)) (.d (.str j)) s Φ := v2_ne (d := .str i) (e := .str j) rfl rfl ((shp_str h).shaped (Nat.zero_le _)) ((shp_str h2).shaped (Nat.zero_le _)) (by show Φ (.d (.bool (!(i == j)))) s; rw [e]; exact q)
end
end Dw

/-! lists walked while an error is handled -/
namespace HotX
open PySem PySem.Spec PyProof.Rows
section
variable {prog : Program} {w : World} {A : Around} {E : Value → Shared → Prop} {s : Shared}
theorem pyNext_list_end_hot {it l x1 : Addr} {i : Nat} {items : Array Value} {Q : Option Value → Shared → Prop} (hot : HotAt A x1 s.heap) (hne : it ≠ x1) (hit : s.heap.IsListIter it l i) (hl : s.heap.IsList l items) (hx : items[i]? = none)
    (hQ : ∀ h', (∀ b o, b ≠ it → s.heap.get? b = some o → h'.get? b = some o) → Q none { s with heap := h' }) : wpAny (model prog w) A (pyNext (.ref it)) Q E s := by
  obtain ⟨o, ho, hc, hd⟩ := id hit
  obtain ⟨ol, hol, _, nl, hdl⟩ := hl
  obtain ⟨hh, o1, vs1, h1, d1, c1⟩ := hot
  unfold pyNext
  refine wpAny_bind (wpAny_attempt (wpAny_callSpecial?_slot (name := Str.ofString "__next__") hit.typeIs slot_listiter_next
    (wpAny_call_entry slot_listiter_next hit.typeIs entry_listiter_next ?_ (args_listiter_next _))))
  show wpAny _ _ (field (.ref it) 0 >>= _) _ _ s
  refine wpAny_bind (wpAny_field ho hd (x := .ref l) rfl ?_)
  show wpAny _ _ (if (Value.ref l == Value.none) = true then _ else _) _ _ s
  rw [if_neg (show ¬ ((Value.ref l == Value.none) = true) from Bool.false_ne_true)]
  show wpAny _ _ (field (.ref it) 1 >>= _) _ _ s
  refine wpAny_bind (wpAny_field ho hd (x := .int i 0) rfl ?_)
  show wpAny _ _ (seqItems? (.ref l) >>= _) _ _ s
  refine wpAny_bind (wpAny_seqItems hol hdl ?_)
  simp only [Int.toNat_natCast, hx]
  refine wpAny_bind (wpAny_rule (wpAny_bind (wpAny_setField ho hd (by simp) ?_)))
  show wpAny _ _ (newExc (.type "StopIteration") [] >>= _) _ _ _
  refine wpAny_bind ?_
  simp only [newExc, newTuple]
  have k1 : (s.heap.update it (Obj.mapFields (·.setIfInBounds 0 Value.none))).get? x1 = some o1 := by
    rw [Heap.get?_update_other _ _ hne]
    exact h1
  refine wpAny_bind (wpAny_newObj_type ?_ (by size_fits))
  refine wpAny_bind (m := firstArgMember _ _) (wpAny_of_eq (a := Value.none) (by first | rfl | (simp only [firstArgMember]; rfl)) ?_)
  refine wpAny_newObj_type ?_ (by size_fits)
  refine raiseNew_hot ⟨hh, o1, vs1, Heap.get?_push_of_some _ (Heap.get?_push_of_some _ k1), d1, c1⟩ (Nat.ne_of_lt (Heap.lt_size (Heap.get?_push_of_some _ k1))) (Heap.get?_push_size _ rfl) rfl (by first | (simp; done) | (simp; omega) | (simp only [Array.size_append]; simp; omega)) ?_
  refine wpAny_bind (wpAny_isInstance (T := "StopIteration") (b := true) ⟨_, Heap.get?_update_self _ (Heap.get?_push_size _ rfl) rfl, rfl⟩ isSubtype_stop ?_)
  refine wpAny_pure (hQ _ fun b o hb e => ?_)
  have e2 : (s.heap.update it (Obj.mapFields (·.setIfInBounds 0 Value.none))).get? b = some o := by
    rw [Heap.get?_update_other _ _ (Ne.symm hb)]
    exact e
  rw [Heap.get?_update_other _ _ (Nat.ne_of_gt (Heap.lt_size (Heap.get?_push_of_some _ e2)))]
  exact Heap.get?_push_of_some _ (Heap.get?_push_of_some _ e2)
end
end HotX
namespace L2H
open PySem PySem.Spec PyProof.Rows
open _root_.L2
theorem turn_listH {P : Program} {w : World} {K : PySem.W.Frag} {tg : Expr} (a it : Addr) : TurnH P w K tg (Itl K a) [it] it (fun i h => h.IsListIter it a i) where
  mem := by simp
  obj := fun i h st b hb => by
    have e : b = it := by simpa using hb
    subst e
    obtain ⟨o, e, c, d⟩ := st
    exact ⟨o, e, fun v z => by rw [d] at z; cases z⟩
  keep := fun i h h' st k => st.at fun o e => k it (by simp) o e
  item := by
    intro X hP hw hK hc i pins s σ H E I hf st hg
    subst hP hw hK
    obtain ⟨xs, x, hq, hx⟩ := hg
    obtain ⟨its, rv, p, hz⟩ := I.list hq
    obtain ⟨u, hu, ru⟩ := rv.get hx
    obtain ⟨f0, f1, f2, f3, f4, f5⟩ := hf it (by simp)
    refine wpAny_pyNext_list_item st p.isList (x := u) (by simpa using hu) fun h' st' sb => ?_
    have I1 : Inv X pins σ H { s with heap := h' } := I.turned (t' := s.toks) (fun b o hb e => (sb.2 b hb).trans e) f0 f1 f3 f4 f5
    obtain ⟨o, e, c, d⟩ := id st'
    exact ⟨u, rfl, go_of (s := { s with heap := h' }) e c d (by decide) ⟨x, H, I1, ru, ⟨rfl, fun ys hy => by rw [I.list_inj hy hq]; exact hx⟩, st', fun b hb => (hf b hb).1⟩⟩
  done := by
    intro X hP hw hK hc i pins s σ H E I hf st hg
    subst hP hw hK
    obtain ⟨xs, hq, hx⟩ := hg
    obtain ⟨its, rv, p, hz⟩ := I.list hq
    obtain ⟨f0, f1, f2, f3, f4, f5⟩ := hf it (by simp)
    obtain ⟨x1, hot⟩ := hc.at I
    have hl := rv.length
    refine HotX.pyNext_list_end_hot hot ?_ st p.isList (by simp; omega) fun h' eb => ⟨rfl, I.turned (t' := s.toks) (fun b o hb e => eb b o hb e) f0 f1 f3 f4 f5⟩
    intro e
    obtain ⟨o, e1, e2, e3⟩ := id st
    obtain ⟨hh, o1, vs1, h1, d1, c1⟩ := hot
    rw [e, h1] at e1
    cases e1
    rw [d1] at e3
    cases e3
    cases c1
  self := fun _ _ _ _ _ st h => wpAny_pyIter_listiter st h
theorem pi_listH {X : Cx} {tg : Expr} {l : Expr} {tl : TE} (hl : PE X l tl) : PIH X tg l (iList X.K tl) := by
  refine ⟨fun pins s σ H R I h => ?_⟩
  refine thn (hl.run pins s σ H _ I h) fun v s1 ⟨x, H1, I1, r1, q1⟩ => ?_
  obtain ⟨a, e, ⟨xs, hq⟩, q⟩ := q1
  subst e
  cases r1
  obtain ⟨its, rv, p, hz⟩ := I1.list hq
  refine wpAny_pyIter_list p.isList ?_
  refine ⟨s1.heap.objs.size, [s1.heap.objs.size], _, _, H1, rfl, I1.kept (t' := s1.toks) fun b o e => Heap.get?_push_of_some _ e, turn_listH a _, ⟨_, Heap.get?_push_size _ rfl, rfl, rfl⟩, fun b hb => ?_, q⟩
  have e : b = s1.heap.objs.size := by simpa using hb
  subst e
  exact I1.fpOk (Nat.le_refl _) (I1.hok.fresh (Nat.le_refl _))
end L2H

/-! an error that keeps a list -/
namespace Dw
open PySem
open _root_.L2
/-- C's __init__: a told text, a list copied into a field -/
def spL (K : PySem.W.Frag) (C : Addr) (f : Str) : Sp := fun vs H Q _ => ∃ a l ws, vs = [.ref a, .ref l] ∧ SqL K H l ws ∧ H a = some (exo a C none) ∧
  ∀ p, H p = none → ∀ dx, upd H p (.lst ws) dx = none → dx ≠ a → Q .non (upd (upd (upd H p (.lst ws)) dx (exd dx [(f, .ref p)])) a (exo a C (some dx)))
theorem spL_len {K : PySem.W.Frag} {C : Addr} {f : Str} : ∀ vs H Q E, spL K C f vs H Q E → vs.length = 2 := by
  rintro vs H Q E ⟨a, l, ws, rfl, _⟩
  rfl
section
variable {K : PySem.W.Frag} {b : B} {s s1 : S} {te ta tb tc : TE} {tt tu : TT} {t : TA} {x y : A} {Φ Ψ : A → S → Prop} {N : EE} {f : Spc}
theorem go_raiseL {C : Addr} {f : Str} {W : WX} (h : EA K b t s fun as s1 => ∃ ds, as = [A.d (.list ds)] ∧ ∀ d σ H' tv ta Hd' ps', Rp K b s1 σ H' tv ta Hd' ps' → XvR K Hd' d (some [(f, .list ds)]) → W (.ref C) d σ H') :
    GO K b (fun _ σ H => tMkO C (spL K C f) [] t σ H fun cls d H' => W cls d σ H') s N := fun D σ H tv tl Hd ps R _ =>
  h σ H tv tl Hd ps R _ fun vs H1 as s1 Hd1 ps1 h1 R1 a1 => by
    obtain ⟨ds, rfl, hx⟩ := h1
    have hda := da_of_ars (xs := [PyData.list ds]) a1
    cases hda with
    | cons h0 t0 =>
    cases t0
    cases h0 with
    | @lst l ws _ hl hw =>
    refine ⟨by simp, fun a ha => ?_⟩
    have hl1 : H1 l = some (.lst ws) := R1.e1 _ _ hl
    have hla : l ≠ a := fun e => by rw [e, ha] at hl1; cases hl1
    refine ⟨a, l, ws, rfl, .inl (.inl ((upd_ne hla).trans hl1)), upd_same, fun p hp dx hdx hne => ⟨rfl, dx, [(f, .ref p)], upd_same, by rw [upd_ne hne, upd_same], ?_, ?_⟩⟩
    all_goals
      have hpa : p ≠ a := fun e => by rw [e, upd_same] at hp; cases hp
      rw [upd_ne hpa] at hp
      have hdp : dx ≠ p := fun e => by rw [e, upd_same] at hdx; cases hdx
      rw [upd_ne hdp, upd_ne hne] at hdx
    · exact hdx
    have e : upd (del (upd (upd (upd (upd H1 a (exo a C none)) p (.lst ws)) dx (exd dx [(f, .ref p)])) a (exo a C (some dx))) a) dx (.xd [(f, .ref p)]) = upd (upd H1 p (.lst ws)) dx (.xd [(f, .ref p)]) := by
      funext c
      by_cases hc : c = dx
      · subst hc; rw [upd_same, upd_same]
      · rw [upd_ne hc, upd_ne hc]
        by_cases hca : c = a
        · subst hca; rw [del_same, upd_ne (Ne.symm hpa)]; exact ha.symm
        · rw [del_ne hca, upd_ne hca, upd_ne hc]
          by_cases hcp : c = p
          · subst hcp; rw [upd_same, upd_same]
          · rw [upd_ne hcp, upd_ne hcp, upd_ne hca]
    rw [e]
    have R2 := R1.newD (.lst ws) hp
    have hdx2 : upd H1 p (.lst ws) dx = none := by rw [upd_ne hdp]; exact hdx
    have R3 := R2.newD (.xd [(f, .ref p)]) hdx2
    refine hx (some dx) _ _ _ _ _ _ R3 ⟨dx, _, rfl, upd_same, .cons ⟨rfl, .lst (a := p) (xs := ws) ?_ ?_⟩ .nil⟩
    · rw [upd_ne (Ne.symm hdp), upd_same]
    · exact da_up ((same_new (none_of_same R1.e1 hp)).trans (same_new (none_of_same R2.e1 hdx2))) _ _ hw
end
end Dw

/-! the least of two data; // by a great number below 0 -/
namespace Dw
open PySem
open _root_.L2
open PySem.W PySem.Spec PyProof.Rows
section
variable {prog : Program} {w : World} {A : Around} {E : Value → Shared → Prop} {s : Shared} {Q : Value → Shared → Prop} {x y : Value} {d e : PyData} {as bs : List Addr}
theorem min_two_data (hh : A.handled = none) (ra : Reads s.heap x d as) (rb : Reads s.heap y e bs) (al : AlikeAll [d, e]) (hu : A.units + 1 + PyData.depthAll [d, e] < cLine)
    (h : ∀ h' tk, (∀ c o, s.heap.get? c = some o → h'.get? c = some o) → Q (if dataLt e d = true then y else x) { s with heap := h', toks := tk }) : wpAny (model prog w) A (call (.builtin "min") [x, y]) Q E s := by
  apply call_function_tree F.kind_min F.plain_min F.entry_min (F.args_min2 x y)
  change wpAny _ A.in1 (Builtin.Builtins.bindParams "min" ["key", "default"] 0 ⟨[], []⟩ >>= _) _ _ s
  apply wpAny_bind
  apply wpAny_of_eq (show Builtin.Builtins.bindParams "min" ["key", "default"] 0 ⟨[], []⟩ = pure [none, none] from rfl)
  change wpAny _ A.in1 (newTuple [x, y] >>= _) _ _ s
  apply wpAny_bind
  refine wpAny_newObj_type ?_
  have hold : ∀ c o, s.heap.get? c = some o → (s.heap.push { cls := .type "tuple", data := .seq #[x, y] }).get? c = some o := fun c o z => Heap.get?_push_of_some _ z
  have hT : (s.heap.push { cls := .type "tuple", data := .seq #[x, y] }).IsTuple s.heap.objs.size #[x, y] := ⟨_, Heap.get?_push_size _ rfl, rfl, 0, rfl⟩
  apply wpAny_bind
  refine iter_tupleW (A := A.in1) (s := { s with heap := s.heap.push { cls := .type "tuple", data := .seq #[x, y] } }) hh hT fun s2 z W st hfp hw hk => ?_
  apply wpAny_bind
  refine wpAny_newObj_type ?_
  have hSf : s2.heap.objs.size ∉ _ := fun hm => Nat.lt_irrefl _ (hfp _ hm)
  have rr : ReadsAll (s.heap.push { cls := .type "tuple", data := .seq #[x, y] }) #[x, y].toList [d, e] (as ++ (bs ++ [])) := .cons (reads_keeps hold ra) (.cons (reads_keeps hold rb) .nil)
  have cm := cmpIn_lt (A := A.in1) (s := { s with heap := s.heap.push { cls := .type "tuple", data := .seq #[x, y] } }) (prog := prog) (w := w) rr al (show A.units + 1 + _ < _ from hu)
  rw [show (toString "min" ++ toString ".loop" : String) = "min.loop" from by decide]
  refine wpAny_pure ⟨plainId_quiet F.plain_min_loop _, codeAny_min_loop_firstH W _ hw _ cm s2.heap.objs.size hSf (fresh_in hk) _ (Nat.succ_pos 1) (fun c o z => Heap.get?_push_of_some _ (hk c o z)) (W.frame _ _ _ _ st (Nat.le_refl _) fun c _ o z => Heap.get?_push_of_some _ z) (Heap.get?_push_size _ rfl) fun v s' hP m => ?_⟩
  have lt2 : s.heap.objs.size < s2.heap.objs.size := by
    have := hfp s.heap.objs.size (by simp)
    exact this
  have lt3 : (s.heap.push { cls := .type "tuple", data := .seq #[x, y] }).objs.size = s.heap.objs.size + 1 := Heap.size_push ..
  have keep : ∀ c o, s.heap.get? c = some o → s'.heap.get? c = some o := fun c o z0 => by
    have l := Heap.lt_size z0
    refine m.heap c o (fun hm => ?_) (Heap.get?_push_of_some _ (hk c o (hold c o z0)))
    rcases List.mem_cons.mp hm with e1 | hm
    · rw [e1] at l
      exact Nat.lt_asymm l lt2
    · rw [List.mem_singleton.mp hm] at l
      have l : (s.heap.push { cls := .type "tuple", data := .seq #[x, y] }).objs.size < s.heap.objs.size := l
      omega
  have es : s' = { s with heap := s'.heap, toks := s'.toks } := by
    subst z
    obtain ⟨hp, g, d, tk, os⟩ := s'
    have h1 : g = s.gens := m.gens
    have h2 : d = s.drawn := m.drawn
    have h3 : os = s.os := m.os
    subst h1
    subst h2
    subst h3
    rfl
  have q := h s'.heap s'.toks keep
  rw [← es] at q
  have ev : v = if dataLt e d = true then y else x := by
    have hP : (#[x, y] : Array Value)[argBest (fun i j => dataLt ([d, e].getD i .none) ([d, e].getD j .none)) 1]? = some v := hP
    cases hc : dataLt e d <;> simp [argBest, hc] at hP <;> simp [hP]
  rw [ev]
  exact q
end
def CDivWN (_ j : Int) : Prop := j ≠ 0 ∧ j.natAbs.log2 < 9000
def rMin2 (K : PySem.W.Frag) : List V → Hp → VK → Prop := fun vs H Q => ∃ v w d e, vs = [v, w] ∧ Dp K H v d ∧ Dp K H w e ∧ AlikeAll [d, e] ∧ PyData.depthAll [d, e] ≤ 60 ∧ Q (if dataLt e d = true then w else v) H
section
variable {X : Cx}
theorem op_fdivWN : OpR X (binaryOp .FloorDiv) (rI CDivWN fun i j => .int (i.fdiv j)) := opI fun _ _ _ _ _ _ _ hc q => floordiv_int hc.1 q (.inl (PyProof.noPylong_of_log2 hc.2))
theorem call_min2D (hc : X.calm = true) (hu : X.A.units + 64 < cLine) : CallR X (.builtin "min") (rMin2 X.K) := fun pins s σ H xs us Q I r h => by
  obtain ⟨v, w, d, e, rfl, hd, he, ha, hz, q⟩ := h
  obtain ⟨u1, u2, rfl, r1, r2⟩ := vals2 r
  obtain ⟨as, g1⟩ := Dp.reads I d v u1 hd r1
  obtain ⟨bs, g2⟩ := Dp.reads I e w u2 he r2
  refine min_two_data (I.ok.hd hc) g1 g2 ha (by omega) fun h' tk k => ⟨_, H, I.kept k, ?_, q⟩
  split
  · exact r2
  · exact r1
end
theorem cdwn {i j : Int} (h : j ≠ 0) (hb : j.natAbs < 2 ^ 400) : CDivWN i j := ⟨h, Nat.lt_of_lt_of_le (PySem.Flt.log2_lt_of (by decide) hb) (by decide)⟩
end Dw

/-! instances of own classes: made, then read only -/
namespace Dw
open PySem
open _root_.L2
abbrev PrF (K : PySem.W.Frag) (H : Hp) : List (Str × V) → List (Str × PyData) → Prop := Paired (fun a b => a.1 = b.1 ∧ Dr K H a.2 b.2)
section
variable {K : PySem.W.Frag} {H H' : Hp} {ws : List (Str × V)} {fs : List (Str × PyData)} {f : Str} {x : PyData} {v : V}
theorem prf_up (e : Same H H') (h : PrF K H ws fs) : PrF K H' ws fs := pair_mono (fun _ _ q => ⟨q.1, dp_up e _ _ q.2⟩) h
theorem prf_lk : ∀ {ws : List (Str × V)} {fs : List (Str × PyData)}, PrF K H ws fs → fs.lookup f = some x → ∃ v, ws.lookup f = some v ∧ Dr K H v x
  | _, _, .nil, e => by cases e
  | (g, w) :: ws, (g', y) :: fs, .cons ⟨h1, h2⟩ t, e => by
    obtain rfl : g = g' := h1
    cases c : f == g with
    | true =>
      simp only [List.lookup, c] at e ⊢
      cases e
      exact ⟨_, rfl, h2⟩
    | false =>
      simp only [List.lookup, c] at e ⊢
      exact prf_lk t e
theorem prf_no : ∀ {ws : List (Str × V)} {fs : List (Str × PyData)}, PrF K H ws fs → fs.lookup f = none → ws.lookup f = none
  | _, _, .nil, _ => rfl
  | (g, w) :: ws, (g', y) :: fs, .cons ⟨h1, h2⟩ t, e => by
    obtain rfl : g = g' := h1
    cases c : f == g with
    | true =>
      simp only [List.lookup, c] at e
      cases e
    | false =>
      simp only [List.lookup, c] at e ⊢
      exact prf_no t e
/-- the fields with f set -/
def pF (f : Str) (x : PyData) : List (Str × PyData) → List (Str × PyData)
  | [] => [(f, x)]
  | (g, y) :: r => if g = f then (g, x) :: r else (g, y) :: pF f x r
theorem prf_put (hv : Dr K H v x) : ∀ {ws : List (Str × V)} {fs : List (Str × PyData)}, PrF K H ws fs → PrF K H (putF f v ws) (pF f x fs)
  | _, _, .nil => .cons ⟨rfl, hv⟩ .nil
  | (g, w) :: ws, (g', y) :: fs, .cons ⟨h1, h2⟩ t => by
    obtain rfl : g = g' := h1
    by_cases c : g = f
    · rw [show putF f v ((g, w) :: ws) = (g, v) :: ws from if_pos c, show pF f x ((g, y) :: fs) = (g, x) :: fs from if_pos c]
      exact .cons ⟨rfl, hv⟩ t
    · rw [show putF f v ((g, w) :: ws) = (g, w) :: putF f v ws from if_neg c, show pF f x ((g, y) :: fs) = (g, y) :: pF f x fs from if_neg c]
      exact .cons ⟨rfl, h2⟩ (prf_put hv t)
end
/-- an instance that is read only -/
abbrev insP (K : PySem.W.Frag) (cl : Addr) (fs : List (Str × PyData)) : A :=
  .p (fun H v => ∃ a dx ws, v = .ref a ∧ H a = some (.ins cl dx ws) ∧ PrF K H ws fs) fun _ _ _ e ⟨a, dx, ws, h1, h2, h3⟩ => ⟨a, dx, ws, h1, e _ _ h2, prf_up e h3⟩
section
variable {K : PySem.W.Frag} {b : B} {s s1 : S} {te ta tb tc : TE} {tt tu : TT} {t tk : TA} {x y : A} {Φ Ψ : A → S → Prop} {N : EE} {f : Spc} {g : Str}
theorem ev_fldP (h : EV K b ta s fun a s1 => ∃ cl fs x, a = insP K cl fs ∧ Cls K cl ∧ NoAttr K cl g ∧ fs.lookup g = some x ∧ Φ (.d x) s1) : EV K b (tFld K ta g) s Φ := fun σ H tv tl Hd ps R Q k =>
  h σ H tv tl Hd ps R _ fun v H1 a s1 Hd1 ps1 h1 R1 a1 => by
    obtain ⟨cl, fs, x, rfl, c, n, l, q⟩ := h1
    obtain ⟨p, dx, ws, rfl, hp, hw⟩ := a1
    obtain ⟨v, hv, hd⟩ := prf_lk hw l
    exact ⟨p, cl, dx, ws, v, rfl, R1.e1 _ _ hp, c, n, hv, k _ _ _ _ _ _ q R1 hd⟩
theorem ev_fldO (h : EV K b ta s fun a s1 => ∃ k cl fs x, a = .o k ∧ s1.os[k]? = some (.ins cl fs) ∧ Cls K cl ∧ NoAttr K cl g ∧ fs.lookup g = some x ∧ Φ (.d x) s1) : EV K b (tFld K ta g) s Φ := fun σ H tv tl Hd ps R Q k =>
  h σ H tv tl Hd ps R _ fun v H1 a s1 Hd1 ps1 h1 R1 a1 => by
    obtain ⟨j, cl, fs, x, rfl, ho, c, n, l, q⟩ := h1
    obtain ⟨p, hp, rfl⟩ := a1
    obtain ⟨h0, dx, ws, hH, hw⟩ := R1.cl j _ p ho hp
    obtain ⟨v, hv, hd⟩ := prf_lk hw l
    exact ⟨p, cl, dx, ws, v, rfl, hH, c, n, hv, k _ _ _ _ _ _ q R1 hd⟩
theorem go_fldO (h : EV K b te s fun y s1 => EV K b ta s1 fun a s2 => ∃ x k cl fs, y = .d x ∧ a = .o k ∧ s2.os[k]? = some (.ins cl fs) ∧ Cls K cl ∧ NoAttr K cl g ∧ fs.length < 1000 ∧ N.nx (s2.put k (.ins cl (pF g x fs)))) : GO K b (sFld K ta te g) s N := fun D σ H tv tl Hd ps R hD =>
  h σ H tv tl Hd ps R _ fun v H1 y s1 Hd1 ps1 h1 R1 a1 => h1 σ H1 (v :: tv) (y :: tl) Hd1 ps1 (R1.push a1) _ fun u H2 a s2 Hd2 ps2 h2 R2 a2 => by
    obtain ⟨x, k, cl, fs, rfl, rfl, ho, c, n, hl, q⟩ := h2
    obtain ⟨R3, ax⟩ := R2.pop
    obtain ⟨p, hp, rfl⟩ := a2
    obtain ⟨h0, dx, ws, hH, hw⟩ := R3.cl k _ p ho hp
    exact ⟨p, cl, dx, ws, rfl, hH, c, n, by rw [pair_len hw]; exact hl, hD.nx _ _ _ _ _ q (R3.put ho hp (fun z => nomatch z) ⟨h0, dx, _, upd_same, prf_put ax hw⟩)⟩
/-- C(.., k = v): made, then read only -/
theorem ev_makeK {cl : Addr} {n m : Nat} {gV gT : List V → List V → List V} {E : XK} (hgV : ∀ v vs zs, gV (v :: vs) zs = v :: gT vs zs)
    (h : EA K b t s fun as s1 => EA K b tk s1 fun zs s2 => as.length = n ∧ zs.length = m ∧ noO as = true ∧ noO zs = true ∧ ∃ i rest, (∀ Hd ps vs ws, Paired (AR K Hd ps) vs as → Paired (AR K Hd ps) ws zs → Paired (AR K Hd ps) (gT vs ws) rest) ∧ noO rest = true ∧
      f.args i = .o 0 :: rest ∧ f.cells i = [.ins cl []] ∧ f.pre i ∧ (∀ r c', f.post i r [c'] → ∃ fs, r = .val .none ∧ c' = .ins cl fs ∧ Φ (insP K cl fs) s2) ∧ ∀ x c', ¬ f.xpost i x [c']) : EV K b (tMakeK cl n m (SpB K f) gV E t tk) s Φ := fun σ H tv tl Hd ps R Q k =>
  h σ H tv tl Hd ps R _ fun vs H1 as s1 Hd1 ps1 h1 R1 a1 => h1 σ H1 (vs ++ tv) (as ++ tl) Hd1 ps1 (R1.pushAll a1) _ fun zv H2 zs s2 Hd2 ps2 h2 R2 a2 => by
    obtain ⟨hn, hm, no1, no2, i, rest, hG, no3, ea, ec, hpre, hf, hx⟩ := h2
    obtain ⟨R3, a1'⟩ := R2.popAll (pair_len a1)
    refine ⟨(pair_len a1).trans hn, (pair_len a2).trans hm, fun p dx hp hdx hne => ?_⟩
    rw [hgV]
    have s1 : Same H2 (upd H2 dx (.own p)) := same_new hdx
    have hp' : upd H2 dx (.own p) p = none := by rw [upd_ne (Ne.symm hne)]; exact hp
    have s2' : Same (upd H2 dx (.own p)) (upd (upd H2 dx (.own p)) p (.ins cl dx [])) := same_new hp'
    have hdp : Hd2 p = none := none_of_same R3.e1 hp
    refine ⟨Hd2, [p], i, R3.e1.trans (s1.trans s2'), List.pairwise_singleton _ _, by rw [ec]; rfl, fun q hq => by rw [List.mem_singleton.mp hq, upd_same]; exact (fun z => (nomatch z)), fun j cc q hj hq => ?_, by rw [ea]; exact .cons ⟨p, rfl, rfl⟩ (ars_sub (hG _ _ _ _ a1' a2) (noO_ok no3)), hpre, fun r os' hr v Hd' H' more ⟨e1, e2, e3, e4, e5, e6, e7⟩ hv => ?_, fun x os' hr d Hd' H' more ⟨e1, e2, e3, e4, e5, e6, e7⟩ hv => ?_⟩
    · rw [ec] at hj
      cases j with
      | zero =>
        cases hj
        cases hq
        exact ⟨hdp, dx, [], upd_same, .nil⟩
      | succ j => cases hj
    · rw [ec] at e6
      obtain ⟨c', rfl⟩ : ∃ c', os' = [c'] := by
        match os', e6 with
        | [c'], _ => exact ⟨c', rfl⟩
      obtain ⟨fs, rfl, rfl, q⟩ := hf r c' hr
      cases (show Dr K Hd' v .none from hv)
      obtain ⟨h0, dx', ws, hH, hw⟩ := e7 0 _ p rfl rfl
      refine ⟨rfl, ?_⟩
      have sn : Same Hd' (upd Hd' p (.ins cl dx' ws)) := same_new h0
      have R4 : Rp K b _ σ H' tv tl (upd Hd' p (.ins cl dx' ws)) ps2 := R3.ext (e1.trans sn) (fun c o ho => by
          by_cases z : c = p
          · subst z
            rw [upd_same] at ho
            cases ho
            exact hH
          · rw [upd_ne z] at ho
            exact e2 _ _ ho) (fun c o ho => by
          have z : c ≠ p := ne_of_none ho hp
          exact e3 c o (by simpa using z) (s2' _ _ (s1 _ _ ho))) fun c hc hd => by
          have z : c ≠ p := fun e => hc (by rw [e]; exact hp)
          rw [upd_ne z]
          refine e4 c (by simpa using z) (fun e => ?_) hd
          cases y : H2 c with
          | none => exact hc y
          | some o => rw [s2' _ _ (s1 _ _ y)] at e; cases e
      exact k _ _ _ _ _ _ q R4 ⟨p, dx', ws, rfl, upd_same, prf_up sn hw⟩
    · rw [ec] at e6
      obtain ⟨c', rfl⟩ : ∃ c', os' = [c'] := by
        match os', e6 with
        | [c'], _ => exact ⟨c', rfl⟩
      exact absurd hr (hx x c')
end
end Dw

/-! own lists that hold own lists -/
namespace Dw
open PySem
open _root_.L2
section
variable {K : PySem.W.Frag} {b : B} {s s1 : S} {te ta tb tc : TE} {tt tu : TT} {t : TA} {x y : A} {Φ Ψ : A → S → Prop} {N : EE} {f : Spc} {g : Str}
theorem pair_at {α β : Type} {G : α → β → Prop} {vs : List α} {as : List β} {i : Int} {a : β} (h : Paired G vs as) (e : atI as i = some a) : ∃ v, atI vs i = some v ∧ G v a := by
  unfold atI at e ⊢
  rw [pair_len h]
  cases q : ixN as.length i with
  | none => rw [q] at e; cases e
  | some j =>
    rw [q] at e
    obtain ⟨v, hv, hz⟩ := pair_get h (show as[j]? = some a from e)
    exact ⟨v, hv, hz⟩
/-- an own list of things of any kind -/
theorem ev_lstA (h : EA K b t s fun as s1 => Nat.ble as.length 1000 = true ∧ Φ (.o s1.os.length) (s1.add (.la as))) : EV K b (tLst t) s Φ := fun σ H tv tl Hd ps R Q k =>
  h σ H tv tl Hd ps R _ fun vs H1 as s1 Hd1 ps1 h1 R1 a1 => by
    obtain ⟨hl, q⟩ := h1
    refine ⟨Nat.le_trans (by rw [pair_len a1]; exact Nat.le_of_ble_eq_true hl) (show 1000 ≤ sizeLine by decide), fun p hp => ?_⟩
    obtain ⟨R2, a2⟩ := R1.new (c := .la as) (o := .lst vs) hp ⟨none_of_same R1.e1 hp, vs, upd_same, a1⟩
    exact k _ _ _ _ _ _ q R2 a2
theorem ev_tupA (h : EA K b t s fun as s1 => Nat.ble as.length 1000 = true ∧ Φ (.t as) s1) : EV K b (tTup t) s Φ := fun σ H tv tl Hd ps R Q k =>
  h σ H tv tl Hd ps R _ fun vs H1 as s1 Hd1 ps1 h1 R1 a1 => by
    obtain ⟨hl, q⟩ := h1
    refine ⟨Nat.le_trans (by rw [pair_len a1]; exact Nat.le_of_ble_eq_true hl) (show 1000 ≤ sizeLine by decide), fun p hp => ?_⟩
    exact k _ _ _ _ _ _ q (R1.newD (.tup vs) hp) ⟨p, vs, rfl, .inl (.inl upd_same), pair_ars (pair_mono (fun _ _ q => ar_up (same_new (none_of_same R1.e1 hp)) q) a1)⟩
theorem v2_ixA {n : Nat} {xs : List A} {i : Int} {a : A} (h : s.os[n]? = some (.la xs)) (e : atI xs i = some a) (q : Φ a s) : V2 K b (rIx K) (.o n) (.d (.int i)) s Φ := fun σ H tv tl Hd ps v w R a1 a2 Q k => by
  cases a2
  obtain ⟨p, hp, rfl⟩ := a1
  obtain ⟨_, vs, hv, ha⟩ := R.cl n _ p h hp
  obtain ⟨u, hu, hz⟩ := pair_at ha e
  exact .inl ⟨_, _, i, u, rfl, rfl, .inl (.inl hv), hu, k _ H _ s Hd ps q R hz⟩
theorem v2_ixU {xs : List A} {i : Int} {a : A} (e : atI xs i = some a) (q : Φ a s) : V2 K b (rIx K) (.t xs) (.d (.int i)) s Φ := fun σ H tv tl Hd ps v w R a1 a2 Q k => by
  cases a2
  obtain ⟨p, vs, rfl, hv, ha⟩ := a1
  obtain ⟨u, hu, hz⟩ := pair_at (ars_pair ha) e
  exact .inr (.inl ⟨_, _, i, u, rfl, rfl, st_up R.e1 hv, hu, k _ H _ s Hd ps q R hz⟩)
theorem gt_setA {to ti : TE} {a : A} {N : S → Prop} (h : EV K b to s fun o s1 => EV K b ti s1 fun i s2 => ∃ (n : Nat) (xs : List A) (j : Int) (m : Nat), o = .o n ∧ i = .d (.int j) ∧ s2.os[n]? = some (.la xs) ∧ ixN xs.length j = some m ∧ N (s2.put n (.la (xs.set m a)))) :
    GT K b (gSub to ti rSetL) a s N := fun σ H tv tl Hd ps v R hv Q k =>
  h σ H (v :: tv) (a :: tl) Hd ps (R.push hv) _ fun o H1 ao s1 Hd1 ps1 h1 R1 a1 => h1 σ H1 (o :: v :: tv) (ao :: a :: tl) Hd1 ps1 (R1.push a1) _ fun i H2 ai s2 Hd2 ps2 h2 R2 a2 => by
    obtain ⟨n, xs, j, m, rfl, rfl, ho, hj, q⟩ := h2
    obtain ⟨R3, a3⟩ := R2.pop
    obtain ⟨R4, a4⟩ := R3.pop
    cases a2
    obtain ⟨p, hp, rfl⟩ := a3
    obtain ⟨hn, vs, hv2, ha⟩ := R4.cl n _ p ho hp
    refine ⟨p, vs, j, m, rfl, rfl, hv2, by rw [pair_len ha]; exact hj, ?_⟩
    exact k _ _ _ _ _ q (R4.put ho hp (fun z => nomatch z) ⟨hn, _, upd_same, pair_set (G := AR K Hd2 ps2) a4 m ha⟩)
theorem vm_appendA {n : Nat} {xs : List A} {z : A} (h : s.os[n]? = some (.la xs)) (hl : xs.length < sizeLine) (q : Φ (.d .none) (s.put n (.la (xs ++ [z])))) : VM K b rAppend (.o n) [z] s Φ := fun σ H tv tl Hd ps v vs R a1 a2 Q k => by
  cases a2 with
  | @cons w _ _ _ c1 c2 =>
  cases c2
  obtain ⟨p, hp, rfl⟩ := a1
  obtain ⟨hn, ws, hw, ha⟩ := R.cl n _ p h hp
  refine ⟨p, ws, w, rfl, rfl, hw, by rw [pair_len ha]; exact hl, ?_⟩
  exact k _ _ _ _ _ _ q (R.put h hp (fun z => nomatch z) ⟨hn, _, upd_same, pair_app ha (.cons c1 .nil)⟩) .non
theorem vc_lenA {n : Nat} {xs : List A} (h : s.os[n]? = some (.la xs)) (q : Φ (.d (.int xs.length)) s) : VC K b (fun xs H Q => ∃ x n, xs = [x] ∧ LenV K x H n ∧ Q (.int n) H) [.o n] s Φ := fun σ H tv tl Hd ps vs R a Q k => by
  cases a with
  | @cons v _ _ _ a1 t =>
    cases t
    obtain ⟨p, hp, rfl⟩ := a1
    obtain ⟨hn, ws, hw, ha⟩ := R.cl n _ p h hp
    exact ⟨_, xs.length, rfl, .inl ⟨ws, .inl (.inl hw), (pair_len ha).symm⟩, k _ H _ s Hd ps q R (.int _)⟩
/-- a list of data, seen as a list of things -/
theorem cr_la {Hd H : Hp} {ps : List Addr} {p : Addr} {xs : List PyData} (h : CRp K Hd ps H p (.lst xs)) : CRp K Hd ps H p (.la (xs.map A.d)) := by
  obtain ⟨h0, vs, hv, ha⟩ := h
  exact ⟨h0, vs, hv, ars_of_da ha⟩
theorem rp_la {σ : L2.St} {H Hd : Hp} {tv : List V} {ta : List A} {ps : List Addr} (R : Rp K b s σ H tv ta Hd ps) {n : Nat} {xs : List PyData} (h : s.os[n]? = some (.lst xs)) : Rp K b (s.put n (.la (xs.map A.d))) σ H tv ta Hd ps where
  e0 := R.e0
  e1 := R.e1
  e2 := R.e2
  nw := R.nw
  pl := by rw [R.pl]; show _ = (s.os.set n _).length; rw [List.length_set]
  nd := R.nd
  p0 := R.p0
  fr := R.fr
  ex := R.ex
  cl := fun k cc p hk hp => by
    by_cases e : k = n
    · subst e
      rw [show (s.put k (.la (xs.map A.d))).os = s.os.set k (.la (xs.map A.d)) from rfl, List.getElem?_set_self (List.getElem?_eq_some_iff.mp h).1] at hk
      cases hk
      exact cr_la (R.cl k _ p h hp)
    · rw [show (s.put n (.la (xs.map A.d))).os = s.os.set n (.la (xs.map A.d)) from rfl, List.getElem?_set_ne (Ne.symm e)] at hk
      exact R.cl k cc p hk hp
  sl := R.sl
  ln := R.ln
  tm := R.tm
theorem go_la {tx : TS} {n : Nat} {xs : List PyData} (h : s.os[n]? = some (.lst xs)) (q : GO K b tx (s.put n (.la (xs.map A.d))) N) : GO K b tx s N := fun D σ H tv tl Hd ps R k => q D σ H tv tl Hd ps (rp_la R h) k
theorem ev_la {n : Nat} {xs : List PyData} (h : s.os[n]? = some (.lst xs)) (q : EV K b te (s.put n (.la (xs.map A.d))) Φ) : EV K b te s Φ := fun σ H tv tl Hd ps R Q k => q σ H tv tl Hd ps (rp_la R h) Q k
end
/-! ### calls with several own cells -/
mutual
/-- from a call's own numbers to the caller's -/
def unA (π : List Nat) : A → A
  | .o j => .o (π.getD j 0)
  | .d x => .d x
  | .p φ m => .p φ m
  | .t xs => .t (unAs π xs)
def unAs (π : List Nat) : List A → List A
  | [] => []
  | a :: l => unA π a :: unAs π l
end
mutual
def ltA (n : Nat) : A → Bool
  | .o j => decide (j < n)
  | .d _ => true
  | .p _ _ => true
  | .t xs => ltAs n xs
def ltAs (n : Nat) : List A → Bool
  | [] => true
  | a :: l => ltA n a && ltAs n l
end
def unC (π : List Nat) : C → C
  | .la xs => .la (unAs π xs)
  | .dead => .dead
  | .lst xs => .lst xs
  | .dK kvs => .dK kvs
  | .ins cl fs => .ins cl fs
def ltC (n : Nat) : C → Bool
  | .la xs => ltAs n xs
  | _ => true
/-- the cells π get new contents -/
def setAll : List C → List Nat → List C → List C
  | os, j :: π, c :: cs => setAll (os.set j c) π cs
  | os, _, _ => os
theorem setAll_len : ∀ {π : List Nat} {os cs : List C}, (setAll os π cs).length = os.length
  | [], _, _ => by unfold setAll; rfl
  | _ :: _, _, [] => by unfold setAll; rfl
  | j :: π, os, c :: cs => by
    show (setAll (os.set j c) π cs).length = _
    rw [setAll_len, List.length_set]
theorem setAll_out {i : Nat} : ∀ {π : List Nat} {os cs : List C}, i ∉ π → (setAll os π cs)[i]? = os[i]?
  | [], _, _, _ => by unfold setAll; rfl
  | _ :: _, _, [], _ => by unfold setAll; rfl
  | j :: π, os, c :: cs, h => by
    show (setAll (os.set j c) π cs)[i]? = _
    rw [setAll_out (fun z => h (List.mem_cons_of_mem _ z)), List.getElem?_set_ne (fun e => h (by rw [e]; exact List.mem_cons_self))]
theorem setAll_in : ∀ {π : List Nat} {os cs : List C} {i : Nat} {c : C} {j : Nat}, π.Nodup → (∀ j, j ∈ π → j < os.length) → π[i]? = some j → cs[i]? = some c → (setAll os π cs)[j]? = some c
  | [], _, _, _, _, _, _, _, h, _ => by simp at h
  | _ :: _, _, [], _, _, _, _, _, _, h => by simp at h
  | j :: π, os, c :: cs, 0, c', j', nd, hl, h1, h2 => by
    cases h1
    cases h2
    show (setAll (os.set j c) π cs)[j]? = _
    rw [setAll_out (List.nodup_cons.mp nd).1, List.getElem?_set_self (hl j List.mem_cons_self)]
  | j :: π, os, c :: cs, i + 1, c', j', nd, hl, h1, h2 => by
    show (setAll (os.set j c) π cs)[j']? = _
    exact setAll_in (List.nodup_cons.mp nd).2 (fun x hx => by rw [List.length_set]; exact hl x (List.mem_cons_of_mem _ hx)) h1 h2
section
variable {K : PySem.W.Frag} {b : B} {s s1 : S} {t : TA} {Φ : A → S → Prop} {f : Spc}
mutual
theorem un_ar {Hd : Hp} {ps qs more : List Addr} {π : List Nat} (hq : ∀ (i : Nat) j, π[i]? = some j → qs[i]? = ps[j]?) (hl : qs.length = π.length) : ∀ (a : A) (v : V), ltA π.length a = true → AR' K Hd (qs ++ more) a v → AR' K Hd ps (unA π a) v
  | .d _, _, _, h => h
  | .p _ _, _, _, h => h
  | .o j, _, n, ⟨p, h1, h2⟩ => by
    have n : j < π.length := of_decide_eq_true n
    have e : π[j]? = some (π.getD j 0) := by
      rw [List.getD_eq_getElem?_getD, List.getElem?_eq_getElem n]
      rfl
    rw [List.getElem?_append_left (by rw [hl]; exact n)] at h1
    exact ⟨p, (hq j _ e).symm.trans h1, h2⟩
  | .t xs, _, n, ⟨a, vs, h1, h2, h3⟩ => ⟨a, vs, h1, h2, un_ars hq hl xs vs n h3⟩
theorem un_ars {Hd : Hp} {ps qs more : List Addr} {π : List Nat} (hq : ∀ (i : Nat) j, π[i]? = some j → qs[i]? = ps[j]?) (hl : qs.length = π.length) : ∀ (as : List A) (vs : List V), ltAs π.length as = true → ARs' K Hd (qs ++ more) as vs → ARs' K Hd ps (unAs π as) vs
  | [], _, _, h => h
  | x :: xs, _, n, ⟨v, ws, h1, h2, h3⟩ =>
    have n : (ltA π.length x && ltAs π.length xs) = true := n
    ⟨v, ws, h1, un_ar hq hl x v (Bool.and_eq_true_iff.mp n).1 h2, un_ars hq hl xs ws (Bool.and_eq_true_iff.mp n).2 h3⟩
end
theorem un_cr {Hd H : Hp} {ps qs more : List Addr} {π : List Nat} {p : Addr} (hq : ∀ (i : Nat) j, π[i]? = some j → qs[i]? = ps[j]?) (hl : qs.length = π.length) : ∀ {c : C}, ltC π.length c = true → CRp K Hd (qs ++ more) H p c → CRp K Hd ps H p (unC π c)
  | .dead, _, _ => trivial
  | .lst _, _, h => h
  | .dK _, _, h => h
  | .ins _ _, _, h => h
  | .la xs, n, ⟨h0, vs, hv, ha⟩ => ⟨h0, vs, hv, ars_pair (un_ars hq hl xs vs n (pair_ars ha))⟩
/-- a call that may change the own cells π, which speak of each other alone -/
theorem ev_callM {E : L2.St → XK} (π : List Nat) (nd : π.Nodup) (h : EA K b t s fun as s1 => ∃ i, f.args i = renAs π as ∧ okAs π as ∧ f.cells i = π.map (fun j => renC π (s1.os.getD j .dead)) ∧ (∀ j, j ∈ π → ∃ c, s1.os[j]? = some c ∧ c ≠ .dead ∧ okC π c) ∧ f.pre i ∧
      (∀ r os', f.post i r os' → os'.length = π.length → os'.all (ltC π.length) = true ∧ aft ⟨s1.ss, setAll s1.os π (os'.map (unC π))⟩ Φ r) ∧ ∀ x os', ¬ f.xpost i x os') :
    EV K b (tCallG (SpB K f) E t) s Φ := fun σ H tv tl Hd ps R Q k =>
  h σ H tv tl Hd ps R _ fun vs H1 as s1 Hd1 ps1 h1 R1 a1 => by
    obtain ⟨i, ea, hoa, ec, hc, hpre, hf, hx⟩ := h1
    rw [List.append_nil]
    have hlt : ∀ j, j ∈ π → j < ps1.length := fun j hj => by
      obtain ⟨c, h1, _⟩ := hc j hj
      rw [R1.pl]
      exact (List.getElem?_eq_some_iff.mp h1).1
    have gd : ∀ j, j ∈ π → ps1[j]? = some (ps1.getD j 0) := fun j hj => by
      rw [List.getD_eq_getElem?_getD, List.getElem?_eq_getElem (hlt j hj)]
      rfl
    obtain ⟨qs, hqs⟩ : ∃ qs, qs = π.map fun j => ps1.getD j 0 := ⟨_, rfl⟩
    have ql : qs.length = π.length := by rw [hqs, List.length_map]
    have q1 : ∀ (i : Nat) j, π[i]? = some j → qs[i]? = ps1[j]? := fun i j e => by
      rw [hqs, List.getElem?_map, e, gd j (List.mem_of_getElem? e)]
      rfl
    have q2 : ∀ j, j ∈ π → qs[π.idxOf j]? = ps1[j]? := fun j hj => q1 _ _ (idx_get hj)
    have qm : ∀ p, p ∈ qs → ∃ (i : Nat) (j : Nat), π[i]? = some j ∧ ps1[j]? = some p := fun p hp => by
      rw [hqs] at hp
      obtain ⟨j, hj, rfl⟩ := List.mem_map.mp hp
      obtain ⟨i, hi⟩ := List.getElem?_of_mem hj
      exact ⟨i, j, hi, gd j hj⟩
    have qp : ∀ p, p ∈ qs → p ∈ ps1 := fun p hp => by
      obtain ⟨_, j, _, h⟩ := qm p hp
      exact List.mem_of_getElem? h
    refine ⟨Hd1, qs, i, R1.e1, ?_, by rw [ec, List.length_map, ql], fun q hq => R1.ex q (qp q hq), fun j cc q hj hq => ?_, by rw [ea]; exact ars_pair (ren_ars q2 as vs hoa (pair_ars a1)), hpre, fun r os' hr v Hd' H' more ⟨e1, e2, e3, e4, e5, e6, e7⟩ hv => ?_, fun x os' hr => absurd hr (hx x os')⟩
    · rw [hqs]
      exact List.pairwise_map.mpr (List.Pairwise.imp_of_mem (fun {x y} hx hy ne => nd_ne R1.nd (gd x hx) (gd y hy) ne) nd)
    · rw [ec, List.getElem?_map] at hj
      cases e : π[j]? with
      | none => rw [e] at hj; cases hj
      | some m =>
        rw [e] at hj
        cases hj
        have hm := List.mem_of_getElem? e
        obtain ⟨c, h1, _, h3⟩ := hc m hm
        show CRp K Hd1 qs H1 q (renC π (s1.os.getD m .dead))
        rw [show s1.os.getD m .dead = c by rw [List.getD_eq_getElem?_getD, h1]; rfl]
        exact ren_cr q2 h3 (R1.cl m c q h1 ((q1 j m e).symm.trans hq))
    · have el : os'.length = π.length := by rw [e6, ec, List.length_map]
      obtain ⟨hlt', q⟩ := hf r os' hr el
      have R2 : Rp K b ⟨s1.ss, setAll s1.os π (os'.map (unC π))⟩ σ H' tv tl Hd' ps1 := by
        refine R1.extN (fun a => a ∈ qs) qp (os2 := setAll s1.os π (os'.map (unC π))) setAll_len (fun k cc q hk hq => ?_) e1 e2 (fun a o z h => e3 a o z h) (fun a z h h' => e4 a z h h') e5
        by_cases z : k ∈ π
        · obtain ⟨i, hi⟩ := List.getElem?_of_mem z
          have il : i < os'.length := by rw [el]; exact (List.getElem?_eq_some_iff.mp hi).1
          have hi2 : (os'.map (unC π))[i]? = some (unC π os'[i]) := by rw [List.getElem?_map, List.getElem?_eq_getElem il]; rfl
          rw [setAll_in nd (fun j hj => by rw [← R1.pl]; exact hlt j hj) hi hi2] at hk
          cases hk
          have hqi : qs[i]? = some q := (q1 i k hi).trans hq
          exact .inr ⟨List.mem_of_getElem? hqi, un_cr q1 ql (List.all_eq_true.mp hlt' _ (List.getElem_mem il)) (e7 i _ q (List.getElem?_eq_getElem il) hqi)⟩
        · rw [setAll_out z] at hk
          refine .inl ⟨fun hm => z ?_, hk⟩
          obtain ⟨i, j, h1, h2⟩ := qm q hm
          have : j = k := Classical.byContradiction fun ne => nd_ne R1.nd h2 hq ne rfl
          rw [← this]
          exact List.mem_of_getElem? h1
      obtain ⟨a, s3, ps3, q3, R3, a3⟩ := aft_go R2 (fun p hn => ⟨fun hm => R1.ex p hm hn, none_of_same R1.e2 hn⟩) q hv
      exact k v H' a s3 Hd' ps3 q3 R3 a3
end
end Dw

/-! enumerate(a tuple) -/
namespace PySem
open Sem (wp)
open AutoSeq1 (wpAny_loadPart')
theorem enum_of_tup (l : Addr) (items : Array Value) (n : Nat) (dct : Option Addr) (sl : Array (Option Value)) : Meets (Builtin.«enumerate.__new__» ⟨[.type "enumerate", .ref l], []⟩) (fun _ R s =>
    s.heap.get? l = some { cls := .type "tuple", dict := dct, data := .seq items n, slots := sl } ∧ R (.ok (.ret (.ref (s.heap.push { cls := .type "tuple_iterator", data := .fields #[.ref l, .int 0 0] }).objs.size)))
      { s with heap := (s.heap.push { cls := .type "tuple_iterator", data := .fields #[.ref l, .int 0 0] }).push { cls := .type "enumerate", data := .fields #[.none, .bool false, .ref s.heap.objs.size, rawInt 0, .none, .none] } }) := by
  refine .of_wp fun prog w A R s h => ?_
  obtain ⟨hp, g, d, tk, os⟩ := s
  obtain ⟨hl, h⟩ := h
  have sb := sub_enumerate
  have hT : Heap.IsTuple (Shared.heap ⟨hp, g, d, tk, os⟩) l items := ⟨_, hl, rfl, n, rfl⟩
  wp_walk using wpAny_loadPart' hl
  refine wpAny_stack_any fun z => wpAny_pure ?_
  split
  · rename_i c _ _ _ _ _
    cases (c == Value.type "enumerate") <;> (wp_walk using wpAny_loadPart' hl, wpAny_pyIter_tuple hT) <;> exact ⟨_, rfl, h⟩
  · (wp_walk using wpAny_loadPart' hl, wpAny_pyIter_tuple hT) <;> exact ⟨_, rfl, h⟩
section
variable {prog : Program} {w : World} {A : Around} {E : Value → Shared → Prop} {s : Shared}
theorem call_enum_tup {l : Addr} {items : Array Value} {Q : Value → Shared → Prop} (hT : s.heap.IsTuple l items)
    (q : ∀ h', IsEnum h' (s.heap.objs.size + 1) s.heap.objs.size 0 .none → h'.IsTupleIter s.heap.objs.size l 0 → (∀ b o, s.heap.get? b = some o → h'.get? b = some o) → Q (.ref (s.heap.objs.size + 1)) { s with heap := h' }) : wpAny (model prog w) A (call (.type "enumerate") [.ref l]) Q E s := by
  obtain ⟨⟨c, dct, dt, sl⟩, hl, hc, n, hd⟩ := hT
  cases (show c = .type "tuple" from hc)
  cases (show dt = .seq items n from hd)
  have z1 : (s.heap.push { cls := .type "tuple_iterator", data := .fields #[.ref l, .int 0 0] }).objs.size = s.heap.objs.size + 1 := Heap.size_push ..
  refine callType_new F.called_enumerate (by decide) (F.typeCall_enumerate_1 _) (F.newCall_enumerate_1 _) (fun obj => F.args_object_init_2 obj _) F.entry_enumerate_new (enum_of_tup l items n dct sl) ⟨hl, ?_⟩
  have he := Heap.get?_push_size (s.heap.push { cls := .type "tuple_iterator", data := .fields #[.ref l, .int 0 0] }) (o := { cls := .type "enumerate", data := .fields #[.none, .bool false, .ref s.heap.objs.size, rawInt 0, .none, .none] }) rfl
  show _ ∧ _
  rw [z1] at he ⊢
  exact ⟨⟨_, he, rfl⟩, q _ he ⟨_, Heap.get?_push_of_some _ (Heap.get?_push_size _ rfl), rfl, rfl⟩ fun b o x => Heap.get?_push_of_some _ (Heap.get?_push_of_some _ x)⟩
end
end PySem
namespace Dw
open PySem PySem.Spec PyProof.Rows
open _root_.L2
/-- the tuple at a, item by item in new pairs -/
def IteT (K : PySem.W.Frag) (a : Addr) : It where
  go := fun i H => ∃ (xs : List V) (x : V), SqT K H a xs ∧ xs[i]? = some x
  yld := fun i H v H' => ∃ T x, v = .ref T ∧ H T = none ∧ H' = upd H T (.tup [.int (i : Nat), x]) ∧ ∀ xs, SqT K H a xs → xs[i]? = some x
  stop := fun i H => ∃ xs : List V, SqT K H a xs ∧ xs.length ≤ i
theorem turn_enT {P : Program} {w : World} {K : PySem.W.Frag} {elts : List Expr} {kk : Nat} {tpos : Pos} (a e it : Addr) :
    Turn P w K (.Tuple elts kk tpos) (IteT K a) [e, it] e (fun i h => (∃ old, IsEnum h e it ((i : Nat) : Int) old) ∧ h.IsTupleIter it a i ∧ e ≠ it ∧ a ≠ it ∧ a ≠ e) where
  mem := List.mem_cons_self
  obj := fun i h st b hb => by
    obtain ⟨⟨old, he⟩, ⟨o, ho, _, hd⟩, _⟩ := st
    rcases List.mem_cons.mp hb with z | z
    · subst z
      exact ⟨_, he, fun v q => nomatch q⟩
    · cases List.mem_singleton.mp z
      exact ⟨o, ho, fun v q => by rw [hd] at q; cases q⟩
  keep := fun i h h' ⟨⟨old, he⟩, hi, hn⟩ k => ⟨⟨old, k e (by simp) _ he⟩, hi.at fun o q => k it (by simp) o q, hn⟩
  item := by
    rintro X rfl rfl rfl hc i pins s σ H E I hf ⟨⟨old, he⟩, hit, hne, h1, h2⟩ ⟨xs, x, hq, hx⟩
    obtain ⟨its, rv, p, hz⟩ := I.tuple hq
    obtain ⟨u, hu, ru⟩ := rv.get hx
    have il : i < its.toArray.size := by
      have := (List.getElem?_eq_some_iff.mp hu).1
      simpa using this
    have D := Draws.tuple (prog := X.prog) (w := X.w) (A := X.A.in1) (I.ok.hd hc) it a h1 its.toArray
    refine wpAny_pyNext_enum_itemD D he ⟨hit, p⟩ il hne (by simp [hne, Ne.symm h2]) fun y h' tk py ho st' hT hsz hk => ⟨_, rfl, ?_⟩
    obtain rfl : u = y := by
      have : its[i]? = some y := by simpa using py
      rw [hu] at this
      exact Option.some.inj this
    refine wpAny_letOwnedTupleGo_enum (s := { s with heap := h', toks := tk + 1 }) ho fun h'' he' sb => ?_
    have hb : ∀ b o, b ∉ [e, it] → s.heap.get? b = some o → h''.get? b = some o := fun b o hb q => (sb.2 b fun z => hb (by simp [z])).trans (hk b o (fun z => hb (by simp [z])) (fun z => hb (by simp [z])) q)
    have hT2 := (sb.2 _ (Nat.ne_of_gt (Heap.lt_size he))).trans hT
    have I1 := I.turnedNew (t' := tk + 1) (ob := .tup [.int (i : Nat), x]) hb hf (Nat.le_refl _) ⟨by show 2 ≤ sizeLine; decide, [.int i tk, u], .cons ⟨_, rfl⟩ (.cons ru .nil), ⟨_, hT2, rfl, _, rfl⟩⟩
    refine ⟨.ref s.heap.objs.size, _, I1, rfl, ⟨_, x, rfl, I.hok.fresh (Nat.le_refl _), rfl, fun ys hy => by rw [I.tuple_inj hy hq]; exact hx⟩, ⟨⟨u, ?_⟩, st'.1.at fun o q => (sb.2 it (Ne.symm hne)).trans q, hne, h1, h2⟩, fun b hm => ?_⟩
    · rw [show ((i + 1 : Nat) : Int) = (i : Int) + 1 by omega]
      exact he'
    · have hl : b < s.heap.objs.size := by
        rcases List.mem_cons.mp hm with z | z
        · rw [z]; exact Heap.lt_size he
        · rw [List.mem_singleton.mp z]
          obtain ⟨_, q, _⟩ := hit
          exact Heap.lt_size q
      rw [upd_ne (Nat.ne_of_lt hl)]
      exact (hf b hm).1
  done := by
    rintro X rfl rfl rfl hc i pins s σ H E I hf ⟨⟨old, he⟩, hit, hne, h1, h2⟩ ⟨xs, hq, hx⟩
    obtain ⟨its, rv, p, hz⟩ := I.tuple hq
    obtain ⟨f0, f1, f2, f3, f4, f5⟩ := hf it (by simp)
    have hl := rv.length
    have D : Draws X.prog X.w X.A.in1 it [it, a] i (fun _ _ => True) (fun j h => j = i ∧ h.IsTupleIter it a i ∧ h.IsTuple a its.toArray) := by
      refine ⟨fun j h st => ?_, fun j h h' st k => ⟨st.1, st.2.1.at fun o q => k it (by simp) o q, st.2.2.at fun o q => k a (by simp) o q⟩, fun j s Q E hj st => absurd st.1 (by omega), fun s Q E st hE => wpAny_nextOf_tuple_end (I.ok.hd hc) st.2.1 st.2.2 (by simp; omega) hE⟩
      obtain ⟨o, ho, _⟩ := st.2.1
      exact ⟨o, ho⟩
    exact wpAny_pyNext_enum_endD D he ⟨rfl, hit, p⟩ fun h' eb => ⟨rfl, I.turned (t' := s.toks) (fun b o hb q => eb b o hb q) f0 f1 f3 f4 f5⟩
  self := fun A i s Q E st h => by
    obtain ⟨⟨_, he⟩, _⟩ := st
    exact wpAny_pyIter_enum he h
/-- enumerate of a list or of a tuple -/
def iEnumA (K : PySem.W.Frag) (ta : TA) : TI := fun σ H R => ta σ H fun vs H1 => ∃ a xs, vs = [.ref a] ∧ ((SqL K H1 a xs ∧ R (Ite K a) H1) ∨ (SqT K H1 a xs ∧ R (IteT K a) H1))
theorem pi_enumA {X : Cx} {e : Expr} {ta : TA} {p pos tpos : Pos} {elts : List Expr} {kk : Nat} (hg : Gl X "enumerate") (hm : X.mg "enumerate" = none) (ha : PA X [e] ta) (hs : starEach [e] X.env = [(false, eval e X.env)] := by rfl) :
    PI X (.Tuple elts kk tpos) (.Call (.Name "enumerate" p) [e] [] pos) (iEnumA X.K ta) := ⟨fun pins s σ H R I h => by
  refine Call_ (ld_blt I hg hm boot_enumerate (PyProof.Rows.callWith_type1 (thn (ha.run pos pins s σ H _ I h) fun us s1 ⟨vs, H1, I1, r1, a, xs, ex, q1⟩ => ?_) hs rfl))
  subst ex
  cases r1 with
  | cons r rr =>
  cases rr
  cases r
  have fr : ∀ b, b ∈ [s1.heap.objs.size + 1, s1.heap.objs.size] → FpOk X pins H1 b := fun b hb => by
    have hle : s1.heap.objs.size ≤ b := by
      rcases List.mem_cons.mp hb with z | z
      · omega
      · have := List.mem_singleton.mp z
        omega
    exact I1.fpOk hle (I1.hok.fresh hle)
  rcases q1 with ⟨hq, q⟩ | ⟨hq, q⟩
  · obtain ⟨its, rv, p', hz⟩ := I1.list hq
    exact call_enumerate_list p'.isList fun h' he hit hsz hk => wpAny_pyIter_enum he ⟨_, _, _, _, H1, rfl, I1.kept (t' := s1.toks) hk, turn_enum a (s1.heap.objs.size + 1) s1.heap.objs.size, ⟨⟨.none, he⟩, hit, Nat.succ_ne_self _⟩, fr, q⟩
  · obtain ⟨its, rv, p', hz⟩ := I1.tuple hq
    have la : a < s1.heap.objs.size := by
      obtain ⟨o, e, _⟩ := p'
      exact Heap.lt_size e
    exact call_enum_tup (show s1.heap.IsTuple a its.toArray from p') fun h' he hit hk => wpAny_pyIter_enum he ⟨_, _, _, _, H1, rfl, I1.kept (t' := s1.toks) hk, turn_enT a (s1.heap.objs.size + 1) s1.heap.objs.size, ⟨⟨.none, he⟩, hit, Nat.succ_ne_self _, Nat.ne_of_lt la, Nat.ne_of_lt (Nat.lt_succ_of_lt la)⟩, fr, q⟩⟩
end Dw

/-! zip of two sequences, a list or a tuple each, of one length -/
namespace Dw
open PySem PySem.Spec PyProof.Rows
open _root_.L2
def SqX (K : PySem.W.Frag) (H : Hp) (a : Addr) (xs : List V) : Bool → Prop
  | true => SqL K H a xs
  | false => SqT K H a xs
def ItX (h : Heap) (it a : Addr) (i : Nat) : Bool → Prop
  | true => h.IsListIter it a i
  | false => h.IsTupleIter it a i
def ObX (h : Heap) (a : Addr) (its : Array Value) : Bool → Prop
  | true => h.IsList a its
  | false => h.IsTuple a its
theorem itX_at {h h' : Heap} {it a : Addr} {i : Nat} : ∀ {t : Bool}, ItX h it a i t → (∀ o, h.get? it = some o → h'.get? it = some o) → ItX h' it a i t
  | true, x, k => x.at k
  | false, x, k => x.at k
theorem itX_there {h : Heap} {it a : Addr} {i : Nat} : ∀ {t : Bool}, ItX h it a i t → ∃ o, h.get? it = some o ∧ ∀ v, o.data ≠ .cell v
  | true, ⟨o, e, _, d⟩ => ⟨o, e, fun v q => by rw [d] at q; cases q⟩
  | false, ⟨o, e, _, d⟩ => ⟨o, e, fun v q => by rw [d] at q; cases q⟩
section
variable {X : Cx} {pins : List (Addr × Obj)} {σ : L2.St} {H : Hp} {s : Shared} {a it : Addr} {xs : List V}
theorem drX (I : Inv X pins σ H s) (hc : X.calm = true) (hne : a ≠ it) : ∀ {t : Bool}, SqX X.K H a xs t → ∃ its : List Value, Vals xs its ∧ ObX s.heap a its.toArray t ∧
    Draws X.prog X.w X.A.in1 it [it, a] its.length (fun i v => its[i]? = some v) (fun i h => ItX h it a i t ∧ ObX h a its.toArray t)
  | true, h => by
    obtain ⟨its, rv, p, _⟩ := I.list (show SqL X.K H a xs from h)
    have D := Draws.list (prog := X.prog) (w := X.w) (A := X.A.in1) (I.ok.hd hc) it a hne its.toArray
    exact ⟨its, rv, p.isList, by simpa [ItX, ObX] using D⟩
  | false, h => by
    obtain ⟨its, rv, p, _⟩ := I.tuple (show SqT X.K H a xs from h)
    have D := Draws.tuple (prog := X.prog) (w := X.w) (A := X.A.in1) (I.ok.hd hc) it a hne its.toArray
    exact ⟨its, rv, p, by simpa [ItX, ObX] using D⟩
theorem injX (I : Inv X pins σ H s) {ys : List V} : ∀ {t : Bool}, SqX X.K H a xs t → SqX X.K H a ys t → xs = ys
  | true, h, h' => I.list_inj h h'
  | false, h, h' => I.tuple_inj h h'
theorem ltX {h : Heap} {its : Array Value} : ∀ {t : Bool}, ObX h a its t → a < h.objs.size
  | true, ⟨_, e, _⟩ => Heap.lt_size e
  | false, ⟨_, e, _⟩ => Heap.lt_size e
end
def ItzX (K : PySem.W.Frag) (a b : Addr) (t u : Bool) : It where
  go := fun i H => ∃ (xs ys : List V) (x y : V), SqX K H a xs t ∧ SqX K H b ys u ∧ xs[i]? = some x ∧ ys[i]? = some y
  yld := fun i H v H' => ∃ T x y, v = .ref T ∧ H T = none ∧ H' = upd H T (.tup [x, y]) ∧ (∀ xs, SqX K H a xs t → xs[i]? = some x) ∧ ∀ ys, SqX K H b ys u → ys[i]? = some y
  stop := fun i H => ∃ xs ys : List V, SqX K H a xs t ∧ SqX K H b ys u ∧ xs.length = i ∧ ys.length = i
theorem turn_zipX {P : Program} {w : World} {K : PySem.W.Frag} {elts : List Expr} {kk : Nat} {tpos : Pos} {a b z TI TO i1 i2 : Addr} {t u : Bool} (D : ZipSep2 z TI TO i1 i2 [i1, a] [i2, b]) (ha : a ≠ i1) (hb : b ≠ i2) :
    Turn P w K (.Tuple elts kk tpos) (ItzX K a b t u) [z, TI, TO, i1, i2] z (fun i h => IsZip h z TI TO .none ∧ IsTupOf2 h TI (.ref i1) (.ref i2) ∧ (∃ x y, IsTupOf2 h TO x y) ∧ ItX h i1 a i t ∧ ItX h i2 b i u) where
  mem := List.mem_cons_self
  obj := fun i h ⟨hz, hTI, ⟨x, y, hTO⟩, h1, h2⟩ c hc => by
    have e' : c = z ∨ c = TI ∨ c = TO ∨ c = i1 ∨ c = i2 := by simpa using hc
    rcases e' with rfl | rfl | rfl | rfl | rfl
    · exact ⟨_, hz, fun v q => nomatch q⟩
    · exact ⟨_, hTI, fun v q => nomatch q⟩
    · exact ⟨_, hTO, fun v q => nomatch q⟩
    · exact itX_there h1
    · exact itX_there h2
  keep := fun i h h' ⟨hz, hTI, ⟨x, y, hTO⟩, h1, h2⟩ k => ⟨k z (by simp) _ hz, k TI (by simp) _ hTI, ⟨x, y, k TO (by simp) _ hTO⟩, itX_at h1 fun o q => k i1 (by simp) o q, itX_at h2 fun o q => k i2 (by simp) o q⟩
  item := by
    rintro X rfl rfl rfl hc i pins s σ H E I hf ⟨hz, hTI, ⟨x0, y0, hTO⟩, h1, h2⟩ ⟨xs, ys, x, y, hqx, hqy, hx, hy⟩
    obtain ⟨its, rv, p, D1⟩ := drX I hc ha hqx
    obtain ⟨its2, rv2, p2, D2⟩ := drX I hc hb hqy
    obtain ⟨v1, hv1, rv1⟩ := rv.get hx
    obtain ⟨v2, hv2, rv2'⟩ := rv2.get hy
    refine wpAny_pyNext_zipD2_item D D1 D2 hz hTI hTO ⟨h1, p⟩ ⟨h2, p2⟩ (List.getElem?_eq_some_iff.mp hv1).1 (List.getElem?_eq_some_iff.mp hv2).1 fun w1 w2 h' tk e1 e2 z' TO' s1' s2' hT hsz hk => ⟨_, rfl, ?_⟩
    obtain rfl : v1 = w1 := by rw [hv1] at e1; exact Option.some.inj e1
    obtain rfl : v2 = w2 := by rw [hv2] at e2; exact Option.some.inj e2
    refine wpAny_letOwnedTupleGo_zip (s := { s with heap := h', toks := tk }) z' fun h'' z'' sb => ?_
    have hold : ∀ c o, c ∉ [z, TI, TO, i1, i2] → s.heap.get? c = some o → h''.get? c = some o := fun c o hm q =>
      (sb.2 c fun e => hm (by simp [e])).trans (hk c o (fun e => hm (by simp [e])) (fun e => hm (by simp [e])) (fun e => hm (by simp [e])) (fun e => hm (by simp [e])) q)
    have hT2 := (sb.2 _ (Nat.ne_of_gt (Heap.lt_size hz))).trans hT
    have I1 := I.turnedNew (t' := tk) (ob := .tup [x, y]) hold hf (Nat.le_refl _) ⟨by show 2 ≤ sizeLine; decide, [v1, v2], .cons rv1 (.cons rv2' .nil), ⟨_, hT2, rfl, _, rfl⟩⟩
    refine ⟨.ref s.heap.objs.size, _, I1, rfl, ⟨_, x, y, rfl, I.hok.fresh (Nat.le_refl _), rfl, fun l hl => by rw [injX I hl hqx]; exact hx, fun l hl => by rw [injX I hl hqy]; exact hy⟩,
      ⟨z'', (sb.2 _ D.TIz).trans (hk _ _ D.TIz D.TITO D.TIi1 D.TIi2 hTI), ⟨v1, v2, (sb.2 _ D.TOz).trans TO'⟩, itX_at s1'.1 fun o q => (sb.2 _ (Ne.symm D.zi1)).trans q, itX_at s2'.1 fun o q => (sb.2 _ (Ne.symm D.zi2)).trans q⟩, fun c hcm => ?_⟩
    have lt : c < s.heap.objs.size := by
      have e' : c = z ∨ c = TI ∨ c = TO ∨ c = i1 ∨ c = i2 := by simpa using hcm
      rcases e' with rfl | rfl | rfl | rfl | rfl
      · exact Heap.lt_size hz
      · exact Heap.lt_size hTI
      · exact Heap.lt_size hTO
      · obtain ⟨_, e, _⟩ := itX_there h1
        exact Heap.lt_size e
      · obtain ⟨_, e, _⟩ := itX_there h2
        exact Heap.lt_size e
    rw [upd_ne (Nat.ne_of_lt lt)]
    exact (hf c hcm).1
  done := by
    rintro X rfl rfl rfl hc i pins s σ H E I hf ⟨hz, hTI, ⟨x0, y0, hTO⟩, h1, h2⟩ ⟨xs, ys, hqx, hqy, e1, e2⟩
    obtain ⟨its, rv, p, D1⟩ := drX I hc ha hqx
    obtain ⟨its2, rv2, p2, D2⟩ := drX I hc hb hqy
    have l1 := rv.length
    have l2 := rv2.length
    exact wpAny_pyNext_zipD2_end D D1 D2 hz hTI hTO ⟨h1, p⟩ ⟨h2, p2⟩ (by omega) (by omega) (.inl (by omega)) fun h' tk hk => ⟨rfl, I.turnedL (t' := tk) (ch := [z, TI, TO, i1, i2]) (fun c o hm q =>
      hk c o (fun e => hm (by simp [e])) (fun e => hm (by simp [e])) (fun e => hm (by simp [e])) (fun e => hm (by simp [e])) q) hf⟩
  self := fun A i s Q E st h => wpAny_pyIter_zip st.1 h
def obX (a : Addr) : Bool → Obj
  | true => { cls := .type "list_iterator", data := .fields #[.ref a, .int 0 0] }
  | false => { cls := .type "tuple_iterator", data := .fields #[.ref a, .int 0 0] }
theorem bgX {a : Addr} {its : Array Value} : ∀ {t : Bool}, Begins (.ref a) (obX a t) fun h => ObX h a its t
  | true => begins_list a its
  | false => begins_tuple a its
theorem itX_0 {h : Heap} {it a : Addr} : ∀ {t : Bool}, h.get? it = some (obX a t) → ItX h it a 0 t
  | true, e => ⟨_, e, rfl, rfl⟩
  | false, e => ⟨_, e, rfl, rfl⟩
/-- zip of two sequences -/
def iZipX (K : PySem.W.Frag) (ta : TA) : TI := fun σ H R => ta σ H fun vs H1 => ∃ a b xs ys t u, vs = [.ref a, .ref b] ∧ SqX K H1 a xs t ∧ SqX K H1 b ys u ∧ R (ItzX K a b t u) H1
theorem obX_of {X : Cx} {pins : List (Addr × Obj)} {σ : L2.St} {H : Hp} {s : Shared} {a : Addr} {xs : List V} (I : Inv X pins σ H s) : ∀ {t : Bool}, SqX X.K H a xs t → ∃ its : List Value, ObX s.heap a its.toArray t
  | true, h => by
    obtain ⟨its, rv, p, _⟩ := I.list (show SqL X.K H a xs from h)
    exact ⟨its, p.isList⟩
  | false, h => by
    obtain ⟨its, rv, p, _⟩ := I.tuple (show SqT X.K H a xs from h)
    exact ⟨its, p⟩
theorem nat_ne (n a : Nat) (l : a < n) : ∀ k, a ≠ n + k := fun k e => by omega
theorem sepX (n a b : Nat) (l1 : a < n) (l2 : b < n) : ZipSep2 (n + 4) (n + 2) (n + 3) n (n + 1) [n, a] [n + 1, b] := by
  have q : ∀ i j : Nat, i ≠ j → (n + i ≠ n + j) := fun i j h e => h (by omega)
  have z1 := nat_ne n a l1
  have z2 := nat_ne n b l2
  refine ⟨q 2 4 (by decide), q 3 4 (by decide), q 2 3 (by decide), q 2 0 (by decide), List.mem_cons_self, ?_, ?_, q 2 1 (by decide), List.mem_cons_self, ?_, ?_, ?_, ?_⟩
  all_goals
    intro h
    rcases List.mem_cons.mp h with e | h
    · first | exact q 4 0 (by decide) e | exact q 3 0 (by decide) e | exact q 4 1 (by decide) e | exact q 3 1 (by decide) e | exact q 0 1 (by decide) e | exact q 1 0 (by decide) e
    · have e := List.mem_singleton.mp h
      first | exact z1 _ e.symm | exact z2 _ e.symm | exact z1 0 e.symm | exact z2 0 e.symm
theorem pi_zipX {X : Cx} {e e2 : Expr} {ta : TA} {p pos tpos : Pos} {elts : List Expr} {kk : Nat} (hg : Gl X "zip") (hm : X.mg "zip" = none) (ha : PA X [e, e2] ta)
    (hs : starEach [e, e2] X.env = (false, eval e X.env) :: starEach [e2] X.env := by rfl) (hpl : (backTo pos (starEach [e2] X.env)).any (·.1) = false := by rfl) : PI X (.Tuple elts kk tpos) (.Call (.Name "zip" p) [e, e2] [] pos) (iZipX X.K ta) := ⟨fun pins s σ H R I h => by
  refine Call_ (ld_blt I hg hm PyProof.Rows.boot_zip (PyProof.Rows.callWith_type1 (thn (ha.run pos pins s σ H _ I h) fun us s1 ⟨vs, H1, I1, r1, a, b, xs, ys, t, u, ex, q1, q2, q⟩ => ?_) hs hpl))
  subst ex
  cases r1 with
  | cons r rr =>
  cases rr with
  | cons r' rr =>
  cases rr
  cases r
  cases r'
  obtain ⟨its, o1⟩ := obX_of I1 q1
  obtain ⟨its2, o2⟩ := obX_of I1 q2
  have l1 := ltX o1
  have l2 := ltX o2
  refine zip_begins2 bgX bgX o1 o2 fun h' hz hTI hTO g1 g2 hsz hk => wpAny_pyIter_zip hz ?_
  refine ⟨_, [s1.heap.objs.size + 4, s1.heap.objs.size + 2, s1.heap.objs.size + 3, s1.heap.objs.size, s1.heap.objs.size + 1], _, _, H1, rfl, I1.kept (t' := s1.toks) hk, turn_zipX (TI := s1.heap.objs.size + 2) (TO := s1.heap.objs.size + 3) (i1 := s1.heap.objs.size) (i2 := s1.heap.objs.size + 1) (t := t) (u := u) (sepX _ _ _ l1 l2) (Nat.ne_of_lt l1) (Nat.ne_of_lt (Nat.lt_succ_of_lt l2)),
    ⟨hz, hTI, ⟨_, _, hTO⟩, itX_0 g1, itX_0 g2⟩, fun c hc => ?_, q⟩
  have hle : s1.heap.objs.size ≤ c := by
    simp only [List.mem_cons, List.not_mem_nil, or_false] at hc
    rcases hc with rfl | rfl | rfl | rfl | rfl
    · exact Nat.le_add_right _ _
    · exact Nat.le_add_right _ _
    · exact Nat.le_add_right _ _
    · exact Nat.le_refl _
    · exact Nat.le_add_right _ _
  exact I1.fpOk hle (I1.hok.fresh hle)⟩
end Dw

/-! enumerate and zip over data -/
namespace Dw
open PySem
open _root_.L2
/-- a sequence to be read: an own list, data -/
def SeqA (a : A) (ds : List PyData) (Pc : List C → Prop) : Bool → Prop
  | true => a = .d (.list ds) ∨ ∃ n, a = .o n ∧ ∀ o, Pc o → o[n]? = some (.lst ds)
  | false => a = .d (.tuple ds)
section
variable {K : PySem.W.Frag} {b : B} {s s1 : S} {t ta : TA} {Ξ : List PyData → (List C → Prop) → S → Prop}
theorem seq_key {σ : L2.St} {H Hd : Hp} {tv : List V} {tl : List A} {ps : List Addr} {a : A} {ds : List PyData} {Pc : List C → Prop} {v : V} (R : Rp K b s σ H tv tl Hd ps) (ha : AR K Hd ps v a) (hp : Pc s.os) : ∀ {t : Bool}, SeqA a ds Pc t → ∃ p vs, v = .ref p ∧ SqX K H p vs t ∧ DrA K Hd vs ds
  | true, hc => by
    rcases hc with rfl | ⟨n, rfl, hn⟩
    · obtain ⟨p, vs, e, hv, hd⟩ := vw_lst R ha rfl
      exact ⟨p, vs, e, .inl (.inl hv), hd⟩
    · obtain ⟨p, vs, e, hv, hd⟩ := vw_lst R ha ⟨ds, hn _ hp, rfl⟩
      exact ⟨p, vs, e, .inl (.inl hv), hd⟩
  | false, hc => by
    cases hc
    cases (show Dr K Hd v (.tuple ds) from ha) with
    | tup h1 h2 => exact ⟨_, _, rfl, st_up R.e1 h1, h2⟩
theorem sqX_up {H H' : Hp} {p : Addr} {vs : List V} (e : Same H H') : ∀ {t : Bool}, SqX K H p vs t → SqX K H' p vs t
  | true, h => sl_up e h
  | false, h => st_up e h
theorem ei_enumA (h : EA K b t s fun as s1 => ∃ a ds Pc u, as = [a] ∧ SeqA a ds Pc u ∧ Pc s1.os ∧ Ξ (enumD ds) Pc s1) : EI K b (iEnumA K t) s Ξ := fun σ H tv tl Hd ps R Q k =>
  h σ H tv tl Hd ps R _ fun vs H1 as s1 Hd1 ps1 h1 R1 a1 => by
    obtain ⟨a, ds, Pc, u, rfl, hc, hp, q⟩ := h1
    cases a1 with
    | @cons v _ _ _ c1 c2 =>
    cases c2
    obtain ⟨p, ws, rfl, hw, hd⟩ := seq_key R1 c1 hp hc
    have key : ∀ b s σ H tv ta Hd ps, Rp K b s σ H (.ref p :: tv) (a :: ta) Hd ps → Pc s.os → ∃ vs, SqX K H p vs u ∧ DrA K Hd vs ds := fun b s σ H tv ta Hd ps R h => by
      obtain ⟨R, a2⟩ := R.pop
      obtain ⟨p', vs, e, h1, h2⟩ := seq_key R a2 h hc
      cases e
      exact ⟨vs, h1, h2⟩
    have turn : ∀ b s σ H tv ta Hd ps (i : Nat) x, Rp K b s σ H (.ref p :: tv) (a :: ta) Hd ps → Pc s.os → (enumD ds)[i]? = some x → ∃ ws w, SqX K H p ws u ∧ ws[i]? = some w ∧ ∀ T z H', H T = none → H' = upd H T (.tup [.int (i : Nat), z]) → ws[i]? = some z →
        ∃ Hd', Rp K b s σ H' (.ref p :: tv) (a :: ta) Hd' ps ∧ AR K Hd' ps (.ref T) (.d x) := fun b s σ H tv ta Hd ps i x R h hx => by
      obtain ⟨ws, hw, hb⟩ := key b s σ H tv ta Hd ps R h
      have hi : i < ds.length := by
        have := (List.getElem?_eq_some_iff.mp hx).1
        rw [enumD, List.length_mapIdx] at this
        exact this
      have hx' : x = .tuple [.int (i : Nat), ds[i]] := by
        rw [enumD, List.getElem?_mapIdx, List.getElem?_eq_getElem hi] at hx
        exact (Option.some.inj hx).symm
      obtain ⟨w, hw1, hw2⟩ := pair_get (da_paired hb) (show ds[i]? = some ds[i] from List.getElem?_eq_getElem hi)
      refine ⟨ws, w, hw, hw1, fun T z H' hT e hz => ?_⟩
      subst e
      obtain rfl : z = w := Option.some.inj (hz.symm.trans hw1)
      obtain ⟨R2, a2⟩ := R.newTup hT (vs := [.int (i : Nat), z]) (xs := [.int (i : Nat), ds[i]]) (.cons (Dr.int _) (.cons hw2 .nil))
      exact ⟨_, R2, by rw [hx']; exact a2⟩
    have len : ∀ b s σ H tv ta Hd ps, Rp K b s σ H (.ref p :: tv) (a :: ta) Hd ps → Pc s.os → ∃ ws, SqX K H p ws u ∧ ws.length ≤ (enumD ds).length := fun b s σ H tv ta Hd ps R h => by
      obtain ⟨ws, hw, hb⟩ := key b s σ H tv ta Hd ps R h
      exact ⟨ws, hw, by rw [pair_len (da_paired hb), enumD, List.length_mapIdx]; exact Nat.le_refl _⟩
    refine ⟨p, ws, rfl, ?_⟩
    cases u with
    | true =>
      refine .inl ⟨hw, k _ H1 _ Pc s1 Hd1 ps1 _ _ q (R1.push c1) ⟨fun b s σ H tv ta Hd ps i x R h hx => ?_, fun b s σ H tv ta Hd ps R h => len b s σ H tv ta Hd ps R h⟩⟩
      obtain ⟨ws, w, h1, h2, h3⟩ := turn b s σ H tv ta Hd ps i x R h hx
      refine ⟨⟨ws, w, h1, h2⟩, fun u H' hy => ?_⟩
      obtain ⟨T, z, rfl, hT, e, hz⟩ := hy
      exact h3 T z H' hT e (hz ws h1)
    | false =>
      refine .inr ⟨hw, k _ H1 _ Pc s1 Hd1 ps1 _ _ q (R1.push c1) ⟨fun b s σ H tv ta Hd ps i x R h hx => ?_, fun b s σ H tv ta Hd ps R h => len b s σ H tv ta Hd ps R h⟩⟩
      obtain ⟨ws, w, h1, h2, h3⟩ := turn b s σ H tv ta Hd ps i x R h hx
      refine ⟨⟨ws, w, h1, h2⟩, fun u H' hy => ?_⟩
      obtain ⟨T, z, rfl, hT, e, hz⟩ := hy
      exact h3 T z H' hT e (hz ws h1)
def zipD (ds es : List PyData) : List PyData := List.zipWith (fun x y => .tuple [x, y]) ds es
def SeqD (d : PyData) (ds : List PyData) : Bool → Prop
  | true => d = .list ds
  | false => d = .tuple ds
theorem seqD_key {H : Hp} {d : PyData} {ds : List PyData} {v : V} (h : Dr K H v d) : ∀ {t : Bool}, SeqD d ds t → ∃ p vs, v = .ref p ∧ SqX K H p vs t ∧ DrA K H vs ds
  | true, e => by
    cases e
    cases h with
    | lst h1 h2 => exact ⟨_, _, rfl, .inl (.inl h1), h2⟩
  | false, e => by
    cases e
    cases h with
    | tup h1 h2 => exact ⟨_, _, rfl, h1, h2⟩
theorem ei_zipX (h : EA K b t s fun as s1 => ∃ d e ds es u w, as = [.d d, .d e] ∧ SeqD d ds u ∧ SeqD e es w ∧ ds.length = es.length ∧ Ξ (zipD ds es) (fun _ => True) s1) : EI K b (iZipX K t) s Ξ := fun σ H tv tl Hd ps R Q k =>
  h σ H tv tl Hd ps R _ fun vs H1 as s1 Hd1 ps1 h1 R1 a1 => by
    obtain ⟨d, e, ds, es, u, w, rfl, hd, he, hl, q⟩ := h1
    cases a1 with
    | @cons v _ _ _ c1 c2 =>
    cases c2 with
    | @cons v2 _ _ _ c2 c3 =>
    cases c3
    obtain ⟨p, xs, rfl, q1, q2⟩ := seqD_key (show Dr K Hd1 v d from c1) hd
    obtain ⟨p2, ys, rfl, r1, r2⟩ := seqD_key (show Dr K Hd1 v2 e from c2) he
    refine ⟨p, p2, xs, ys, u, w, rfl, sqX_up R1.e1 q1, sqX_up R1.e1 r1, ?_⟩
    have f : AR K Hd1 ps1 .non (.p (fun H _ => (SqX K H p xs u ∧ DrA K H xs ds) ∧ SqX K H p2 ys w ∧ DrA K H ys es) fun _ _ _ e ⟨⟨a1, a2⟩, a3, a4⟩ => ⟨⟨sqX_up e a1, da_up e _ _ a2⟩, sqX_up e a3, da_up e _ _ a4⟩) := ⟨⟨q1, q2⟩, r1, r2⟩
    have lz : (zipD ds es).length = ds.length := by unfold zipD; rw [List.length_zipWith]; omega
    refine k _ H1 _ _ s1 Hd1 ps1 _ _ q (R1.push f) ⟨fun b s σ H tv ta Hd ps i x R _ hx => ?_, fun b s σ H tv ta Hd ps R _ => ?_⟩
    · obtain ⟨R', ⟨a1, a2⟩, a3, a4⟩ := R.pop
      have hi : i < ds.length := by rw [← lz]; exact (List.getElem?_eq_some_iff.mp hx).1
      have hx' : x = .tuple [ds[i], es[i]] := by
        unfold zipD at hx
        rw [List.getElem?_zipWith, List.getElem?_eq_getElem hi, List.getElem?_eq_getElem (by omega)] at hx
        exact (Option.some.inj hx).symm
      obtain ⟨z1, y1, y2⟩ := pair_get (da_paired a2) (show ds[i]? = some ds[i] from List.getElem?_eq_getElem hi)
      obtain ⟨z2, y3, y4⟩ := pair_get (da_paired a4) (show es[i]? = some es[i] from List.getElem?_eq_getElem (by omega))
      refine ⟨⟨xs, ys, z1, z2, sqX_up R.e1 a1, sqX_up R.e1 a3, y1, y3⟩, fun v H' hy => ?_⟩
      obtain ⟨T, x1, x2, rfl, hT, rfl, e1, e2⟩ := hy
      obtain rfl : x1 = z1 := Option.some.inj ((e1 _ (sqX_up R.e1 a1)).symm.trans y1)
      obtain rfl : x2 = z2 := Option.some.inj ((e2 _ (sqX_up R.e1 a3)).symm.trans y3)
      obtain ⟨R2, g⟩ := R.newTup hT (vs := [x1, x2]) (xs := [ds[i], es[i]]) (.cons y2 (.cons y4 .nil))
      exact ⟨_, R2, by rw [hx']; exact g⟩
    · obtain ⟨R', ⟨a1, a2⟩, a3, a4⟩ := R.pop
      exact ⟨xs, ys, sqX_up R.e1 a1, sqX_up R.e1 a3, by rw [lz]; exact pair_len (da_paired a2), by rw [lz, hl]; exact pair_len (da_paired a4)⟩
end
end Dw

/-! in, not in; str(n); text * n -/
namespace Dw
open PySem PySem.Spec PyProof.Rows
open _root_.L2
def rSgn (neg : Bool) : R2 := fun x y H Q => ∃ (c : Nat) (z : Str), x = .str ⟨#[c]⟩ ∧ y = .str z ∧ Q (.bl (if neg then !decide (c ∈ z.cps.toList) else decide (c ∈ z.cps.toList))) H
def rInA (K : PySem.W.Frag) (neg : Bool) : R2 := fun x y H Q => rIn K neg x y H Q ∨ rSgn neg x y H Q
section
variable {X : Cx}
theorem op_inA : OpR X (compareOp .In) (rInA X.K false) := op_in_seq.or op_in_sign
theorem op_niA : OpR X (compareOp .NotIn) (rInA X.K true) := op_notIn_seq.or op_notIn_sign
theorem op_inAK {K : PySem.W.Frag} (h : X.K = K) : OpR X (compareOp .In) (rInA K false) := by subst h; exact op_inA
theorem op_niAK {K : PySem.W.Frag} (h : X.K = K) : OpR X (compareOp .NotIn) (rInA K true) := by subst h; exact op_niA
end
section
variable {K : PySem.W.Frag} {b : B} {s : S} {x y : A} {Φ : A → S → Prop} {neg : Bool}
theorem da_strsV {H : Hp} : ∀ {ns : List Str} {vs : List V}, DrA K H vs (ns.map PyData.str) → vs = ns.map V.str
  | [], _, h => by cases h; rfl
  | n :: ns, _, h => by
    cases h with
    | cons h t =>
      cases h
      rw [da_strsV t]
      rfl
theorem inV_strs {z : Str} (ns : List Str) : inV (.str z) (ns.map V.str) = decide (z ∈ ns) := by
  unfold inV
  rw [List.any_map, Bool.eq_iff_iff, List.any_eq_true, decide_eq_true_iff]
  constructor
  · rintro ⟨n, hn, e⟩
    rw [← (show n = z from beq_iff_eq.mp e)]
    exact hn
  · exact fun h => ⟨z, h, beq_iff_eq.mpr rfl⟩
theorem inV_ints {z : Int} (ns : List Int) : inV (.int z) (ns.map V.int) = decide (z ∈ ns) := by
  unfold inV
  rw [List.any_map, Bool.eq_iff_iff, List.any_eq_true, decide_eq_true_iff]
  constructor
  · rintro ⟨n, hn, e⟩
    rw [← (show n = z from beq_iff_eq.mp e)]
    exact hn
  · exact fun h => ⟨z, h, beq_iff_eq.mpr rfl⟩
/-- what is read as a sequence of data -/
def Sq1 (s : S) (y : A) (ds : List PyData) : Prop := Vw s y (.list ds) ∨ y = .d (.tuple ds)
theorem sq1_key {σ : L2.St} {H Hd : Hp} {tv : List V} {tl : List A} {ps : List Addr} {v : V} {ds : List PyData} (R : Rp K b s σ H tv tl Hd ps) (a : AR K Hd ps v y) (h : Sq1 s y ds) : ∃ p vs, v = .ref p ∧ (SqL K H p vs ∨ SqT K H p vs) ∧ DrA K Hd vs ds := by
  rcases h with h | rfl
  · obtain ⟨p, vs, e, hv, hd⟩ := vw_lst R a h
    exact ⟨p, vs, e, .inl (.inl (.inl hv)), hd⟩
  · cases (show Dr K Hd v (.tuple ds) from a) with
    | tup h1 h2 => exact ⟨_, _, rfl, .inr (st_up R.e1 h1), h2⟩
theorem v2_inS {z : Str} {ns : List Str} (h : Sq1 s y (ns.map .str)) (q : Φ (.d (.bool (if neg then !decide (z ∈ ns) else decide (z ∈ ns)))) s) : V2 K b (rInA K neg) (.d (.str z)) y s Φ := fun σ H tv tl Hd ps v w R a1 a2 Q k => by
  cases a1
  obtain ⟨p, vs, rfl, hv, hd⟩ := sq1_key R a2 h
  have e := da_strsV hd
  subst e
  refine .inl ⟨p, _, rfl, hv, rfl, ?_, ?_⟩
  · rw [List.all_map]
    exact List.all_eq_true.mpr fun _ _ => rfl
  · rw [inV_strs]
    exact k _ H _ s Hd ps q R (.bl _)
theorem v2_inI {z : Int} {ns : List Int} (h : Sq1 s y (ns.map .int)) (q : Φ (.d (.bool (if neg then !decide (z ∈ ns) else decide (z ∈ ns)))) s) : V2 K b (rInA K neg) (.d (.int z)) y s Φ := fun σ H tv tl Hd ps v w R a1 a2 Q k => by
  cases a1
  obtain ⟨p, vs, rfl, hv, hd⟩ := sq1_key R a2 h
  have e := da_intsV hd
  subst e
  refine .inl ⟨p, _, rfl, hv, rfl, ?_, ?_⟩
  · rw [List.all_map]
    exact List.all_eq_true.mpr fun _ _ => rfl
  · rw [inV_ints]
    exact k _ H _ s Hd ps q R (.bl _)
theorem v2_inC {c : Nat} {z : Str} (q : Φ (.d (.bool (if neg then !decide (c ∈ z.cps.toList) else decide (c ∈ z.cps.toList)))) s) : V2 K b (rInA K neg) (.d (.str ⟨#[c]⟩)) (.d (.str z)) s Φ := fun σ H tv tl Hd ps v w R a1 a2 Q k => by
  cases a1
  cases a2
  exact .inr ⟨c, z, rfl, rfl, k _ H _ s Hd ps q R (.bl _)⟩
theorem vc_strI {i : Int} (h : i.natAbs.log2 < 1920) (q : Φ (.d (.str (toString i))) s) : VC K b (fun xs H Q => ∃ i, xs = [.int i] ∧ i.natAbs.log2 < 1920 ∧ Q (.str (toString i)) H) [.d (.int i)] s Φ := fun σ H tv tl Hd ps vs R a Q k => by
  cases a with
  | @cons v _ _ _ a1 t =>
    cases t
    cases a1
    exact ⟨i, rfl, h, k _ H _ s Hd ps q R (.str _)⟩
theorem v2_ltS {i j : Str} (q : Φ (.d (.bool (decide (i.cps.toList < j.cps.toList)))) s) : V2 K b rLtA (.d (.str i)) (.d (.str j)) s Φ := fun σ H tv tl Hd ps v w R a1 a2 Q k => by
  cases a1; cases a2
  exact .inr ⟨i, j, rfl, rfl, k _ H _ s Hd ps q R (.bl _)⟩
theorem v2_leS {i j : Str} (q : Φ (.d (.bool (!decide (j.cps.toList < i.cps.toList)))) s) : V2 K b rLeA (.d (.str i)) (.d (.str j)) s Φ := fun σ H tv tl Hd ps v w R a1 a2 Q k => by
  cases a1; cases a2
  exact .inr ⟨i, j, rfl, rfl, k _ H _ s Hd ps q R (.bl _)⟩
/-- a constant of a class -/
theorem ev_cval {te : TE} {f : Str} {C : Addr} {mc : Value} {v : V} {u : Value} {d : PyData} (c : ClX.CRead K C mc) (cv : ClX.CVal K C mc f v u) (hd : ∀ H, Dr K H v d) (h : te = tC (.ref C)) (q : Φ (.d d) s) : EV K b (ClX.tCVal K te f) s Φ := fun σ H tv tl Hd ps R Q k => by
  subst h
  exact ⟨C, mc, v, u, rfl, c, cv, k _ H _ s Hd ps q R (hd Hd)⟩
def rTupA (K : PySem.W.Frag) : List V → Hp → VK → Prop := fun xs H Q => ∃ p ys, xs = [.ref p] ∧ ((SqL K H p ys ∧ ∀ l, H l = none → Q (.ref l) (upd H l (.tup ys))) ∨ (SqT K H p ys ∧ Q (.ref p) H))
theorem call_tupA {X : Cx} (h : X.K = K) : CallR X (.type "tuple") (rTupA K) := by subst h; exact call_tuple_of
theorem vc_tupL {ds : List PyData} (h : Vw s x (.list ds)) (q : Φ (.d (.tuple ds)) s) : VC K b (rTupA K) [x] s Φ := fun σ H tv tl Hd ps vs R a Q k => by
  cases a with
  | @cons v _ _ _ a1 t =>
    cases t
    obtain ⟨p, ws, rfl, hv, hd⟩ := vw_lst R a1 h
    refine ⟨p, ws, rfl, .inl ⟨.inl (.inl hv), fun l hl => ?_⟩⟩
    obtain ⟨R2, a2⟩ := R.newTup hl (ars_of_da (ps := ps) hd)
    exact k _ _ _ _ _ _ q R2 a2
theorem vc_tupT {ds : List PyData} (q : Φ (.d (.tuple ds)) s) : VC K b (rTupA K) [.d (.tuple ds)] s Φ := fun σ H tv tl Hd ps vs R a Q k => by
  cases a with
  | @cons v _ _ _ a1 t =>
    cases t
    cases (show Dr K Hd v (.tuple ds) from a1) with
    | tup h1 h2 => exact ⟨_, _, rfl, .inr ⟨st_up R.e1 h1, k _ _ _ _ _ _ q R (Dr.tup h1 h2)⟩⟩
end
end Dw

/-! dict comprehensions, list comprehensions of own things, nested own lists become data -/
namespace Dw
open PySem
open _root_.L2
section
variable {K : PySem.W.Frag} {b : B} {s s1 : S} {te ta tb tc : TE} {tt tu : TT} {t : TA} {x y : A} {Φ Ψ : A → S → Prop} {N : EE} {f : Spc} {g : TG}
theorem ev_dc {wi : TI} {tk : TE} {vs : List Nat} (htg : Tg vs g) (hmg : Mg g) (h : EI K b wi s fun ds Pc s1 => ∃ I : Nat → List (Key × PyData) → S → Prop, I 0 [] ((s1.add (.dK [])).wp vs) ∧
      (∀ i acc s2, i ≤ ds.length → I i acc s2 → Pc s2.os ∧ s2.os[s1.os.length]? = some (.dK acc)) ∧
      (∀ i x acc s2, ds[i]? = some x → I i acc s2 → GT K b g (.d x) (s2.wp vs) fun s3 => ET K b tt s3 fun k s4 =>
        (k = true → EV K b tk s4 fun y s5 => EV K b te s5 fun z s6 => ∃ key d, y = .d (keyD key) ∧ z = .d d ∧ s6.os[s1.os.length]? = some (.dK acc) ∧ acc.length < sizeLine ∧ I (i + 1) (putD acc key d) ((s6.put s1.os.length (.dK (putD acc key d))).wp vs)) ∧
        (k = false → I (i + 1) acc (s4.wp vs))) ∧
      ∀ acc s2, I ds.length acc s2 → Φ (.o s1.os.length) s2) : EV K b (tDc wi g tt tk te vs) s Φ := fun σ H tv tl Hd ps R Q k =>
  h σ H tv tl Hd ps R _ fun J H1 ds Pc s1 Hd1 ps1 tx' ax h1 R1 jk => by
    obtain ⟨I, h0, hp, hs, hd⟩ := h1
    intro D hD
    obtain ⟨R2, a2⟩ := R1.new (c := .dK []) (o := .dK []) hD ⟨none_of_same R1.e1 hD, [], upd_same, .nil⟩
    have R2' : Rp K b ((s1.add (.dK [])).wp vs) σ _ _ _ Hd1 _ := R2.unwipe rfl
    have a2' : AR K Hd1 (ps1 ++ [D]) (.ref D) (.o s1.os.length) := a2
    refine ⟨fun i m H => m = ds.length - i ∧ i ≤ ds.length ∧ ∃ acc s2 Hd2 ps2, I i acc s2 ∧ Rp K b s2 σ H (tx' :: .ref D :: tv) (ax :: .o s1.os.length :: tl) Hd2 ps2, ⟨ds.length, by simp, Nat.zero_le _, [], _, Hd1, _, h0, (R2'.pop.1.push a2').push R2'.pop.2⟩, fun i m H hW => ?_⟩
    obtain ⟨rfl, hi, acc, s2, Hd2, ps2, q, R3⟩ := hW
    obtain ⟨hPc, hOs⟩ := hp i acc s2 hi q
    by_cases hlt : i < ds.length
    · have hx : ds[i]? = some ds[i] := List.getElem?_eq_getElem hlt
      have g1 := (jk.go b s2 σ H _ _ Hd2 ps2 i _ R3 hPc hx).1
      have g2 := (jk.go b (s2.wp vs) (L2.wipe σ vs) H _ _ Hd2 ps2 i _ (R3.wipe vs) hPc hx).2
      refine .inr ⟨g1, fun H => ∃ acc s2 Hd2 ps2, I (i + 1) acc s2 ∧ Rp K b s2 σ H (tx' :: .ref D :: tv) (ax :: .o s1.os.length :: tl) Hd2 ps2, fun H' q' => ⟨ds.length - (i + 1), by omega, rfl, hlt, q'⟩, fun v H' hy => ?_⟩
      obtain ⟨Hd3, R5, a5⟩ := g2 v H' hy
      refine hmg _ _ _ _ _ (fun σ2 H2 q => ⟨(wipe_eq q.2.1 q.2.2).trans (wipe_eq (wipe_length _ _) fun i hi => wipe_out hi), q.1 ((wipe_eq q.2.1 q.2.2).trans (wipe_eq (wipe_length _ _) fun i hi => wipe_out hi))⟩)
        (htg v (L2.wipe σ vs) H' (fun σ2 H2 => L2.wipe σ2 vs = L2.wipe σ vs → tt σ2 H2 fun b H3 => if b = true then tk σ2 H3 fun y H4 => te σ2 H4 fun z H5 => ∃ kvs key, y = kV key ∧ H5 D = some (.dK kvs) ∧ kvs.length < sizeLine ∧
          ∃ acc' s2 Hd2 ps2, I (i + 1) acc' s2 ∧ Rp K _ s2 σ (upd H5 D (.dK (putK kvs key z))) (tx' :: .ref D :: tv) (ax :: .o s1.os.length :: tl) Hd2 ps2 else ∃ acc s2 Hd2 ps2, I (i + 1) acc s2 ∧ Rp K _ s2 σ H3 (tx' :: .ref D :: tv) (ax :: .o s1.os.length :: tl) Hd2 ps2)
          (hs i _ acc s2 hx q (L2.wipe σ vs) H' _ _ Hd3 ps2 v R5 a5 _ fun σ2 H2 s3 Hd4 ps4 g R6 he => ?_))
      refine g σ2 H2 _ _ Hd4 ps4 R6 _ fun kk H3 s4 Hd5 ps5 g R7 => ?_
      cases kk with
      | false => exact ⟨acc, _, Hd5, ps5, g.2 rfl, R7.unwipe he⟩
      | true =>
        refine g.1 rfl σ2 H3 _ _ Hd5 ps5 R7 _ fun y H4 a s5 Hd6 ps6 g R8 a8 => ?_
        refine g σ2 H4 _ _ Hd6 ps6 (R8.push a8) _ fun z H5 c s6 Hd7 ps7 g R9 a9 => ?_
        obtain ⟨key, d, rfl, rfl, ho, hl, hI⟩ := g
        obtain ⟨R10, a10⟩ := R9.pop
        obtain ⟨p, hpp, e⟩ := R10.pop.1.pop.2
        cases e
        obtain ⟨hn, ws, hw, ha⟩ := R10.cl _ _ D ho hpp
        refine ⟨ws, key, keyD_V a10, hw, by rw [pair_len ha]; exact hl, putD acc key d, _, Hd7, ps7, hI, ?_⟩
        exact (R10.put (c := .dK (putD acc key d)) ho hpp (fun z => nomatch z) ⟨hn, _, upd_same, kv_put a9 ha⟩).unwipe he
    · have e : i = ds.length := by omega
      subst e
      exact .inl ⟨jk.stop b s2 σ H _ _ Hd2 ps2 R3 hPc, k _ _ _ _ _ _ (hd acc s2 q) R3.pop.1.pop.1 R3.pop.1.pop.2⟩
/-- a comprehension of own things -/
theorem ev_lcA {wi : TI} {vs : List Nat} (htg : Tg vs g) (hmg : Mg g) (h : EI K b wi s fun ds Pc s1 => ∃ I : Nat → List A → S → Prop, I 0 [] ((s1.add (.la [])).wp vs) ∧
      (∀ i acc s2, i ≤ ds.length → I i acc s2 → Pc s2.os ∧ s2.os[s1.os.length]? = some (.la acc)) ∧
      (∀ i x acc s2, ds[i]? = some x → I i acc s2 → GT K b g (.d x) (s2.wp vs) fun s3 => ET K b tt s3 fun k s4 =>
        (k = true → EV K b te s4 fun y s5 => s5.os[s1.os.length]? = some (.la acc) ∧ acc.length < sizeLine ∧ I (i + 1) (acc ++ [y]) ((s5.put s1.os.length (.la (acc ++ [y]))).wp vs)) ∧
        (k = false → I (i + 1) acc (s4.wp vs))) ∧
      ∀ acc s2, I ds.length acc s2 → Φ (.o s1.os.length) s2) : EV K b (tLc wi g tt te vs) s Φ := fun σ H tv tl Hd ps R Q k =>
  h σ H tv tl Hd ps R _ fun J H1 ds Pc s1 Hd1 ps1 tx' ax h1 R1 jk => by
    obtain ⟨I, h0, hp, hs, hd⟩ := h1
    intro D hD
    obtain ⟨R2, a2⟩ := R1.new (c := .la []) (o := .lst []) hD ⟨none_of_same R1.e1 hD, [], upd_same, .nil⟩
    have R2' : Rp K b ((s1.add (.la [])).wp vs) σ _ _ _ Hd1 _ := R2.unwipe rfl
    have a2' : AR K Hd1 (ps1 ++ [D]) (.ref D) (.o s1.os.length) := a2
    refine ⟨fun i m H => m = ds.length - i ∧ i ≤ ds.length ∧ ∃ acc s2 Hd2 ps2, I i acc s2 ∧ Rp K b s2 σ H (tx' :: .ref D :: tv) (ax :: .o s1.os.length :: tl) Hd2 ps2, ⟨ds.length, by simp, Nat.zero_le _, [], _, Hd1, _, h0, (R2'.pop.1.push a2').push R2'.pop.2⟩, fun i m H hW => ?_⟩
    obtain ⟨rfl, hi, acc, s2, Hd2, ps2, q, R3⟩ := hW
    obtain ⟨hPc, hOs⟩ := hp i acc s2 hi q
    by_cases hlt : i < ds.length
    · have hx : ds[i]? = some ds[i] := List.getElem?_eq_getElem hlt
      have g1 := (jk.go b s2 σ H _ _ Hd2 ps2 i _ R3 hPc hx).1
      have g2 := (jk.go b (s2.wp vs) (L2.wipe σ vs) H _ _ Hd2 ps2 i _ (R3.wipe vs) hPc hx).2
      refine .inr ⟨g1, fun H => ∃ acc s2 Hd2 ps2, I (i + 1) acc s2 ∧ Rp K b s2 σ H (tx' :: .ref D :: tv) (ax :: .o s1.os.length :: tl) Hd2 ps2, fun H' q' => ⟨ds.length - (i + 1), by omega, rfl, hlt, q'⟩, fun v H' hy => ?_⟩
      obtain ⟨Hd3, R5, a5⟩ := g2 v H' hy
      refine hmg _ _ _ _ _ (fun σ2 H2 q => ⟨(wipe_eq q.2.1 q.2.2).trans (wipe_eq (wipe_length _ _) fun i hi => wipe_out hi), q.1 ((wipe_eq q.2.1 q.2.2).trans (wipe_eq (wipe_length _ _) fun i hi => wipe_out hi))⟩)
        (htg v (L2.wipe σ vs) H' (fun σ2 H2 => L2.wipe σ2 vs = L2.wipe σ vs → tt σ2 H2 fun b H3 => if b = true then te σ2 H3 fun y H4 => ∃ acc, H4 D = some (.lst acc) ∧ acc.length < sizeLine ∧
          ∃ acc' s2 Hd2 ps2, I (i + 1) acc' s2 ∧ Rp K _ s2 σ (upd H4 D (.lst (acc ++ [y]))) (tx' :: .ref D :: tv) (ax :: .o s1.os.length :: tl) Hd2 ps2 else ∃ acc s2 Hd2 ps2, I (i + 1) acc s2 ∧ Rp K _ s2 σ H3 (tx' :: .ref D :: tv) (ax :: .o s1.os.length :: tl) Hd2 ps2)
          (hs i _ acc s2 hx q (L2.wipe σ vs) H' _ _ Hd3 ps2 v R5 a5 _ fun σ2 H2 s3 Hd4 ps4 g R6 he => ?_))
      refine g σ2 H2 _ _ Hd4 ps4 R6 _ fun kk H3 s4 Hd5 ps5 g R7 => ?_
      cases kk with
      | false => exact ⟨acc, _, Hd5, ps5, g.2 rfl, R7.unwipe he⟩
      | true =>
        refine g.1 rfl σ2 H3 _ _ Hd5 ps5 R7 _ fun y H4 a s5 Hd6 ps6 g R8 a8 => ?_
        obtain ⟨ho, hl, hI⟩ := g
        obtain ⟨p, hpp, e⟩ := R8.pop.1.pop.2
        cases e
        obtain ⟨hn, ws, hw, ha⟩ := R8.cl _ _ D ho hpp
        refine ⟨ws, hw, by rw [pair_len ha]; exact hl, acc ++ [a], _, Hd6, ps6, hI, ?_⟩
        exact (R8.put (c := .la (acc ++ [a])) ho hpp (fun z => nomatch z) ⟨hn, _, upd_same, pair_app ha (.cons a8 .nil)⟩).unwipe he
    · have e : i = ds.length := by omega
      subst e
      exact .inl ⟨jk.stop b s2 σ H _ _ Hd2 ps2 R3 hPc, k _ _ _ _ _ _ (hd acc s2 q) R3.pop.1.pop.1 R3.pop.1.pop.2⟩
/-! ### nested own lists become data -/
theorem frIs_d {k : Nat} {x : PyData} : ∀ {ds : List PyData}, frIs k x (ds.map A.d) = ds.map A.d
  | [] => rfl
  | d :: ds => congrArg (A.d d :: ·) frIs_d
theorem frIs_o {k : Nat} {x : PyData} : ∀ {js : List Nat}, k ∉ js → frIs k x (js.map A.o) = js.map A.o
  | [], _ => rfl
  | j :: js, h => by
    show frI k x (.o j) :: frIs k x (js.map A.o) = .o j :: js.map A.o
    have hne : ¬ j = k := fun e => h (by rw [e]; exact List.mem_cons_self)
    rw [frIs_o (fun z => h (List.mem_cons_of_mem _ z)), show frI k x (.o j) = .o j from if_neg hne]
theorem frIs_app {k : Nat} {x : PyData} : ∀ {as cs : List A}, frIs k x (as ++ cs) = frIs k x as ++ frIs k x cs
  | [], _ => rfl
  | a :: as, cs => congrArg (frI k x a :: ·) frIs_app
/-- all of js, each an own list of data, become data in the own list n -/
theorem frz_all {σ : L2.St} {H : Hp} {tv : List V} {ps : List Addr} {n : Nat} {v : V} : ∀ {js : List Nat} {xss : List (List PyData)} {done : List PyData} {s : S} {ta : List A} {Hd : Hp}, Rp K b s σ H tv ta Hd ps → js.length = xss.length → js.Nodup → n ∉ js → s.os[n]? = some (.la (done.map A.d ++ js.map A.o)) →
    (∀ (i : Nat) j xs, js[i]? = some j → xss[i]? = some xs → s.os[j]? = some (.lst xs)) → AR K Hd ps v (.o n) → ∃ s' Hd', Same Hd Hd' ∧ s'.os[n]? = some (.la ((done ++ xss.map PyData.list).map A.d)) ∧ Rp K b s' σ H tv ta Hd' ps ∧ AR K Hd' ps v (.o n)
  | [], [], done, s, ta, Hd, R, _, _, _, hn, _, hv => ⟨s, Hd, Same.refl _, by simpa using hn, R, hv⟩
  | [], _ :: _, _, _, _, _, _, hl, _, _, _, _, _ => nomatch hl
  | _ :: _, [], _, _, _, _, _, hl, _, _, _, _, _ => nomatch hl
  | j :: js, xs :: xss, done, s, ta, Hd, R, hl, nd, hn, ho, hj, hv => by
    obtain ⟨nj, nd⟩ := List.nodup_cons.mp nd
    have hnj : n ≠ j := fun e => hn (by rw [e]; exact List.mem_cons_self)
    obtain ⟨Hd1, e1, R1, _⟩ := R.frz (hj 0 j xs rfl rfl)
    have o1 : (s.frz j xs).os[n]? = some (.la ((done ++ [PyData.list xs]).map A.d ++ js.map A.o)) := by
      rw [show (s.frz j xs).os = (s.os.set j .dead).map (frC j (.list xs)) from rfl, List.getElem?_map, List.getElem?_set_ne (Ne.symm hnj), ho]
      show some (C.la (frIs j (PyData.list xs) (done.map A.d ++ (A.o j :: js.map A.o)))) = _
      rw [frIs_app, frIs_d, show frIs j (PyData.list xs) (A.o j :: js.map A.o) = A.d (PyData.list xs) :: js.map A.o by
        show frI j (PyData.list xs) (A.o j) :: frIs j (PyData.list xs) (js.map A.o) = _
        rw [frIs_o nj, show frI j (PyData.list xs) (A.o j) = A.d (PyData.list xs) from if_pos rfl]]
      simp
    obtain ⟨s', Hd', e2, q, R2, h2⟩ := frz_all (js := js) (xss := xss) (done := done ++ [PyData.list xs]) R1 (by simpa using hl) nd (fun z => hn (List.mem_cons_of_mem _ z)) o1
      (fun i j' ys h1 h2 => by
        have hne : j' ≠ j := fun e => nj (by rw [← e]; exact List.mem_of_getElem? h1)
        rw [show (s.frz j xs).os = (s.os.set j .dead).map (frC j (.list xs)) from rfl, List.getElem?_map, List.getElem?_set_ne (Ne.symm hne), hj (i + 1) j' ys h1 h2]
        rfl) hv
    refine ⟨s', Hd', e1.trans e2, ?_, R2, h2⟩
    rw [q, List.append_assoc]
    rfl
/-- nothing is known of the cells and slots any more -/
def S.bare (s : S) : S := ⟨s.ss.map fun _ => none, s.os.map fun _ => .dead⟩
theorem rp_bare {σ : L2.St} {H Hd : Hp} {tv tv' : List V} {ta ta' : List A} {ps : List Addr} (R : Rp K b s σ H tv ta Hd ps) (s' : S) (l1 : s'.ss.length = s.ss.length) (l2 : s'.os.length = s.os.length) (h : Paired (AR K Hd ps) tv' ta') : Rp K b s'.bare σ H tv' ta' Hd ps where
  e0 := R.e0
  e1 := R.e1
  e2 := R.e2
  nw := R.nw
  pl := by rw [R.pl]; show _ = (s'.os.map _).length; rw [List.length_map, l2]
  nd := R.nd
  p0 := R.p0
  fr := R.fr
  ex := R.ex
  cl := fun k cc p hk _ => by
    rw [show s'.bare.os = s'.os.map fun _ => .dead from rfl, List.getElem?_map] at hk
    cases e : s'.os[k]? with
    | none => rw [e] at hk; cases hk
    | some c => rw [e] at hk; cases hk; exact trivial
  sl := fun i a hi => by
    rw [show s'.bare.ss = s'.ss.map fun _ => none from rfl, List.getElem?_map] at hi
    cases e : s'.ss[i]? with
    | none => rw [e] at hi; cases hi
    | some c => rw [e] at hi; cases hi
  ln := by rw [R.ln]; show _ = (s'.ss.map _).length; rw [List.length_map, l1]
  tm := h
theorem rp_lst {σ : L2.St} {H Hd : Hp} {tv : List V} {ta : List A} {ps : List Addr} (R : Rp K b s σ H tv ta Hd ps) {n : Nat} {xs : List PyData} (h : s.os[n]? = some (.la (xs.map A.d))) : Rp K b (s.put n (.lst xs)) σ H tv ta Hd ps where
  e0 := R.e0
  e1 := R.e1
  e2 := R.e2
  nw := R.nw
  pl := by rw [R.pl]; show _ = (s.os.set n _).length; rw [List.length_set]
  nd := R.nd
  p0 := R.p0
  fr := R.fr
  ex := R.ex
  cl := fun k cc p hk hp => by
    by_cases e : k = n
    · subst e
      rw [show (s.put k (.lst xs)).os = s.os.set k (.lst xs) from rfl, List.getElem?_set_self (List.getElem?_eq_some_iff.mp h).1] at hk
      cases hk
      obtain ⟨h0, vs, hv, ha⟩ := R.cl k _ p h hp
      exact ⟨h0, vs, hv, da_of_ars ha⟩
    · rw [show (s.put n (.lst xs)).os = s.os.set n (.lst xs) from rfl, List.getElem?_set_ne (Ne.symm e)] at hk
      exact R.cl k cc p hk hp
  sl := R.sl
  ln := R.ln
  tm := R.tm
theorem ev_lstd {n : Nat} {xs : List PyData} (h : s.os[n]? = some (.la (xs.map A.d))) (q : EV K b te (s.put n (.lst xs)) Φ) : EV K b te s Φ := fun σ H tv tl Hd ps R Q k => q σ H tv tl Hd ps (rp_lst R h) Q k
/-- an own list of own lists is from now on data; all else is forgotten -/
theorem ev_deep (h : EV K b te s fun a s1 => ∃ (n : Nat) (js : List Nat) (xss : List (List PyData)), a = .o n ∧ js.length = xss.length ∧ js.Nodup ∧ n ∉ js ∧ s1.os[n]? = some (.la (js.map A.o)) ∧ (∀ (i : Nat) j xs, js[i]? = some j → xss[i]? = some xs → s1.os[j]? = some (.lst xs)) ∧ Φ (.d (.list (xss.map PyData.list))) s1.bare) : EV K b te s Φ := fun σ H tv tl Hd ps R Q k =>
  h σ H tv tl Hd ps R _ fun v H1 a s1 Hd1 ps1 h1 R1 a1 => by
    obtain ⟨n, js, xss, rfl, hl, nd, hn, ho, hj, q⟩ := h1
    obtain ⟨s2, Hd2, e2, o2, R2, a2⟩ := frz_all (done := []) R1 hl nd hn ho hj a1
    have R3 := rp_lst R2 o2
    have o3 : (s2.put n (.lst ([] ++ xss.map PyData.list))).os[n]? = some (.lst ([] ++ xss.map PyData.list)) := List.getElem?_set_self (List.getElem?_eq_some_iff.mp o2).1
    obtain ⟨Hd4, e4, R4, h4⟩ := R3.frz o3
    refine k v H1 _ _ Hd4 ps1 q (rp_bare R4 s1 ?_ ?_ R4.tm) (h4 v a2)
    · rw [← R1.ln, ← R4.ln]
    · rw [← R1.pl, ← R4.pl]
end
end Dw

/-! name = {k: v for ..} on one line -/
namespace L2
open PySem PySem.Spec PyProof.Rows
section
variable {X : Cx}
theorem sw_trueD {kx vx : Expr} {gs : List Comprehension} {scope : Scope} {pos py : Pos} {y : Str} {l : Nat} {env : Env} (hk : env.scope.kind = .function) (hy : env.scope.names.lookup y = some .local) (hl : (py.line == pos.line) = true)
    (ha : (scope.names.any fun (n, k) => n == y && (k == .local || k == .cell)) = false) : swapsWith (.DictComp kx vx gs scope pos) (some (.Name y py)) l env = pure true := by
  have ky : env.kindOf y = some .local := hy
  have hb : env.blockKind = .function := by unfold Env.blockKind; rw [hk]; rfl
  unfold swapsWith
  simp only [hb, ky, ha, Expr.pos, hl]
  rfl
theorem ps_setDc {i : Nat} {y : Str} {py : Pos} {kx vx tg iter : Expr} {ifs : List Expr} {scope : Scope} {own : List (Str × Nat)} {pos spos : Pos} {wi : TI} {g : TG} {tt : TT} {tk tv : TE} (hc : X.calm = true) (hN : X.N.Nodup) (hy : X.N[i]? = some y) (hyl : X.env.scope.names.lookup y = some .local)
    (hsw : swapsWith (.DictComp kx vx [⟨tg, iter, ifs, 0⟩] scope pos) (some (.Name y py)) spos.line X.env = pure true) (hi : PI X tg iter wi) (ok : BlkOk X.N X.env.scope scope own)
    (hg : ∀ (s : Shared) (H : Hp) (C : Addr) (cl : List (Str × Addr)) (fp : List Addr), PG (X.blk s H scope (compEnvC scope cl C X.env) fp) tg g) (ht : ∀ (s : Shared) (H : Hp) (C : Addr) (cl : List (Str × Addr)) (fp : List Addr), PTs (X.blk s H scope (compEnvC scope cl C X.env) fp) ifs tt)
    (hk : ∀ (s : Shared) (H : Hp) (C : Addr) (cl : List (Str × Addr)) (fp : List Addr), PE (X.blk s H scope (compEnvC scope cl C X.env) fp) kx tk)
    (he : ∀ (s : Shared) (H : Hp) (C : Addr) (cl : List (Str × Addr)) (fp : List Addr), PE (X.blk s H scope (compEnvC scope cl C X.env) fp) vx tv) (hs : ∀ x, foldedSetIterable iter X.env x = pure x := by intro _; rfl) :
    PS X (.Assign [.Name y py] (.DictComp kx vx [⟨tg, iter, ifs, 0⟩] scope pos) spos) (tAsg (tDc wi g tt tk tv (own.map (·.2))) (gName i)) := by
  refine ⟨fun pins s σ H D I h => ?_⟩
  rw [exec_Assign_Name_used _ _ _ _ hsw]
  refine wpAny_bind (wpAny_standAt (wpAny_bind ?_))
  show wpAny _ X.A (do let _ ← comprehension (.DictComp kx vx [⟨tg, iter, ifs, 0⟩] scope pos) scope X.env (firstIterPos [⟨tg, iter, ifs, 0⟩] pos) newDict false (eval iter X.env) (some (assign (.Name y py) X.env))) _ _ s
  have h : tDc wi g tt tk tv (own.map (·.2)) σ H (fun x H1 => gName i x σ H1 D.nx) := h
  refine wpAny_bind (thn (dc_core (Qf := fun _ s' => SP X pins D .next s') hc hN I hi ok hg ht hk he hs h fun L C s' m H' I' q hn f => ?_) fun _ s' hq => wpAny_pure (wpAny_pure hq))
  show wpAny _ _ (assign (.Name y py) X.env (.ref L)) _ _ _
  refine wpAny_assign_Name (store_ok2 (v := V.ref L) I' hN hy (.inl hyl) rfl (fun s2 I2 ⟨a, sb, ha⟩ => ?_) (.inr hyl))
  obtain ⟨f0, f1, f2, f3, f4, f5⟩ := f
  have haC : C ≠ a := by
    rcases ha with z | z
    · rw [z]; exact f1
    · exact fun e => f4 y a z e.symm
  refine ⟨m, hn.sameBut sb haC, fun h3 sb3 => ?_⟩
  exact ⟨_, H', I2.turned (t' := s2.toks) (fun b o hb e => (sb3.2 b hb).trans e) f0 f1 f3 f4 f5, q⟩
end
end L2

/-! several except clauses, each with a name (the way of ps_try_as and of ps_try_many put together) -/
namespace L2N
open PySem PySem.Spec PyProof.Rows
open _root_.L2
/-- one clause: the class, the name's slot, the suite -/
structure Hd1 where
  c : Value
  i : Nat
  ts : Addr → Value → Option Addr → TS
def wMas (K : PySem.W.Frag) (Wout : WX) (D : Ends) : List Hd1 → WX
  | [] => Wout
  | h :: r => wAs K h.c h.i h.ts (wMas K Wout D r) D
inductive HdsAs (X : Cx) : List ExceptHandler → List Hd1 → Prop
  | nil : HdsAs X [] []
  | cons {x n : Str} {h : Hd1} {b₀ : Stmt} {suite : List Stmt} {np pos' : Pos} {hds : List ExceptHandler} {l : List Hd1} (hi : X.N[h.i]? = some n) (hln : X.env.kindOf n = some .local) (hc : Names X x h.c)
      (hsu : ∀ (a : Addr) (oe : Obj) (cls : Value) (d : Option Addr) (pn : List (Addr × Obj)), Zn cls d oe → (∃ vs, oe.data = .fields vs) → PSs (X.suite a ((a, oe) :: pn)) (b₀ :: suite) (h.ts a cls d)) (r : HdsAs X hds l) :
      HdsAs X (.ExceptHandler (some (.Name x np)) (some n) (b₀ :: suite) pos' :: hds) (h :: l)
section
variable {X : Cx} {body : List Stmt} {h₀ : ExceptHandler} {hds : List ExceptHandler} {l : List Hd1} {pos : Pos} {tb : WX → TS} {Wout : WX}
theorem ps_try_manyAs (hs : X.stack = X.env :: X.outer) (hf : X.env.frame = some X.env.locals) (hN : X.N.Nodup) (tk : Takes X Wout)
    (hb : ∀ (W : WX) (pn : List (Addr × Obj)) (xe : Value → Shared → Prop), Takes (X.tr pn xe) W → PassesOwn (model X.prog X.w) X.A X.env xe → PSs (X.tr pn xe) body (tb W))
    (hh : HdsAs X (h₀ :: hds) l) : PS X (.Try body (h₀ :: hds) [] [] pos) (fun D σ H => tb (wMas X.K Wout D l) D σ H) := by
  refine ⟨fun pins s σ H D I h => ?_⟩
  have ok := I.ok
  have hfr : X.A.frames = some (X.env :: X.outer) := by rw [ok.frames, hs]
  refine wpAny_Try_except ?_
  refine wpAny_mono ((hb (wMas X.K Wout D l) (X.pn ++ pins) (fun e s₁ => wpAny (model X.prog X.w) X.A (noteFrame e X.env) (fun _ s₂ => wpAny (model X.prog X.w) X.A (setFlight e none) (fun _ s₃ =>
    wpAny (model X.prog X.w) X.A (handleBy e X.env (h₀ :: hds)) (SP X pins D) X.xe s₃) X.xe s₂) X.xe s₁) (fun u s' xx => ?_) PassesOwn.looking).run [] s σ H D (I.toTry _) h) (fun f s1 hsp => ?_) (fun e s1 he => he)
  · obtain ⟨a, B, sI, pins', σ', H', cls, d, rfl, J', nb, up, sky, na, os, ag, w⟩ := xx
    have J : Inv X pins σ' H' sI := J'.ofTry ok
    have sky' : Sky B (X.env :: X.outer) a (Zn cls d) X.env.locals s'.heap := by rw [← hs]; exact sky
    show wpAny (model X.prog X.w) X.A (noteFrame (.ref a) X.env) _ _ _
    refine Sky.land Zn.steady hfr hf sky' fun h3 fl3 up3 => ?_
    have J3 : Inv X pins σ' H' { s' with heap := h3 } := J.landed nb fl3.1 (up.trans up3) os ag
    obtain ⟨oe3, vs3, he3, hz3, hd3⟩ := fl3.there
    have nfr : a ∉ frs (X.env :: X.outer) := fun hm => by
      obtain ⟨_, o', e', hnf⟩ := fl3.2.2.1.mem hm
      rw [he3] at e'
      cases e'
      exact hnf _ hd3
    have nL : a ≠ X.env.locals := fun z => nfr (List.mem_filterMap.mpr ⟨X.env, List.mem_cons_self, by rw [hf, z]⟩)
    have nF : a ∉ X.fs := fun hm => by
      obtain ⟨e, he, q⟩ := List.mem_filterMap.mp hm
      exact nfr (List.mem_filterMap.mpr ⟨e, List.mem_cons_of_mem _ he, q⟩)
    have S3 := J3.suite he3 hd3 na nL nF
    have go : ∀ {hds' : List ExceptHandler} {l' : List Hd1}, HdsAs X hds' l' → wMas X.K Wout D l' cls d σ' H' →
        wpAny (model X.prog X.w) X.A (handleBy (.ref a) X.env hds') (SP X pins D) X.xe { s' with heap := h3 } := by
      intro hds' l' hk
      induction hk with
      | nil =>
        intro w
        refine wpAny_handleBy_nil ?_
        obtain ⟨k1, k2, k3, oe, vs, T, oT, ts', he, hz, hd, h1, hr⟩ := id fl3
        unfold PySem.passOn
        refine wpAny_bind (wpAny_field he hd h1 ?_)
        rw [if_neg (show ¬ ((Value.ref T == Value.none) = true) from by simp)]
        have fin : wpAny (model X.prog X.w) X.A (setFlight (.ref a) X.env.frame) (fun _ s4 => wpAny (model X.prog X.w) X.A (throw (.ref a) : Sem Flow) (SP X pins D) X.xe s4) X.xe { s' with heap := h3 } := by
          rw [hf]
          refine HandSPX.setFlight_upZ fl3 fun h4 hh4 up4 => wpAny_throw (tk _ _ ?_)
          exact ⟨a, B, sI, pins, σ', H', cls, d, rfl, J, nb, (up.trans up3).trans up4, .inr (.inr (by rw [hs]; exact hh4)), na, os, ag, w⟩
        first
          | exact wpAny_bind (wpAny_pure (wpAny_bind fin))
          | exact wpAny_bind fin
      | @cons x n hd b₀ suite np pos' hds2 l2 hi hln hc hsu r ih =>
        intro w
        obtain ⟨b, hb1, hyes, hno⟩ := w
        have hloc : Loc X.env.scope n := .inl hln
        refine wpAny_handleBy_cons (codeAny_handlers_test ?_) (by intro q; cases q)
        have LT : PySem.W.Looks (model X.prog X.w) h3 (typeOf (.ref a)) cls := fun A Q E s k q => wpAny_typeOf_ref (k _ _ he3) (by rw [hz3.1]; exact q)
        have LM := PySem.W.exm_one (M := model X.prog X.w) (J3.kIn) LT hb1
        have test : ∀ {Q : Value → Shared → Prop} {E : Value → Shared → Prop}, Q hd.c { s' with heap := h3 } → wpAny (model X.prog X.w) (X.A.mark (some (.ref a))) (eval (.Name x np) X.env) Q E { s' with heap := h3 } := fun {Q E} q => by
          obtain ⟨hg, hdbg, hm | ⟨hm, hv, hnn⟩⟩ := hc
          · exact ld_glob (X := X.suite a ((a, oe3) :: (X.pn ++ pins))) S3 hg hm q hdbg
          · exact ld_blt (X := X.suite a ((a, oe3) :: (X.pn ++ pins))) S3 hg hm hv q hnn hdbg
        refine test (LM.here ?_)
        cases b with
        | true =>
          refine codeAny_handlers_suite_as ?_
          refine HandSPX.lands_againZ fl3 fun h4 fl4 up4 => ?_
          have J4 : Inv X pins σ' H' { s' with heap := h4 } := J.landed nb fl4.1 ((up.trans up3).trans up4) os ag
          obtain ⟨oe4, vs4, he4, hz4, hd4⟩ := fl4.there
          have S4 := J4.suite he4 hd4 na nL nF
          refine store_ok (X := X.suite a ((a, oe4) :: (X.pn ++ pins))) (v := .ref a) S4 hN hi hloc rfl (fun s5 S5 => ?_) (.inr hln)
          refine wpAny_mono ((hsu a oe4 cls d (X.pn ++ pins) hz4 ⟨_, hd4⟩).run [] s5 _ H' _ S5 (hyes rfl a na)) (fun f s6 hsp => ?_) (fun _ _ z => False.elim z)
          have end_ : ∀ {σ6 : St} {H6 : Hp} {Q : Shared → Prop}, Inv (X.suite a ((a, oe4) :: (X.pn ++ pins))) [] σ6 H6 s6 → (∀ s7, Inv X pins (σ6.set hd.i none) H6 s7 → Q s7) →
              wpAny (model X.prog X.w) X.A (do bindName X.env n .none; unbindBehindTheSuite X.env n pos') (fun _ s7 => Q s7) X.xe s6 := fun {σ6 H6 Q} S6 hq => gone_ok (S6.unsuite ok) hN hi hln hq
          cases f with
          | next =>
            obtain ⟨σ6, H6, S6, q6⟩ := hsp
            exact end_ S6 fun s7 J7 => ⟨_, _, J7, q6⟩
          | brk =>
            obtain ⟨σ6, H6, S6, q6⟩ := hsp
            exact end_ S6 fun s7 J7 => ⟨_, _, J7, q6⟩
          | cont =>
            obtain ⟨σ6, H6, S6, q6⟩ := hsp
            exact end_ S6 fun s7 J7 => ⟨_, _, J7, q6⟩
          | ret u =>
            obtain ⟨v6, σ6, H6, S6, r6, q6⟩ := hsp
            exact end_ S6 fun s7 J7 => ⟨_, _, _, J7, r6, q6⟩
        | false =>
          show wpAny _ X.A (handleBy (.ref a) X.env hds2) _ _ _
          exact ih (hno rfl)
    exact go hh w
  · cases f with
    | next =>
      obtain ⟨σ', H', J', q⟩ := hsp
      exact wpAny_execs_nil ⟨σ', H', J'.ofTry ok, q⟩
    | brk =>
      obtain ⟨σ', H', J', q⟩ := hsp
      exact ⟨σ', H', J'.ofTry ok, q⟩
    | cont =>
      obtain ⟨σ', H', J', q⟩ := hsp
      exact ⟨σ', H', J'.ofTry ok, q⟩
    | ret u =>
      obtain ⟨v, σ', H', J', r, q⟩ := hsp
      exact ⟨v, σ', H', J'.ofTry ok, r, q⟩
end
end L2N
namespace Dw
open PySem
open _root_.L2
section
variable {K : PySem.W.Frag} {b : B} {s s1 : S} {N : EE}
/-- the clause that takes x -/
def Takers (K : PySem.W.Frag) (b : B) (N : EE) (x : Xv) (s1 : S) : List L2N.Hd1 → Prop
  | [] => False
  | h :: r => (PySem.W.exmOne K x.cls h.c = some true ∧ ∀ a d, GO K b (h.ts a x.cls d) (s1.set h.i (exX K a d x.fs)) ⟨fun s2 => N.nx (s2.wp [h.i]), N.rt, fun s2 => N.bk (s2.wp [h.i]), fun s2 => N.ct (s2.wp [h.i])⟩) ∨
      (PySem.W.exmOne K x.cls h.c = some false ∧ Takers K b N x s1 r)
theorem go_tryM {tb : WX → TS} {l : List L2N.Hd1} {Wout : WX} (XP : Xv → S → Prop)
    (hb : ∀ b' (W : WX), (∀ x d σ H s tv ta Hd ps, XP x s → Rp K b' s σ H tv ta Hd ps → XvR K Hd d x.fs → W x.cls d σ H) → GO K b' (tb W) s N)
    (hs : ∀ x s1, XP x s1 → Takers K b N x s1 l) :
    GO K b (fun D σ H => tb (L2N.wMas K Wout D l) D σ H) s N := fun D σ H tv tl Hd ps R k => by
  refine hb ⟨Hd, b.F, ps⟩ _ (fun x d σ1 H1 s1 tv1 ta1 Hd1 ps1 hx R1 hd => ?_) D σ H tv tl Hd ps R.enter ⟨fun σ' H' s' Hd' ps' q R' => k.nx σ' H' s' Hd' ps' q (R.back R'), fun v σ' H' a s' Hd' ps' q R' ha => k.rt v σ' H' a s' Hd' ps' q (R.back R') ha, fun σ' H' s' Hd' ps' q R' => k.bk σ' H' s' Hd' ps' q (R.back R'), fun σ' H' s' Hd' ps' q R' => k.ct σ' H' s' Hd' ps' q (R.back R')⟩
  have go := hs x s1 hx
  clear hs
  induction l with
  | nil => exact go.elim
  | cons h r ih =>
    rcases go with ⟨em, hgo⟩ | ⟨em, hgo⟩
    · refine ⟨true, em, fun _ a _ => ?_, fun z => nomatch z⟩
      refine hgo a d _ _ _ tv tl Hd1 ps1 ((R.tms R1).set (a := exX K a d x.fs) ⟨rfl, hd⟩ h.i) ⟨fun σ H s Hd ps q R => ?_, fun v σ H a s Hd ps q R ha => k.rt v σ H a s Hd ps q R ha, fun σ H s Hd ps q R => ?_, fun σ H s Hd ps q R => ?_⟩
      · exact k.nx _ H _ Hd ps q (R.wipe [h.i])
      · exact k.bk _ H _ Hd ps q (R.wipe [h.i])
      · exact k.ct _ H _ Hd ps q (R.wipe [h.i])
    · exact ⟨false, em, (fun z => nomatch z), fun _ => ih hgo⟩
end
end Dw

/-! calls by keyword and with defaults, where what is raised is wished for at the caller's slots -/
namespace L2
open PySem PySem.Spec PyProof.Rows
section
variable {X : Cx} {CX : CXT} {k n : Nat} {f : Addr} {fd : FuncData} {ps ks : List Str} {sp : Sp} {E : St → XK} {x : Str} {p pos : Pos} {e : Expr} {es : List Expr} {kws : List Keyword} {t tk : TA} {g : List Value → List Value → List Value} {gV : List V → List V → List V}
def tCallNS (n m : Nat) (sp : Sp) (gV : List V → List V → List V) (E : St → XK) (t tk : TA) : TE := fun σ H Q => t σ H fun vs H1 => tk σ H1 fun zs H2 => vs.length = n ∧ zs.length = m ∧ sp (gV vs zs) H2 Q (E σ)
theorem run_fnNS {pins : List (Addr × Obj)} {σ : St} {H : Hp} {s : Shared} {Q : VK} {us ws : List Value} {vs zs : List V} (F : FnOk X.prog X.w X.K X.mg X.base CX k f fd ps sp) (hr : Room k X.A) (hb : KBn X.K fd ps n ks g gV) (hx : PassesAt CX X σ (E σ))
    (I : Inv X pins σ H s) (r : Vals vs us) (rz : Vals zs ws) (l1 : vs.length = n) (l2 : zs.length = ks.length) (h : sp (gV vs zs) H Q (E σ)) : wpAny (model X.prog X.w) X.A (call (.ref f) us (ks.zip ws)) (EP X pins σ Q) X.xe s := by
  have r2 := hb.rel r rz
  refine wpAny_call (codeAny_mono (F.run X.A X.stack s H ⟨us, ks.zip ws⟩ (g us ws) (gV vs zs) Q (E σ) hr I.env0 (hb.to s us ws I.kIn (r.length.symm.trans l1) (rz.length.symm.trans l2)) r2 h) fun r s' hq => ?_)
  cases r with
  | error e => exact hx pins H s e s' I hq
  | ok fl =>
    cases fl with
    | ret u => exact I.after hq
    | next => exact False.elim hq
    | brk => exact False.elim hq
    | cont => exact False.elim hq
theorem pe_callNS (F : FnOk X.prog X.w X.K X.mg X.base CX k f fd ps sp) (hr : Room k X.A) (hg : Gl X x) (hm : X.mg x = some (.ref f)) (hk : PySem.W.keepIn X.K (.ref f) = true) (hb : KBn X.K fd ps n ks g gV) (hx : ∀ σ, PassesAt CX X σ (E σ))
    (ha : PA X (e :: es) t) (hkw : PK X kws tk) (hall : (backToKw pos (keywordEach kws X.env)).all (·.1.isSome) = true := by rfl) (hks : (backToKw pos (keywordEach kws X.env)).filterMap (·.1) = ks := by rfl)
    (hdb : (x == ("__debug__" : Str)) = false := by decide) (he : starEach (e :: es) X.env = (false, eval e X.env) :: starEach es X.env := by rfl)
    (hpl : ((backTo pos (starEach (e :: es) X.env)).any (·.1) || (backToKw pos (keywordEach kws X.env)).any (·.1.isNone)) = false := by rfl) :
    PE X (.Call (.Name x p) (e :: es) kws pos) (tCallNS n ks.length sp gV E t tk) := by
  refine ⟨fun pins s σ H Q I h => ?_⟩
  refine wpAny_Call_Name_kw (ld_glob I hg hm ?_ hdb)
  refine PySem.W.callWith_KW (h₀ := X.base) I.ok.mod.kin hk hall (thn (ha.run pos pins s σ H _ I h) fun us s1 ⟨vs, H1, I1, r, q⟩ => ?_) hpl he
  refine thn (hkw.run pos pins s1 σ H1 _ I1 q) fun ws s2 ⟨zs, H2, I2, rz, l1, l2, q2⟩ => ⟨I2.kIn, ?_⟩
  rw [hks]
  exact run_fnNS F hr hb (hx σ) I2 r rz l1 l2 q2
end
end L2
namespace Dw
open PySem
open _root_.L2
section
variable {K : PySem.W.Frag} {b : B} {s : S} {t tk : TA} {Φ : A → S → Prop} {sp : Sp} {E : L2.St → XK}
/-- an argument more -/
def tApp (t : TA) (c : V) : TA := fun σ H Q => t σ H fun vs H1 => Q (vs ++ [c]) H1
def tBoth (n m : Nat) (t tk : TA) : TA := fun σ H Q => t σ H fun vs H1 => tk σ H1 fun zs H2 => vs.length = n ∧ zs.length = m ∧ Q (vs ++ zs) H2
theorem ev_SD {c : V} (h : EV K b (tCallG sp E (tApp t c)) s Φ) : EV K b (tCallSD sp [c] E t) s Φ := fun σ H tv tl Hd ps R Q k => by
  have e : tCallSD sp [c] E t = tCallG sp E (tApp t c) := by
    funext σ H Q
    show (t σ H fun vs H1 => sp (vs ++ [c]) H1 Q (E σ)) = t σ H fun vs H1 => sp (vs ++ [c] ++ []) H1 Q (E σ)
    congr 1
    funext vs H1
    rw [List.append_nil]
  rw [e]
  exact h σ H tv tl Hd ps R Q k
theorem ea_app {c : V} {d : PyData} {Ψ : List A → S → Prop} (hc : ∀ H, Dr K H c d) (h : EA K b t s fun as s1 => Ψ (as ++ [.d d]) s1) : EA K b (tApp t c) s Ψ := fun σ H tv tl Hd ps R Q k =>
  h σ H tv tl Hd ps R _ fun vs H1 as s1 Hd1 ps1 h1 R1 a1 => k _ _ _ _ _ _ h1 R1 (pair_app a1 (.cons (hc _) .nil))
theorem ev_NS {n m : Nat} (h : EV K b (tCallG sp E (tBoth n m t tk)) s Φ) : EV K b (tCallNS n m sp (fun us ws => us ++ ws) E t tk) s Φ := fun σ H tv tl Hd ps R Q k => by
  have e : tCallNS n m sp (fun us ws => us ++ ws) E t tk = tCallG sp E (tBoth n m t tk) := by
    funext σ H Q
    show (t σ H fun vs H1 => tk σ H1 fun zs H2 => vs.length = n ∧ zs.length = m ∧ sp (vs ++ zs) H2 Q (E σ)) = t σ H fun vs H1 => tk σ H1 fun zs H2 => vs.length = n ∧ zs.length = m ∧ sp (vs ++ zs ++ []) H2 Q (E σ)
    congr 1
    funext vs H1
    congr 1
    funext zs H2
    rw [List.append_nil]
  rw [e]
  exact h σ H tv tl Hd ps R Q k
theorem ea_both {n m : Nat} {Ψ : List A → S → Prop} (h : EA K b t s fun as s1 => EA K b tk s1 fun zs s2 => as.length = n ∧ zs.length = m ∧ Ψ (as ++ zs) s2) : EA K b (tBoth n m t tk) s Ψ := fun σ H tv tl Hd ps R Q k =>
  h σ H tv tl Hd ps R _ fun vs H1 as s1 Hd1 ps1 h1 R1 a1 => h1 σ H1 (vs ++ tv) (as ++ tl) Hd1 ps1 (R1.pushAll a1) _ fun zv H2 zs s2 Hd2 ps2 h2 R2 a2 => by
    obtain ⟨hn, hm, q⟩ := h2
    obtain ⟨R3, a1'⟩ := R2.popAll (pair_len a1)
    exact ⟨(pair_len a1).trans hn, (pair_len a2).trans hm, k _ _ _ _ _ _ q R3 (pair_app a1' a2)⟩
end
end Dw

/-! list(reversed(x)), x a list -/
namespace PySem
open Sem (wp)
namespace RVL
section
variable {prog : Program} {w : World} {A : Around} {s : Shared} {R : Result → Shared → Prop} {E : Value → Shared → Prop}
variable {I : Addr} {fp wr : List Addr} {G : Array GenState → Array GenState → Prop} {n : Nat} {P : Nat → Value → Prop} {St : Nat → Shared → Prop}
theorem extend_rev (W : WalksS prog w A.in1 I fp wr G n P St) (hT : ∀ i s, St i s → s.TypeIs (.ref I) "list_reverseiterator") (S : Addr) (res : Value) (c₀ : Nat) (hst : St 0 s) (hSf : S ∉ fp) (hI : I ∈ fp)
    (hS : s.heap.get? S = some { cls := .type "list", data := .seq #[] c₀ })
    (hR : ∀ s' acc' c', Moved (S :: wr) G s s' → s'.heap.get? S = some { cls := .type "list", dict := none, data := .seq acc' c', slots := #[] } → ItemsOf P acc' n → R (.ok (.ret res)) s') (hn : n ≤ sizeLine) :
    wpAny (model prog w) A.in1 (Builtin.List.listExtendWith (.ref S) (.ref I) res)
      (fun fin s' => match fin with | .done f => R (.ok f) s' | .again c' => c'.quiet = true ∧ codeAny (model prog w) A c' R s') (fun e s' => R (.error e) s') s := by
  have hSI : S ≠ I := fun e => hSf (e ▸ hI)
  unfold Builtin.List.listExtendWith
  refine wpAny_bind (wpAny_typeOf (hT 0 _ hst) ?_)
  have h1 : Builtin.List.listSameRef (.ref S) (.ref I) = false := by simp [Builtin.List.listSameRef, hSI]
  rw [if_neg (by rw [h1]; decide)]
  refine wpAny_bind (W.self 0 _ _ _ hst ?_)
  refine wpAny_bind (wpAny_holding ?_)
  unfold Builtin.List.listLengthHint
  refine wpAny_bind (wpAny_specialOf (hT 0 _ hst) RT.nolen_lri ?_)
  show wpAny _ A.in1 (specialOf (Value.ref I) (Str.ofString "__length_hint__") >>= _) _ _ _
  refine wpAny_bind (wpAny_specialOf (hT 0 _ hst) RT.hint_lri ?_)
  generalize hid : ("list_reverseiterator.__length_hint__" : String) = id0
  wp_delta
  rw [show splitId id0 = some ("list_reverseiterator", "__length_hint__") from by subst hid; decide +kernel]
  subst hid
  refine wpAny_bind (wpAny_isInstance (b := true) (hT 0 _ hst) (by rw [isSubtype_type]; kernel_rfl) ?_)
  refine wpAny_pure ?_
  rw [if_neg (by decide)]
  exact wpAny_pure ⟨plainId_quiet F.plain_extend_loop _, codeAny_extend_loopS W hn _ hSf _ n 0 _ _ _ rfl (Nat.zero_le _) hst hS (ItemsOf.nil P) fun s' acc' c' hm hS' hacc => hR s' acc' c' hm hS' hacc⟩
theorem list_init_rev (W : WalksS prog w A.in1 I fp wr G n P St) (hT : ∀ i s, St i s → s.TypeIs (.ref I) "list_reverseiterator") (S : Addr) (hst : St 0 s) (hSf : S ∉ fp) (hI : I ∈ fp)
    (hS : s.heap.get? S = some { cls := .type "list", data := .seq #[] })
    (hR : ∀ s' acc' c', Moved (S :: wr) G s s' → s'.heap.get? S = some { cls := .type "list", dict := none, data := .seq acc' c', slots := #[] } → ItemsOf P acc' n → R (.ok (.ret .none)) s') (hn : n ≤ sizeLine) :
    wpAny (model prog w) A.in1 (Builtin.«list.__init__» ⟨[.ref S, .ref I], []⟩)
      (fun fin s' => match fin with | .done f => R (.ok f) s' | .again c' => c'.quiet = true ∧ codeAny (model prog w) A c' R s') (fun e s' => R (.error e) s') s := by
  show wpAny _ A.in1 (do let old ← Builtin.List.listItems (.ref S); Builtin.List.listUpdate (.ref S) (fun _ => #[]); letGo old.toList.reverse; Builtin.List.listExtendWith (.ref S) (.ref I) .none) _ _ s
  refine wpAny_bind ?_
  unfold Builtin.List.listItems
  refine wpAny_bind (wpAny_seqItems hS rfl (wpAny_pure ?_))
  show wpAny _ A.in1 (updateSeq S (fun _ => #[]) >>= fun _ => letGo (#[] : Array Value).toList.reverse >>= fun _ => Builtin.List.listExtendWith (.ref S) (.ref I) .none) _ _ s
  refine wpAny_bind (wpAny_updateSeq hS rfl ?_)
  have hS₂ := Heap.get?_update_self (Obj.mapSeq (fun _ => (#[] : Array Value))) hS rfl
  have oth : ∀ b o, b ≠ S → s.heap.get? b = some o → (s.heap.update S (Obj.mapSeq (fun _ => (#[] : Array Value)))).get? b = some o :=
    fun b o hb e => (Heap.get?_update_other _ _ (Ne.symm hb)).trans e
  refine wpAny_bind (wpAny_letGo ?_)
  refine extend_rev W hT S .none _ (W.frame 0 s _ s.toks hst (Nat.le_refl _) fun b hb o e => oth b o (fun h => hSf (h ▸ hb)) e) hSf hI hS₂ (fun s' acc' c' hm hS' hacc => ?_) hn
  exact hR s' acc' c' (Moved.trans W.gtrans ((Moved.refl W.grefl).then_heap (Nat.le_refl _) fun b o hb e => oth b o (fun h => hb (h ▸ List.mem_cons_self)) e) hm) hS' hacc
theorem call_list_revS {Q : Value → Shared → Prop} (W : WalksS prog w A.in1.in1 I fp wr G n P St) (hT : ∀ i s, St i s → s.TypeIs (.ref I) "list_reverseiterator") (hst : St 0 s) (hfp : ∀ b ∈ fp, b < s.heap.objs.size) (hI : I ∈ fp)
    (hQ : ∀ s' acc' c', Moved (s.heap.objs.size :: wr) G { s with heap := s.heap.push { cls := .type "list", data := .seq #[] } } s' →
      s'.heap.get? s.heap.objs.size = some { cls := .type "list", dict := none, data := .seq acc' c', slots := #[] } → ItemsOf P acc' n → Q (.ref s.heap.objs.size) s') (hn : n ≤ sizeLine) :
    wpAny (model prog w) A (call (.type "list") [.ref I]) Q E s := by
  have hSf : s.heap.objs.size ∉ fp := fun hm => Nat.lt_irrefl _ (hfp _ hm)
  refine callType_codes (Q₁ := fun obj s₁ => obj = .ref s.heap.objs.size ∧ s₁ = { s with heap := s.heap.push { cls := .type "list", data := .seq #[] } }) F.called_list (F.typeCall_list_1 _) F.entry_list_init
    (code_list_new _ ⟨rfl, rfl⟩) fun obj s₁ h₁ => ?_
  obtain ⟨rfl, rfl⟩ := h₁
  have hS : (s.heap.push { cls := .type "list", data := .seq #[] }).get? s.heap.objs.size = some { cls := .type "list", data := .seq #[] } := Heap.get?_push_size _ rfl
  refine ⟨⟨_, hS, rfl⟩, F.args_list_init_2 _ _, list_init_rev W hT _ (W.frame 0 s _ s.toks hst (Nat.le_refl _) fun b _ o e => Heap.get?_push_of_some _ e) hSf hI hS (fun s' acc' c' hm hS' hacc => ?_) hn⟩
  exact ⟨rfl, hQ s' acc' c' hm hS' hacc⟩
end
end RVL
end PySem
namespace L2
open PySem PySem.Spec PyProof.Rows
section
variable {X : Cx}
def tLstRev (K : PySem.W.Frag) (te : TE) : TE := fun σ H Q => te σ H fun v H1 => ∃ (a : Addr) (xs : List V), v = .ref a ∧ SqL K H1 a xs ∧ ∀ q, H1 q = none → Q (.ref q) (upd H1 q (.lst xs.reverse))
theorem pe_lstRev {e : Expr} {te : TE} {p p2 pos pos2 : Pos} (hc : X.calm = true) (hg : Gl X "list") (hm : X.mg "list" = none) (hg2 : Gl X "reversed") (hm2 : X.mg "reversed" = none) (he : PE X e te)
    (hs : starEach [e] X.env = (false, eval e X.env) :: starEach [] X.env := by rfl)
    (hs2 : starEach [.Call (.Name "reversed" p2) [e] [] pos2] X.env = (false, eval (.Call (.Name "reversed" p2) [e] [] pos2) X.env) :: starEach [] X.env := by rfl) :
    PE X (.Call (.Name "list" p) [.Call (.Name "reversed" p2) [e] [] pos2] [] pos) (tLstRev X.K te) := by
  refine ⟨fun pins s σ H Q I h => ?_⟩
  refine Call_ (ld_blt I hg hm boot_list (PyProof.Rows.callWith_type1 (args_cons (Call_ (ld_blt I hg2 hm2 PyProof.Rows.boot_reversed (PyProof.Rows.callWith_type1 (args_cons (thn (he.run pins s σ H _ I h) fun u s1 ⟨v, H1, I1, r1, q1⟩ => args_nil ?_) hs) hs rfl))) hs2) hs2 rfl))
  obtain ⟨a, xs, ev, hq, q⟩ := q1
  subst ev
  obtain rfl : u = Value.ref a := r1
  obtain ⟨its, rv, p', hz⟩ := I1.list hq
  refine call_reversed_list p'.isList (args_nil ?_)
  have k0 : ∀ b o, s1.heap.get? b = some o → (s1.heap.push (revObj a ((its.toArray.size : Int) - 1))).get? b = some o := fun b o e => Heap.get?_push_of_some _ e
  have I2 : Inv X pins σ H1 { s1 with heap := s1.heap.push (revObj a ((its.toArray.size : Int) - 1)) } := I1.kept (t' := s1.toks) k0
  obtain ⟨f0, f1, f2, f3, f4, f5⟩ := I1.fpOk (H' := H1) (b := s1.heap.objs.size) (Nat.le_refl _) (I1.hok.fresh (Nat.le_refl _))
  have hl := p'.isList
  obtain ⟨ol, hol, _⟩ := id hl
  have hne : a ≠ s1.heap.objs.size := Nat.ne_of_lt (Heap.lt_size hol)
  have hn : its.toArray.size ≤ sizeLine := by rw [List.size_toArray, ← rv.length]; exact hz
  have e0 : ((its.toArray.size : Nat) : Int) - 1 - ((0 : Nat) : Int) = (its.toArray.size : Int) - 1 := by omega
  refine RVL.call_list_revS (s := { s1 with heap := s1.heap.push (revObj a ((its.toArray.size : Int) - 1)) }) (Walks.listRev (A := X.A.in1.in1) (I1.ok.hd hc) s1.heap.objs.size a hne its.toArray).toS (fun i s st => st.2.1.typeIs)
    ⟨Nat.zero_le _, by rw [e0]; exact ⟨_, Heap.get?_push_size _ rfl, rfl, rfl⟩, hl.push _⟩ (fun b hb => ?_) List.mem_cons_self (fun s' acc' c' hm hS' hacc => ?_) hn
  · show b < (s1.heap.push _).objs.size
    rw [Heap.size_push]
    rcases List.mem_cons.mp hb with rfl | hb
    · exact Nat.lt_succ_self _
    · rw [List.mem_singleton.mp hb]
      exact Nat.lt_succ_of_lt (Heap.lt_size hol)
  · have kk : ∀ c o, s1.heap.get? c = some o → s'.heap.get? c = some o := fun c o e => by
      have hlt := Heap.lt_size e
      refine hm.heap c o (fun hmem => ?_) (Heap.get?_push_of_some _ (Heap.get?_push_of_some _ e))
      rcases List.mem_cons.mp hmem with e' | hmem
      · rw [e'] at hlt
        have hlt : (s1.heap.push (revObj a ((its.toArray.size : Int) - 1))).objs.size < s1.heap.objs.size := hlt
        rw [Heap.size_push] at hlt
        exact absurd (Nat.lt_trans (Nat.lt_succ_self _) hlt) (Nat.lt_irrefl _)
      · rw [List.mem_singleton.mp hmem] at hlt
        exact Nat.lt_irrefl _ hlt
    have hsz : s1.heap.objs.size ≤ (s1.heap.push (revObj a ((its.toArray.size : Int) - 1))).objs.size := by rw [Heap.size_push]; exact Nat.le_succ _
    rw [Moved.eq_with hm]
    exact ⟨.ref _, upd H1 _ (.lst xs.reverse), I1.laid (t' := s'.toks) (h' := s'.heap) kk hsz (show ObjOk X.prog X.w _ _ _ (.lst xs.reverse) from ⟨by rw [List.length_reverse]; exact hz, acc'.toList, c', RT.vals_rev rv hacc, by rw [Array.toArray_toList]; exact hS'⟩), rfl, q _ (I1.hok.fresh hsz)⟩
end
end L2
namespace Dw
open PySem
open _root_.L2
section
variable {K : PySem.W.Frag} {b : B} {s : S} {te : TE} {Φ : A → S → Prop}
theorem da_rev {Hd : Hp} : ∀ {vs : List V} {ds : List PyData}, DrA K Hd vs ds → DrA K Hd vs.reverse ds.reverse
  | _, _, .nil => .nil
  | _, _, .cons h t => by
    rw [List.reverse_cons, List.reverse_cons]
    exact paired_da (pair_app (da_paired (da_rev t)) (.cons h .nil))
/-- list(reversed(x)): a new own list -/
theorem ev_lstRev (h : EV K b te s fun a s1 => ∃ ds, Vw s1 a (.list ds) ∧ Φ (.o s1.os.length) (s1.add (.lst ds.reverse))) : EV K b (tLstRev K te) s Φ := fun σ H tv tl Hd ps R Q k =>
  h σ H tv tl Hd ps R _ fun v H1 a s1 Hd1 ps1 h1 R1 a1 => by
    obtain ⟨ds, hv, q⟩ := h1
    obtain ⟨p, vs, rfl, hp, hd⟩ := vw_lst R1 a1 hv
    refine ⟨p, vs, rfl, .inl (.inl hp), fun q' hq' => ?_⟩
    obtain ⟨R2, a2⟩ := R1.new (c := .lst ds.reverse) (o := .lst vs.reverse) hq' ⟨none_of_same R1.e1 hq', vs.reverse, upd_same, da_rev hd⟩
    exact k _ _ _ _ _ _ q R2 a2
end
end Dw

/-! text * n, all, sorted of texts -/
namespace Dw
open PySem PySem.Spec PyProof.Rows
open _root_.L2
def repSt (z : Str) (n : Nat) : Str := ⟨(List.replicate n z.cps).foldl (· ++ ·) #[]⟩
theorem repS_foldl {α : Type} : ∀ {n : Nat} {x a : Array α}, ((List.replicate n x).foldl (· ++ ·) a).toList = a.toList ++ (List.replicate n x.toList).flatten
  | 0, _, _ => by simp
  | n + 1, x, a => by
    rw [List.replicate_succ, List.foldl_cons, repS_foldl, List.replicate_succ, List.flatten_cons, Array.toList_append, List.append_assoc]
theorem repS_list {z : Str} {n : Nat} : (repSt z n).cps.toList = (List.replicate n z.cps.toList).flatten := by
  unfold repSt
  rw [repS_foldl]
  rfl
theorem repS_len {z : Str} {n : Nat} : (repSt z n).length = z.length * n := by
  show (repSt z n).cps.size = z.cps.size * n
  rw [← Array.length_toList, repS_list, List.length_flatten, List.map_replicate, List.sum_replicate_nat, Array.length_toList, Nat.mul_comm]
def rMulSt : R2 := fun x y H Q => ∃ (z : Str) (n : Nat), x = .str z ∧ y = .int (n : Int) ∧ 2 ≤ n ∧ 1 ≤ z.length ∧ z.length * n ≤ sizeLine ∧ Q (.str (repSt z n)) H
theorem op_mulSt {X : Cx} : OpR X (binaryOp .Mult) rMulSt := by
  intro pins s σ H x y v u Q I rx ry h
  obtain ⟨z, n, rfl, rfl, h2, hz, hs, q⟩ := h
  obtain ⟨t, rfl⟩ := rx
  obtain ⟨t', rfl⟩ := ry
  have hl : sizeLine ≤ 2 ^ 62 := by decide
  have hn : n ≤ sizeLine := Nat.le_trans (Nat.le_mul_of_pos_left n hz) hs
  have e1 : ¬ ((n : Int) < 1) := by omega
  have e2 : ((n : Int) == 1 || z.length == 0) = false := by
    rw [Bool.or_eq_false_iff]
    exact ⟨beq_eq_false_iff_ne.mpr (by omega), beq_eq_false_iff_ne.mpr (by omega)⟩
  refine PySem.P.mul_str ?_ ?_ ?_ ?_
  · rw [decide_eq_false (by omega), decide_eq_false (by omega)]; rfl
  · intro _ _ hc
    have h3 : (z.length : Int) * (n : Int) ≤ 2 ^ 63 - 1 := by
      have : ((z.length * n : Nat) : Int) ≤ 2 ^ 63 - 1 := by omega
      rw [Int.natCast_mul] at this
      exact this
    have := Int.le_ediv_of_mul_le (by omega) h3
    omega
  · intro _ _
    rw [Int.toNat_natCast]
    exact decide_eq_false (by omega)
  · rw [if_neg e1, if_neg (by rw [e2]; decide), Int.toNat_natCast]
    refine ⟨?_, .str (repSt z n), H, I.tok _, ⟨_, rfl⟩, q⟩
    show (repSt z n).length ≤ sizeLine
    rw [repS_len]
    exact hs
section
variable {K : PySem.W.Frag} {b : B} {s : S} {x y : A} {Φ : A → S → Prop}
theorem v2_mulSt {z : Str} {n : Nat} (h2 : 2 ≤ n) (hz : 1 ≤ z.length) (hs : z.length * n ≤ sizeLine) (q : Φ (.d (.str (repSt z n))) s) : V2 K b rMulSt (.d (.str z)) (.d (.int (n : Int))) s Φ := fun σ H tv tl Hd ps v w R a1 a2 Q k => by
  cases a1; cases a2
  exact ⟨z, n, rfl, rfl, h2, hz, hs, k _ H _ s Hd ps q R (.str _)⟩
theorem da_blsV {H : Hp} : ∀ {ns : List Bool} {vs : List V}, DrA K H vs (ns.map PyData.bool) → vs = ns.map V.bl
  | [], _, h => by cases h; rfl
  | n :: ns, _, h => by
    cases h with
    | cons h t =>
      cases h
      rw [da_blsV t]
      rfl
theorem da_strsD {H : Hp} : ∀ {ns : List Str}, DrA K H (ns.map V.str) (ns.map PyData.str)
  | [] => .nil
  | _ :: _ => .cons (.str _) da_strsD
theorem vc_all {bs : List Bool} (h : Vw s x (.list (bs.map .bool))) (q : Φ (.d (.bool (bs.all id))) s) : VC K b (rAll K) [x] s Φ := fun σ H tv tl Hd ps vs R a Q k => by
  cases a with
  | @cons v _ _ _ a1 t =>
    cases t
    obtain ⟨p, vs, rfl, hv, ha⟩ := vw_lst R a1 h
    have e := da_blsV ha
    subst e
    exact ⟨p, bs, rfl, .inl (.inl hv), k _ H _ s Hd ps q R (.bl _)⟩
theorem vc_sortedS {ns : List Str} (h : Vw s x (.list (ns.map .str))) (hl : ns.length < 64) (q : ∀ ys : List Str, ys.Perm ns → sortedS ys = true → Φ (.o s.os.length) (s.add (.lst (ys.map .str)))) : VC K b (rSortedS K) [x] s Φ := fun σ H tv tl Hd ps vs R a Q k => by
  cases a with
  | @cons v _ _ _ a1 t =>
    cases t
    obtain ⟨p, vs, rfl, hv, ha⟩ := vw_lst R a1 h
    have e := da_strsV ha
    subst e
    refine ⟨p, ns, rfl, .inl (.inl hv), hl, fun ys p' h1 h2 hp => ?_⟩
    obtain ⟨R2, a2⟩ := R.new (c := .lst (ys.map .str)) (o := .lst (ys.map V.str)) hp ⟨none_of_same R.e1 hp, _, upd_same, da_strsD⟩
    exact k _ _ _ _ _ _ (q ys h1 h2) R2 a2
end
end Dw

/-! nested own things, seen as data -/
namespace Dw
open PySem PySem.Spec PyProof.Rows
open _root_.L2
mutual
inductive Vn (os : List C) : A → PyData → Prop
  | d {x : PyData} : Vn os (.d x) x
  | l {n : Nat} {xs : List PyData} (h : os[n]? = some (.lst xs)) : Vn os (.o n) (.list xs)
  | la {n : Nat} {as : List A} {ds : List PyData} (h : os[n]? = some (.la as)) (r : Vns os as ds) : Vn os (.o n) (.list ds)
  | t {as : List A} {ds : List PyData} (r : Vns os as ds) : Vn os (.t as) (.tuple ds)
inductive Vns (os : List C) : List A → List PyData → Prop
  | nil : Vns os [] []
  | cons {a : A} {d : PyData} {as : List A} {ds : List PyData} (h : Vn os a d) (r : Vns os as ds) : Vns os (a :: as) (d :: ds)
end
section
variable {K : PySem.W.Frag} {b : B} {s : S} {x y : A} {Φ : A → S → Prop} {te : TE}
mutual
theorem vn_dr {σ : L2.St} {H Hd : Hp} {tv : List V} {ta : List A} {ps : List Addr} (R : Rp K b s σ H tv ta Hd ps) : ∀ {a : A} {d : PyData} {v : V}, Vn s.os a d → AR K Hd ps v a → Dr K H v d
  | _, _, _, .d, h => dp_up R.e1 _ _ h
  | _, _, _, .l hk, ⟨p, hp, e⟩ => by
    subst e
    obtain ⟨_, vs, hv, ha⟩ := R.cl _ _ p hk hp
    exact .lst hv (da_up R.e1 _ _ ha)
  | _, _, _, .la hk r, ⟨p, hp, e⟩ => by
    subst e
    obtain ⟨_, vs, hv, ha⟩ := R.cl _ _ p hk hp
    exact .lst hv (vns_dr R r ha)
  | _, _, _, .t r, ⟨p, vs, e, hv, ha⟩ => by
    subst e
    exact .tup (st_up R.e1 hv) (vns_dr R r (ars_pair ha))
theorem vns_dr {σ : L2.St} {H Hd : Hp} {tv : List V} {ta : List A} {ps : List Addr} (R : Rp K b s σ H tv ta Hd ps) : ∀ {as : List A} {ds : List PyData} {vs : List V}, Vns s.os as ds → Paired (AR K Hd ps) vs as → DrA K H vs ds
  | _, _, _, .nil, .nil => .nil
  | _, _, _, .cons h r, .cons h1 h2 => .cons (vn_dr R h h1) (vns_dr R r h2)
end
theorem v2_eqN {d e : PyData} (h1 : Vn s.os x d) (h2 : Vn s.os y e) (z1 : SeqAt.shaped d = true) (z2 : SeqAt.shaped e = true) (q : Φ (.d (.bool (PyData.eqv d e))) s) : V2 K b (rEqD K) x y s Φ := fun σ H tv tl Hd ps v w R a1 a2 Q k =>
  ⟨d, e, Dr.dp _ _ (vn_dr R h1 a1), Dr.dp _ _ (vn_dr R h2 a2), z1, z2, k _ H _ s Hd ps q R (.bl _)⟩
theorem v2_neN {d e : PyData} (h1 : Vn s.os x d) (h2 : Vn s.os y e) (z1 : SeqAt.shaped d = true) (z2 : SeqAt.shaped e = true) (q : Φ (.d (.bool (!PyData.eqv d e))) s) : V2 K b (rNeD K) x y s Φ := fun σ H tv tl Hd ps v w R a1 a2 Q k =>
  ⟨d, e, Dr.dp _ _ (vn_dr R h1 a1), Dr.dp _ _ (vn_dr R h2 a2), z1, z2, k _ H _ s Hd ps q R (.bl _)⟩
theorem v2_eqN1 {k : Nat} {d : PyData} (h1 : Vn s.os x d) (h2 : Vn s.os y d) (z : Shp k d) (hk : k ≤ 64) (q : Φ (.d (.bool true)) s) : V2 K b (rEqD K) x y s Φ := v2_eqN h1 h2 (z.shaped hk) (z.shaped hk) (by rw [z.refl]; exact q)
theorem v2_neN1 {k : Nat} {d : PyData} (h1 : Vn s.os x d) (h2 : Vn s.os y d) (z : Shp k d) (hk : k ≤ 64) (q : Φ (.d (.bool false)) s) : V2 K b (rNeD K) x y s Φ := v2_neN h1 h2 (z.shaped hk) (z.shaped hk) (by rw [z.refl]; exact q)
theorem ev_isiN {n : String} (hn : n = "int" ∨ n = "bool" ∨ n = "str" ∨ n = "list" ∨ n = "tuple") (h : EV K b te s fun a s1 => ∃ d, Vn s1.os a d ∧ Φ (.d (.bool (isTy n d))) s1) : EV K b (tCB (rIsi K) (tCons te (tCons (tC (.ty n)) tNil))) s Φ := fun σ H tv tl Hd ps R Q k =>
  h σ H tv tl Hd ps R _ fun v H1 a s1 Hd1 ps1 h1 R1 a1 => by
    obtain ⟨d, hv, q⟩ := h1
    have hd := vn_dr R1 hv a1
    exact ⟨v, .ty n, _, _, isTy n d, rfl, .ty n, tyx_of hd, kit_isTy hn d (fun kvs e => by subst e; cases hd), k _ H1 _ s1 Hd1 ps1 q R1 (.bl _)⟩
theorem vc_lenU {as : List A} (q : Φ (.d (.int as.length)) s) : VC K b (fun xs H Q => ∃ x n, xs = [x] ∧ LenV K x H n ∧ Q (.int n) H) [.t as] s Φ := fun σ H tv tl Hd ps vs R a Q k => by
  cases a with
  | @cons v _ _ _ a1 t =>
    cases t
    obtain ⟨p, vs, rfl, hv, ha⟩ := a1
    exact ⟨_, as.length, rfl, .inr ⟨_, st_up R.e1 hv, (pair_len (ars_pair ha)).symm⟩, k _ H _ s Hd ps q R (.int _)⟩
end
end Dw

/-! raise C(), C an own class without an __init__ of its own -/
namespace L2N
open PySem PySem.Spec PyProof.Rows
open _root_.L2
section
variable {X : Cx} {C : Addr} {bmB : List Value} {B newId initId : String}
theorem pmk_own0 {x : Str} {p pos : Pos} (F : ExcBaseFacts B newId initId bmB) (q : PySem.W.excIn X.K C bmB newId = true) (gC : X.mg x = some (.ref C)) (kC : PySem.W.keepIn X.K (.ref C) = true) (r : Raises X (.ref C)) (hg : Gl X x)
    (hdb : (x == ("__debug__" : Str)) = false := by decide) : PMk X (.Call (.Name x p) [] [] pos) (fun _ H Q => Q (.ref C) none H) := by
  intro pins s σ H Q I h
  refine wpAny_Call_Name_kw (ld_glob I hg gC ?_ hdb)
  refine PySem.W.callWith_K0 I.kIn kC ?_
  show wpAny _ _ (call (.ref C) []) _ _ _
  obtain ⟨bm, N, nm, qn, bs, hdct, sn, sub, ab, col, dd, k0, k1, k2, k3, k5, mN, hC, hN, hni, T⟩ := exc_obj I.kIn q
  refine wpAny_call_exc_subT F T hC hN hni (fun h' e hm => ?_) (by show 0 ≤ sizeLine; exact Nat.zero_le _)
  exact mk_of I hm r h (I.hok.gone hm.new)
end
end L2N
namespace Dw
open PySem PySem.Spec PyProof.Rows
open _root_.L2
/-- f(e, .., k = v, ..), all written; f has defaults, but none that stand by keyword alone -/
theorem kbinds1 {K : PySem.W.Frag} {x qual : Str} {params : Arguments} {body : List Stmt} {scope : Scope} {dvs : List V} {f : Addr} {fd : FuncData} {ps : List Str} (F : FunD K x qual params body scope dvs [] f fd) (n : Nat) (ks : List Str) (g : {α : Type} → List α → List α → List α → List α) (hd : dvs ≠ [])
    (hrel : ∀ {vs ds zs : List V} {us its ws : List Value}, Vals vs us → Vals ds its → Vals zs ws → Vals (g vs ds zs) (g us its ws))
    (h : ∀ (T : Addr) (kV doc pm : Value) (an : Option Addr) (cdv ct : Value) (us its ws : List Value), us.length = n → its.length = dvs.length → ws.length = ks.length →
      ∃ k, bindArgs (PySem.W.fnOf x qual params body scope (.ref T) kV doc pm an cdv ct) ⟨us, ks.zip ws⟩ = seqItems? (.ref T) >>= k ∧ k (some its.toArray) = pure (ps.zip (g us its ws))) :
    ∃ its : List Value, KBn K fd ps n ks (fun us ws => g us its ws) (fun vs zs => g vs dvs zs) := by
  obtain ⟨oc, od, dV, kV, doc, pm, an, cdv, ct, osl, rfl, lk, hcd, hD, hK⟩ := F.ex
  rcases hD with ⟨e, _⟩ | ⟨_, T, o, its, m, rfl, lT, oT, rT⟩
  · exact absurd e hd
  · refine ⟨its, ⟨fun s us ws X l1 l2 => ?_, fun r1 r2 => hrel r1 rT r2⟩⟩
    obtain ⟨k, e1, e2⟩ := h T kV doc pm an cdv ct us its ws l1 rT.length.symm l2
    refine BindsTo.of_looks fun M => ?_
    rw [e1]
    exact looks_items X lT oT (.of_pure e2)
end Dw

/-! methods of an instance that is read only; calls that change several own cells and may raise; a box with a list in it -/
namespace Dw
open PySem PySem.Spec PyProof.Rows
open _root_.L2
section
variable {K : PySem.W.Frag} {b : B} {s s1 : S} {t : TA} {Φ : A → S → Prop} {f : Spc} {sp : Sp}
theorem ev_meth {i : Nat} {C : Addr} {m : Str} {E : XK} {fs : List (Str × PyData)} (hi : s.ss[i]? = some (some (insP K C fs))) (hl : fs.lookup m = none) (h : EV K b (tCallG sp (fun _ => E) (tCons (tVar i) t)) s Φ) : EV K b (tMeth C m sp [] E (tVar i) t) s Φ := fun σ H tv tl Hd ps R Q k => by
  obtain ⟨v, hv, ha⟩ := R.sl i _ hi
  obtain ⟨a, dx, ws, rfl, hp, hw⟩ := ha
  obtain ⟨v', hv', q⟩ := h σ H tv tl Hd ps R Q k
  rw [hv] at hv'
  cases hv'
  exact ⟨_, hv, a, dx, ws, rfl, R.e1 _ _ hp, prf_no hw hl, q⟩
/-- a call that may change the own cells π, which speak of each other alone, and may raise -/
theorem ev_callX {E : L2.St → XK} (π : List Nat) (nd : π.Nodup) (h : EA K b t s fun as s1 => ∃ i, f.args i = renAs π as ∧ okAs π as ∧ f.cells i = π.map (fun j => renC π (s1.os.getD j .dead)) ∧ (∀ j, j ∈ π → ∃ c, s1.os[j]? = some c ∧ c ≠ .dead ∧ okC π c) ∧ f.pre i ∧
      (∀ r os', f.post i r os' → os'.length = π.length → os'.all (ltC π.length) = true ∧ aft ⟨s1.ss, setAll s1.os π (os'.map (unC π))⟩ Φ r) ∧
      ∀ x os', f.xpost i x os' → os'.length = π.length → os'.all (ltC π.length) = true ∧ XOK1 K b x ⟨s1.ss, setAll s1.os π (os'.map (unC π))⟩ E) :
    EV K b (tCallG (SpB K f) E t) s Φ := fun σ H tv tl Hd ps R Q k =>
  h σ H tv tl Hd ps R _ fun vs H1 as s1 Hd1 ps1 h1 R1 a1 => by
    obtain ⟨i, ea, hoa, ec, hc, hpre, hf, hx⟩ := h1
    rw [List.append_nil]
    have hlt : ∀ j, j ∈ π → j < ps1.length := fun j hj => by
      obtain ⟨c, h1, _⟩ := hc j hj
      rw [R1.pl]
      exact (List.getElem?_eq_some_iff.mp h1).1
    have gd : ∀ j, j ∈ π → ps1[j]? = some (ps1.getD j 0) := fun j hj => by
      rw [List.getD_eq_getElem?_getD, List.getElem?_eq_getElem (hlt j hj)]
      rfl
    obtain ⟨qs, hqs⟩ : ∃ qs, qs = π.map fun j => ps1.getD j 0 := ⟨_, rfl⟩
    have ql : qs.length = π.length := by rw [hqs, List.length_map]
    have q1 : ∀ (i : Nat) j, π[i]? = some j → qs[i]? = ps1[j]? := fun i j e => by
      rw [hqs, List.getElem?_map, e, gd j (List.mem_of_getElem? e)]
      rfl
    have q2 : ∀ j, j ∈ π → qs[π.idxOf j]? = ps1[j]? := fun j hj => q1 _ _ (idx_get hj)
    have qm : ∀ p, p ∈ qs → ∃ (i : Nat) (j : Nat), π[i]? = some j ∧ ps1[j]? = some p := fun p hp => by
      rw [hqs] at hp
      obtain ⟨j, hj, rfl⟩ := List.mem_map.mp hp
      obtain ⟨i, hi⟩ := List.getElem?_of_mem hj
      exact ⟨i, j, hi, gd j hj⟩
    have qp : ∀ p, p ∈ qs → p ∈ ps1 := fun p hp => by
      obtain ⟨_, j, _, h⟩ := qm p hp
      exact List.mem_of_getElem? h
    have key : ∀ {os' : List C} {Hd' H' : Hp}, os'.length = π.length → os'.all (ltC π.length) = true → Same Hd1 Hd' → Same Hd' H' → (∀ a o, a ∉ qs → H1 a = some o → H' a = some o) → (∀ a, a ∉ qs → H1 a ≠ none → Hd1 a = none → Hd' a = none) → (∀ p, p ∈ qs → H' p ≠ none) →
        (∃ more : List Addr, ∀ (k : Nat) (c : C) (p : Addr), os'[k]? = some c → qs[k]? = some p → CRp K Hd' (qs ++ more) H' p c) → Rp K b ⟨s1.ss, setAll s1.os π (os'.map (unC π))⟩ σ H' tv tl Hd' ps1 := by
      intro os' Hd' H' el hlt' e1 e2 e3 e4 e5 e7
      obtain ⟨more, e7⟩ := e7
      refine R1.extN (fun a => a ∈ qs) qp (os2 := setAll s1.os π (os'.map (unC π))) setAll_len (fun k cc q hk hq => ?_) e1 e2 (fun a o z h => e3 a o z h) (fun a z h h' => e4 a z h h') e5
      by_cases z : k ∈ π
      · obtain ⟨i, hi⟩ := List.getElem?_of_mem z
        have il : i < os'.length := by rw [el]; exact (List.getElem?_eq_some_iff.mp hi).1
        have hi2 : (os'.map (unC π))[i]? = some (unC π os'[i]) := by rw [List.getElem?_map, List.getElem?_eq_getElem il]; rfl
        rw [setAll_in nd (fun j hj => by rw [← R1.pl]; exact hlt j hj) hi hi2] at hk
        cases hk
        have hqi : qs[i]? = some q := (q1 i k hi).trans hq
        exact .inr ⟨List.mem_of_getElem? hqi, un_cr q1 ql (List.all_eq_true.mp hlt' _ (List.getElem_mem il)) (e7 i _ q (List.getElem?_eq_getElem il) hqi)⟩
      · rw [setAll_out z] at hk
        refine .inl ⟨fun hm => z ?_, hk⟩
        obtain ⟨i, j, h1, h2⟩ := qm q hm
        have : j = k := Classical.byContradiction fun ne => nd_ne R1.nd h2 hq ne rfl
        rw [← this]
        exact List.mem_of_getElem? h1
    refine ⟨Hd1, qs, i, R1.e1, ?_, by rw [ec, List.length_map, ql], fun q hq => R1.ex q (qp q hq), fun j cc q hj hq => ?_, by rw [ea]; exact ars_pair (ren_ars q2 as vs hoa (pair_ars a1)), hpre, fun r os' hr v Hd' H' more ⟨e1, e2, e3, e4, e5, e6, e7⟩ hv => ?_, fun x os' hr d Hd' H' more ⟨e1, e2, e3, e4, e5, e6, e7⟩ hv => ?_⟩
    · rw [hqs]
      exact List.pairwise_map.mpr (List.Pairwise.imp_of_mem (fun {x y} hx hy ne => nd_ne R1.nd (gd x hx) (gd y hy) ne) nd)
    · rw [ec, List.getElem?_map] at hj
      cases e : π[j]? with
      | none => rw [e] at hj; cases hj
      | some m =>
        rw [e] at hj
        cases hj
        have hm := List.mem_of_getElem? e
        obtain ⟨c, h1, _, h3⟩ := hc m hm
        show CRp K Hd1 qs H1 q (renC π (s1.os.getD m .dead))
        rw [show s1.os.getD m .dead = c by rw [List.getD_eq_getElem?_getD, h1]; rfl]
        exact ren_cr q2 h3 (R1.cl m c q h1 ((q1 j m e).symm.trans hq))
    · have el : os'.length = π.length := by rw [e6, ec, List.length_map]
      obtain ⟨hlt', q⟩ := hf r os' hr el
      have R2 := key el hlt' e1 e2 e3 e4 e5 ⟨more, fun k c p h1 h2 => e7 k c p h1 h2⟩
      obtain ⟨a, s3, ps3, q3, R3, a3⟩ := aft_go R2 (fun p hn => ⟨fun hm => R1.ex p hm hn, none_of_same R1.e2 hn⟩) q hv
      exact k v H' a s3 Hd' ps3 q3 R3 a3
    · have el : os'.length = π.length := by rw [e6, ec, List.length_map]
      obtain ⟨hlt', q⟩ := hx x os' hr el
      have R2 := key el hlt' e1 e2 e3 e4 e5 ⟨more, fun k c p h1 h2 => e7 k c p h1 h2⟩
      exact q d σ H' tv tl Hd' ps1 R2 hv
theorem vm_extend {n : Nat} {ds es : List PyData} {y : A} (h : s.os[n]? = some (.lst ds)) (hy : Vw s y (.list es)) (hl : ds.length + es.length ≤ sizeLine) (q : Φ (.d .none) (s.put n (.lst (ds ++ es)))) : VM K b rExtend (.o n) [y] s Φ := fun σ H tv tl Hd ps v vs R a1 a2 Q k => by
  cases a2 with
  | @cons w _ _ _ c1 c2 =>
  cases c2
  obtain ⟨p, hp, rfl⟩ := a1
  obtain ⟨hn, ws, hw, ha⟩ := R.cl n _ p h hp
  obtain ⟨p2, us, rfl, hv, hd⟩ := vw_lst R c1 hy
  refine ⟨p, p2, ws, us, rfl, rfl, hw, hv, by rw [pair_len (da_paired ha), pair_len (da_paired hd)]; exact hl, ?_⟩
  exact k _ _ _ _ _ _ q (R.put h hp (fun z => nomatch z) ⟨hn, _, upd_same, paired_da (pair_app (da_paired ha) (da_paired hd))⟩) .non
theorem rep_one {n : Nat} {x : PyData} : (List.replicate n [x]).flatten = List.replicate n x := by
  induction n with
  | zero => rfl
  | succ n ih => rw [List.replicate_succ, List.flatten_cons, ih, List.replicate_succ]; rfl
end
end Dw

namespace Dw
open PySem PySem.Spec PyProof.Rows
open _root_.L2
/-- a try whose body is one of three calls -/
theorem go_tryT {K : PySem.W.Frag} {b : B} {s : S} {N : EE} {tt1 tt2 : TT} {cs : List V} {n k : Nat} {sp : Sp} {gV : List V → List V → List V} {t1 t2 tk t3 : TA} {g : TG} {l : List L2N.Hd1} {Wout : WX} (XP : Xv → S → Prop)
    (hb : ∀ b' (W : WX), (∀ x d σ H s tv ta Hd ps, XP x s → Rp K b' s σ H tv ta Hd ps → XvR K Hd d x.fs → W x.cls d σ H) → GO K b' (tIfS tt1 (tAsg (tCallSD sp cs (WE W) t1) g) (tIfS tt2 (tAsg (tCallNS n k sp gV (WE W) t2 tk) g) (tAsg (tCallS sp (WE W) t3) g))) s N)
    (hs : ∀ x s1, XP x s1 → Takers K b N x s1 l) :
    GO K b (fun D σ H => (tIfS tt1 (tAsg (tCallSD sp cs (WE (L2N.wMas K Wout D l)) t1) g) (tIfS tt2 (tAsg (tCallNS n k sp gV (WE (L2N.wMas K Wout D l)) t2 tk) g) (tAsg (tCallS sp (WE (L2N.wMas K Wout D l)) t3) g))) D σ H) s N :=
  go_tryM (tb := fun W => tIfS tt1 (tAsg (tCallSD sp cs (WE W) t1) g) (tIfS tt2 (tAsg (tCallNS n k sp gV (WE W) t2 tk) g) (tAsg (tCallS sp (WE W) t3) g))) XP hb hs
end Dw

namespace K14
open PySem
open _root_.L2
open Dw
def topS (i : Nat) : Stmt := PySem.Challenge.pw_dwellhouse_k14_path_limits.main.body.getD i (.Pass ⟨0, 0, 0, 0⟩)
abbrev s_exists : Stmt := topS 16
theorem sc_exists : FnScope ["index", "count"] ["index", "count"] (defScope s_exists) := ⟨rfl, rfl, rfl, by decide +kernel, rfl, by decide +kernel, by decide +kernel⟩
abbrev s_is_name : Stmt := topS 17
theorem sc_is_name : FnScope ["word", "character"] ["word"] (defScope s_is_name) := ⟨rfl, rfl, rfl, by decide +kernel, rfl, by decide +kernel, by decide +kernel⟩
abbrev s_is_stay : Stmt := topS 18
theorem sc_is_stay : FnScope ["condition", "clocks", "clock", "sign", "c"] ["condition", "clocks"] (defScope s_is_stay) := ⟨rfl, rfl, rfl, by decide +kernel, rfl, by decide +kernel, by decide +kernel⟩
abbrev s_is_guard : Stmt := topS 19
theorem sc_is_guard : FnScope ["condition", "clocks", "clock", "sign", "c"] ["condition", "clocks"] (defScope s_is_guard) := ⟨rfl, rfl, rfl, by decide +kernel, rfl, by decide +kernel, by decide +kernel⟩
abbrev s_are_resets : Stmt := topS 20
theorem sc_are_resets : FnScope ["resets", "clocks", "before", "clock"] ["resets", "clocks"] (defScope s_are_resets) := ⟨rfl, rfl, rfl, by decide +kernel, rfl, by decide +kernel, by decide +kernel⟩
abbrev s_is_place : Stmt := topS 21
theorem sc_is_place : FnScope ["place", "clocks", "name", "stays", "pressing", "condition"] ["place", "clocks"] (defScope s_is_place) := ⟨rfl, rfl, rfl, by decide +kernel, rfl, by decide +kernel, by decide +kernel⟩
abbrev s_is_move : Stmt := topS 22
theorem sc_is_move : FnScope ["move", "places", "clocks", "source", "target", "label", "guard", "resets", "side", "condition"] ["move", "places", "clocks"] (defScope s_is_move) := ⟨rfl, rfl, rfl, by decide +kernel, rfl, by decide +kernel, by decide +kernel⟩
abbrev s_bad_clock : Stmt := topS 23
theorem sc_bad_clock : FnScope ["clocks", "known", "index", "name"] ["clocks"] (defScope s_bad_clock) := ⟨rfl, rfl, rfl, by decide +kernel, rfl, by decide +kernel, by decide +kernel⟩
abbrev s_bad_place : Stmt := topS 24
theorem sc_bad_place : FnScope ["places", "clocks", "known", "index", "place"] ["places", "clocks"] (defScope s_bad_place) := ⟨rfl, rfl, rfl, by decide +kernel, rfl, by decide +kernel, by decide +kernel⟩
abbrev s_bad_move : Stmt := topS 25
theorem sc_bad_move : FnScope ["moves", "places", "clocks", "index", "move"] ["moves", "places", "clocks"] (defScope s_bad_move) := ⟨rfl, rfl, rfl, by decide +kernel, rfl, by decide +kernel, by decide +kernel⟩
abbrev s_bad_rush : Stmt := topS 26
theorem sc_bad_rush : FnScope ["rush", "moves", "guarded", "before", "index", "word", "move"] ["rush", "moves"] (defScope s_bad_rush) := ⟨rfl, rfl, rfl, by decide +kernel, rfl, by decide +kernel, by decide +kernel⟩
abbrev s_check_parts : Stmt := topS 27
theorem sc_check_parts : FnScope ["clocks", "places", "moves", "start", "rush", "index"] ["clocks", "places", "moves", "start", "rush"] (defScope s_check_parts) := ⟨rfl, rfl, rfl, by decide +kernel, rfl, by decide +kernel, by decide +kernel⟩
abbrev s_condition_tuples : Stmt := topS 28
theorem sc_condition_tuples : FnScope ["conditions", "condition"] ["conditions"] (defScope s_condition_tuples) := ⟨rfl, rfl, rfl, by decide +kernel, rfl, by decide +kernel, by decide +kernel⟩
abbrev s_place_tuple : Stmt := topS 29
theorem sc_place_tuple : FnScope ["place", "name", "stays", "pressing"] ["place"] (defScope s_place_tuple) := ⟨rfl, rfl, rfl, by decide +kernel, rfl, by decide +kernel, by decide +kernel⟩
abbrev s_move_tuple : Stmt := topS 30
theorem sc_move_tuple : FnScope ["move", "source", "target", "label", "guard", "resets", "side"] ["move"] (defScope s_move_tuple) := ⟨rfl, rfl, rfl, by decide +kernel, rfl, by decide +kernel, by decide +kernel⟩
abbrev s_moves_by_source : Stmt := topS 31
theorem sc_moves_by_source : FnScope ["moves", "places", "found", "index", "move", "_"] ["moves", "places"] (defScope s_moves_by_source) := ⟨rfl, rfl, rfl, by decide +kernel, rfl, by decide +kernel, by decide +kernel⟩
abbrev s_pressing_places : Stmt := topS 32
theorem sc_pressing_places : FnScope ["places", "moves", "rush", "hurried", "found", "move", "word", "place"] ["places", "moves", "rush"] (defScope s_pressing_places) := ⟨rfl, rfl, rfl, by decide +kernel, rfl, by decide +kernel, by decide +kernel⟩
abbrev s_Machine___init__ : Stmt := inClass (topS 33) 1
theorem sc_Machine___init__ : FnScope ["self", "clocks", "places", "moves", "start", "rush", "sizes", "size", "most", "place", "move"] ["self", "clocks", "places", "moves", "start", "rush"] (defScope s_Machine___init__) := ⟨rfl, rfl, rfl, by decide +kernel, rfl, by decide +kernel, by decide +kernel⟩
abbrev s_Machine_is_pressing : Stmt := inClass (topS 33) 6
theorem sc_Machine_is_pressing : FnScope ["self", "place"] ["self", "place"] (defScope s_Machine_is_pressing) := ⟨rfl, rfl, rfl, by decide +kernel, rfl, by decide +kernel, by decide +kernel⟩
abbrev s_sign_limits : Stmt := topS 15
theorem sc_sign_limits : FnScope ["clock", "sign", "c", "variable"] ["clock", "sign", "c"] (defScope s_sign_limits) := ⟨rfl, rfl, rfl, by decide +kernel, rfl, by decide +kernel, by decide +kernel⟩
abbrev s_has_move : Stmt := topS 37
theorem sc_has_move : FnScope ["machine", "move"] ["machine", "move"] (defScope s_has_move) := ⟨rfl, rfl, rfl, by decide +kernel, rfl, by decide +kernel, by decide +kernel⟩
abbrev s_check_goal : Stmt := topS 35
theorem sc_check_goal : FnScope ["machine", "goal", "places", "conditions", "place", "condition"] ["machine", "goal"] (defScope s_check_goal) := ⟨rfl, rfl, rfl, by decide +kernel, rfl, by decide +kernel, by decide +kernel⟩
abbrev s_path_places : Stmt := topS 39
theorem sc_path_places : FnScope ["machine", "path", "places", "index", "move"] ["machine", "path"] (defScope s_path_places) := ⟨rfl, rfl, rfl, by decide +kernel, rfl, by decide +kernel, by decide +kernel⟩
abbrev s_moment_limits : Stmt := topS 40
theorem sc_moment_limits : FnScope ["conditions", "moment", "zeros", "limits", "clock", "sign", "c", "left", "_", "number", "w"] ["conditions", "moment", "zeros"] (defScope s_moment_limits) := ⟨rfl, rfl, rfl, by decide +kernel, rfl, by decide +kernel, by decide +kernel⟩
abbrev s_path_limits : Stmt := topS 41
theorem sc_path_limits : FnScope ["machine", "path", "goal", "places", "zeros", "limits", "before", "place", "moment", "guard", "clock"] ["machine", "path", "goal"] (defScope s_path_limits) := ⟨rfl, rfl, rfl, by decide +kernel, rfl, by decide +kernel, by decide +kernel⟩
abbrev s__law_is_integer : Stmt := topS 43
theorem sc__law_is_integer : FnScope ["actual"] ["actual"] (defScope s__law_is_integer) := ⟨rfl, rfl, rfl, by decide +kernel, rfl, by decide +kernel, by decide +kernel⟩
abbrev s__law_box : Stmt := topS 44
theorem sc__law_box : FnScope ["script", "cell", "cells", "seed"] ["script"] (defScope s__law_box) := ⟨rfl, rfl, rfl, by decide +kernel, rfl, by decide +kernel, by decide +kernel⟩
abbrev s__law_take : Stmt := topS 45
theorem sc__law_take : FnScope ["box", "size", "great", "rest"] ["box", "size"] (defScope s__law_take) := ⟨rfl, rfl, rfl, by decide +kernel, rfl, by decide +kernel, by decide +kernel⟩
abbrev s__law_names : Stmt := topS 46
theorem sc__law_names : FnScope ["box", "count", "letters", "names", "k", "name", "turn"] ["box", "count"] (defScope s__law_names) := ⟨rfl, rfl, rfl, by decide +kernel, rfl, by decide +kernel, by decide +kernel⟩
abbrev s__law_condition : Stmt := topS 47
theorem sc__law_condition : FnScope ["box", "clocks", "scale", "sign", "number"] ["box", "clocks", "scale", "sign"] (defScope s__law_condition) := ⟨rfl, rfl, rfl, by decide +kernel, rfl, by decide +kernel, by decide +kernel⟩
abbrev s__law_stays : Stmt := topS 48
theorem sc__law_stays : FnScope ["box", "clocks", "scale", "stays", "turn", "row"] ["box", "clocks", "scale"] (defScope s__law_stays) := ⟨rfl, rfl, rfl, by decide +kernel, rfl, by decide +kernel, by decide +kernel⟩
abbrev s__law_guard : Stmt := topS 49
theorem sc__law_guard : FnScope ["box", "clocks", "scale", "rows", "turn", "sign"] ["box", "clocks", "scale"] (defScope s__law_guard) := ⟨rfl, rfl, rfl, by decide +kernel, rfl, by decide +kernel, by decide +kernel⟩
abbrev s__law_move : Stmt := topS 50
theorem sc__law_move : FnScope ["box", "k", "clocks", "scale", "count", "labels", "rush", "source", "target", "label", "guard", "resets", "clock"] ["box", "k", "clocks", "scale", "count", "labels", "rush"] (defScope s__law_move) := ⟨rfl, rfl, rfl, by decide +kernel, rfl, by decide +kernel, by decide +kernel⟩
abbrev s__law_table : Stmt := topS 51
theorem sc__law_table : FnScope ["box", "clocks", "scale", "count", "names", "k", "labels", "rush", "places", "moves", "first", "name"] ["box"] (defScope s__law_table) := ⟨rfl, rfl, rfl, by decide +kernel, rfl, by decide +kernel, by decide +kernel⟩
abbrev s__law_pressing : Stmt := topS 52
theorem sc__law_pressing : FnScope ["table", "place", "move"] ["table", "place"] (defScope s__law_pressing) := ⟨rfl, rfl, rfl, by decide +kernel, rfl, by decide +kernel, by decide +kernel⟩
abbrev s__law_rows : Stmt := topS 53
theorem sc__law_rows : FnScope ["conditions", "k", "origin", "limits", "row", "since"] ["conditions", "k", "origin"] (defScope s__law_rows) := ⟨rfl, rfl, rfl, by decide +kernel, rfl, by decide +kernel, by decide +kernel⟩
abbrev s__law_limits : Stmt := topS 54
theorem sc__law_limits : FnScope ["table", "path", "aim", "limits", "clock", "origin", "place", "k", "move"] ["table", "path", "aim"] (defScope s__law_limits) := ⟨rfl, rfl, rfl, by decide +kernel, rfl, by decide +kernel, by decide +kernel⟩
abbrev s__law_misfit : Stmt := topS 55
theorem sc__law_misfit : FnScope ["table", "path", "place", "at"] ["table", "path"] (defScope s__law_misfit) := ⟨rfl, rfl, rfl, by decide +kernel, rfl, by decide +kernel, by decide +kernel⟩
abbrev s__law_bad_aims : Stmt := topS 56
theorem sc__law_bad_aims : FnScope ["box", "table", "aim", "spots", "rows", "many", "cut", "bad", "odd", "clock", "row"] ["box", "table", "aim"] (defScope s__law_bad_aims) := ⟨rfl, rfl, rfl, by decide +kernel, rfl, by decide +kernel, by decide +kernel⟩
abbrev s__law_bad_paths : Stmt := topS 57
theorem sc__law_bad_paths : FnScope ["box", "table", "path", "many", "cut", "bad"] ["box", "table", "path"] (defScope s__law_bad_paths) := ⟨rfl, rfl, rfl, by decide +kernel, rfl, by decide +kernel, by decide +kernel⟩
abbrev s__law_path : Stmt := topS 58
theorem sc__law_path : FnScope ["box", "table", "most", "path", "place", "k", "leaving", "m"] ["box", "table", "most"] (defScope s__law_path) := ⟨rfl, rfl, rfl, by decide +kernel, rfl, by decide +kernel, by decide +kernel⟩
abbrev s__law_aim : Stmt := topS 59
theorem sc__law_aim : FnScope ["box", "table", "path", "last", "spots", "turn"] ["box", "table", "path"] (defScope s__law_aim) := ⟨rfl, rfl, rfl, by decide +kernel, rfl, by decide +kernel, by decide +kernel⟩
abbrev s__law_told : Stmt := topS 60
theorem sc__law_told : FnScope ["machine", "path", "aim", "way", "told", "e", "sound", "late"] ["machine", "path", "aim", "way"] (defScope s__law_told) := ⟨rfl, rfl, rfl, by decide +kernel, rfl, by decide +kernel, by decide +kernel⟩
abbrev s__law_due : Stmt := topS 61
theorem sc__law_due : FnScope ["table", "path", "aim", "at"] ["table", "path", "aim"] (defScope s__law_due) := ⟨rfl, rfl, rfl, by decide +kernel, rfl, by decide +kernel, by decide +kernel⟩
abbrev s__law_is_system : Stmt := topS 62
theorem sc__law_is_system : FnScope ["told", "row", "part"] ["told"] (defScope s__law_is_system) := ⟨rfl, rfl, rfl, by decide +kernel, rfl, by decide +kernel, by decide +kernel⟩
abbrev s__law_equal : Stmt := topS 63
theorem sc__law_equal : FnScope ["told", "due"] ["told", "due"] (defScope s__law_equal) := ⟨rfl, rfl, rfl, by decide +kernel, rfl, by decide +kernel, by decide +kernel⟩
abbrev s_law : Stmt := topS 64
theorem sc_law : FnScope ["script", "box", "table", "machine", "most", "path", "aim", "want", "due", "given", "told", "row", "bad", "shifted", "other", "k"] ["script"] (defScope s_law) := ⟨rfl, rfl, rfl, by decide +kernel, rfl, by decide +kernel, by decide +kernel⟩
abbrev s_TooLarge___init__ : Stmt := inClass (topS 4) 0
theorem sc_TooLarge___init__ : FnScopeS ["self", "most"] ["self", "most"] (defScope s_TooLarge___init__) := ⟨rfl, rfl, rfl, by decide +kernel, rfl, by decide +kernel, by decide +kernel, fun x h => by with_unfolding_all exact free_only (by decide +kernel) h, by decide +kernel, by decide +kernel⟩
abbrev s_BadMachine___init__ : Stmt := inClass (topS 5) 0
theorem sc_BadMachine___init__ : FnScopeS ["self", "part", "index"] ["self", "part", "index"] (defScope s_BadMachine___init__) := ⟨rfl, rfl, rfl, by decide +kernel, rfl, by decide +kernel, by decide +kernel, fun x h => by with_unfolding_all exact free_only (by decide +kernel) h, by decide +kernel, by decide +kernel⟩
abbrev s_BadPath___init__ : Stmt := inClass (topS 6) 0
theorem sc_BadPath___init__ : FnScopeS ["self", "place"] ["self", "place"] (defScope s_BadPath___init__) := ⟨rfl, rfl, rfl, by decide +kernel, rfl, by decide +kernel, by decide +kernel, fun x h => by with_unfolding_all exact free_only (by decide +kernel) h, by decide +kernel, by decide +kernel⟩
abbrev s_BadPlace___init__ : Stmt := inClass (topS 7) 0
theorem sc_BadPlace___init__ : FnScopeS ["self", "place"] ["self", "place"] (defScope s_BadPlace___init__) := ⟨rfl, rfl, rfl, by decide +kernel, rfl, by decide +kernel, by decide +kernel, fun x h => by with_unfolding_all exact free_only (by decide +kernel) h, by decide +kernel, by decide +kernel⟩
/-- what the top has left -/
structure Tx (P : Program) (K : PySem.W.Frag) (mg : Str → Option Value) where
  a_rush0 : Addr
  a_exists : Addr
  d_exists : FuncData
  F_exists : FunD K "exists" "exists" (defArgs s_exists) (defBody s_exists) (defScope s_exists) [] [] a_exists d_exists
  g_exists : mg "exists" = some (.ref a_exists)
  a_is_name : Addr
  d_is_name : FuncData
  F_is_name : FunD K "is_name" "is_name" (defArgs s_is_name) (defBody s_is_name) (defScope s_is_name) [] [] a_is_name d_is_name
  g_is_name : mg "is_name" = some (.ref a_is_name)
  a_is_stay : Addr
  d_is_stay : FuncData
  F_is_stay : FunD K "is_stay" "is_stay" (defArgs s_is_stay) (defBody s_is_stay) (defScope s_is_stay) [] [] a_is_stay d_is_stay
  g_is_stay : mg "is_stay" = some (.ref a_is_stay)
  a_is_guard : Addr
  d_is_guard : FuncData
  F_is_guard : FunD K "is_guard" "is_guard" (defArgs s_is_guard) (defBody s_is_guard) (defScope s_is_guard) [] [] a_is_guard d_is_guard
  g_is_guard : mg "is_guard" = some (.ref a_is_guard)
  a_are_resets : Addr
  d_are_resets : FuncData
  F_are_resets : FunD K "are_resets" "are_resets" (defArgs s_are_resets) (defBody s_are_resets) (defScope s_are_resets) [] [] a_are_resets d_are_resets
  g_are_resets : mg "are_resets" = some (.ref a_are_resets)
  a_is_place : Addr
  d_is_place : FuncData
  F_is_place : FunD K "is_place" "is_place" (defArgs s_is_place) (defBody s_is_place) (defScope s_is_place) [] [] a_is_place d_is_place
  g_is_place : mg "is_place" = some (.ref a_is_place)
  a_is_move : Addr
  d_is_move : FuncData
  F_is_move : FunD K "is_move" "is_move" (defArgs s_is_move) (defBody s_is_move) (defScope s_is_move) [] [] a_is_move d_is_move
  g_is_move : mg "is_move" = some (.ref a_is_move)
  a_bad_clock : Addr
  d_bad_clock : FuncData
  F_bad_clock : FunD K "bad_clock" "bad_clock" (defArgs s_bad_clock) (defBody s_bad_clock) (defScope s_bad_clock) [] [] a_bad_clock d_bad_clock
  g_bad_clock : mg "bad_clock" = some (.ref a_bad_clock)
  a_bad_place : Addr
  d_bad_place : FuncData
  F_bad_place : FunD K "bad_place" "bad_place" (defArgs s_bad_place) (defBody s_bad_place) (defScope s_bad_place) [] [] a_bad_place d_bad_place
  g_bad_place : mg "bad_place" = some (.ref a_bad_place)
  a_bad_move : Addr
  d_bad_move : FuncData
  F_bad_move : FunD K "bad_move" "bad_move" (defArgs s_bad_move) (defBody s_bad_move) (defScope s_bad_move) [] [] a_bad_move d_bad_move
  g_bad_move : mg "bad_move" = some (.ref a_bad_move)
  a_bad_rush : Addr
  d_bad_rush : FuncData
  F_bad_rush : FunD K "bad_rush" "bad_rush" (defArgs s_bad_rush) (defBody s_bad_rush) (defScope s_bad_rush) [] [] a_bad_rush d_bad_rush
  g_bad_rush : mg "bad_rush" = some (.ref a_bad_rush)
  a_check_parts : Addr
  d_check_parts : FuncData
  F_check_parts : FunD K "check_parts" "check_parts" (defArgs s_check_parts) (defBody s_check_parts) (defScope s_check_parts) [] [] a_check_parts d_check_parts
  g_check_parts : mg "check_parts" = some (.ref a_check_parts)
  a_condition_tuples : Addr
  d_condition_tuples : FuncData
  F_condition_tuples : FunD K "condition_tuples" "condition_tuples" (defArgs s_condition_tuples) (defBody s_condition_tuples) (defScope s_condition_tuples) [] [] a_condition_tuples d_condition_tuples
  g_condition_tuples : mg "condition_tuples" = some (.ref a_condition_tuples)
  a_place_tuple : Addr
  d_place_tuple : FuncData
  F_place_tuple : FunD K "place_tuple" "place_tuple" (defArgs s_place_tuple) (defBody s_place_tuple) (defScope s_place_tuple) [] [] a_place_tuple d_place_tuple
  g_place_tuple : mg "place_tuple" = some (.ref a_place_tuple)
  a_move_tuple : Addr
  d_move_tuple : FuncData
  F_move_tuple : FunD K "move_tuple" "move_tuple" (defArgs s_move_tuple) (defBody s_move_tuple) (defScope s_move_tuple) [] [] a_move_tuple d_move_tuple
  g_move_tuple : mg "move_tuple" = some (.ref a_move_tuple)
  a_moves_by_source : Addr
  d_moves_by_source : FuncData
  F_moves_by_source : FunD K "moves_by_source" "moves_by_source" (defArgs s_moves_by_source) (defBody s_moves_by_source) (defScope s_moves_by_source) [] [] a_moves_by_source d_moves_by_source
  g_moves_by_source : mg "moves_by_source" = some (.ref a_moves_by_source)
  a_pressing_places : Addr
  d_pressing_places : FuncData
  F_pressing_places : FunD K "pressing_places" "pressing_places" (defArgs s_pressing_places) (defBody s_pressing_places) (defScope s_pressing_places) [] [] a_pressing_places d_pressing_places
  g_pressing_places : mg "pressing_places" = some (.ref a_pressing_places)
  a_Machine___init__ : Addr
  d_Machine___init__ : FuncData
  F_Machine___init__ : FunD K "__init__" "Machine.__init__" (defArgs s_Machine___init__) (defBody s_Machine___init__) (defScope s_Machine___init__) [] [("start", V.int 0), ("rush", V.ref a_rush0)] a_Machine___init__ d_Machine___init__
  a_Machine_is_pressing : Addr
  d_Machine_is_pressing : FuncData
  F_Machine_is_pressing : FunD K "is_pressing" "Machine.is_pressing" (defArgs s_Machine_is_pressing) (defBody s_Machine_is_pressing) (defScope s_Machine_is_pressing) [] [] a_Machine_is_pressing d_Machine_is_pressing
  a_sign_limits : Addr
  d_sign_limits : FuncData
  F_sign_limits : FunD K "sign_limits" "sign_limits" (defArgs s_sign_limits) (defBody s_sign_limits) (defScope s_sign_limits) [] [] a_sign_limits d_sign_limits
  g_sign_limits : mg "sign_limits" = some (.ref a_sign_limits)
  a_has_move : Addr
  d_has_move : FuncData
  F_has_move : FunD K "has_move" "has_move" (defArgs s_has_move) (defBody s_has_move) (defScope s_has_move) [] [] a_has_move d_has_move
  g_has_move : mg "has_move" = some (.ref a_has_move)
  a_check_goal : Addr
  d_check_goal : FuncData
  F_check_goal : FunD K "check_goal" "check_goal" (defArgs s_check_goal) (defBody s_check_goal) (defScope s_check_goal) [] [] a_check_goal d_check_goal
  g_check_goal : mg "check_goal" = some (.ref a_check_goal)
  a_path_places : Addr
  d_path_places : FuncData
  F_path_places : FunD K "path_places" "path_places" (defArgs s_path_places) (defBody s_path_places) (defScope s_path_places) [] [] a_path_places d_path_places
  g_path_places : mg "path_places" = some (.ref a_path_places)
  a_moment_limits : Addr
  d_moment_limits : FuncData
  F_moment_limits : FunD K "moment_limits" "moment_limits" (defArgs s_moment_limits) (defBody s_moment_limits) (defScope s_moment_limits) [] [] a_moment_limits d_moment_limits
  g_moment_limits : mg "moment_limits" = some (.ref a_moment_limits)
  a_path_limits : Addr
  d_path_limits : FuncData
  F_path_limits : FunD K "path_limits" "path_limits" (defArgs s_path_limits) (defBody s_path_limits) (defScope s_path_limits) [V.non] [] a_path_limits d_path_limits
  g_path_limits : mg "path_limits" = some (.ref a_path_limits)
  a__law_is_integer : Addr
  d__law_is_integer : FuncData
  F__law_is_integer : FunD K "_law_is_integer" "_law_is_integer" (defArgs s__law_is_integer) (defBody s__law_is_integer) (defScope s__law_is_integer) [] [] a__law_is_integer d__law_is_integer
  g__law_is_integer : mg "_law_is_integer" = some (.ref a__law_is_integer)
  a__law_box : Addr
  d__law_box : FuncData
  F__law_box : FunD K "_law_box" "_law_box" (defArgs s__law_box) (defBody s__law_box) (defScope s__law_box) [] [] a__law_box d__law_box
  g__law_box : mg "_law_box" = some (.ref a__law_box)
  a__law_take : Addr
  d__law_take : FuncData
  F__law_take : FunD K "_law_take" "_law_take" (defArgs s__law_take) (defBody s__law_take) (defScope s__law_take) [] [] a__law_take d__law_take
  g__law_take : mg "_law_take" = some (.ref a__law_take)
  a__law_names : Addr
  d__law_names : FuncData
  F__law_names : FunD K "_law_names" "_law_names" (defArgs s__law_names) (defBody s__law_names) (defScope s__law_names) [] [] a__law_names d__law_names
  g__law_names : mg "_law_names" = some (.ref a__law_names)
  a__law_condition : Addr
  d__law_condition : FuncData
  F__law_condition : FunD K "_law_condition" "_law_condition" (defArgs s__law_condition) (defBody s__law_condition) (defScope s__law_condition) [] [] a__law_condition d__law_condition
  g__law_condition : mg "_law_condition" = some (.ref a__law_condition)
  a__law_stays : Addr
  d__law_stays : FuncData
  F__law_stays : FunD K "_law_stays" "_law_stays" (defArgs s__law_stays) (defBody s__law_stays) (defScope s__law_stays) [] [] a__law_stays d__law_stays
  g__law_stays : mg "_law_stays" = some (.ref a__law_stays)
  a__law_guard : Addr
  d__law_guard : FuncData
  F__law_guard : FunD K "_law_guard" "_law_guard" (defArgs s__law_guard) (defBody s__law_guard) (defScope s__law_guard) [] [] a__law_guard d__law_guard
  g__law_guard : mg "_law_guard" = some (.ref a__law_guard)
  a__law_move : Addr
  d__law_move : FuncData
  F__law_move : FunD K "_law_move" "_law_move" (defArgs s__law_move) (defBody s__law_move) (defScope s__law_move) [] [] a__law_move d__law_move
  g__law_move : mg "_law_move" = some (.ref a__law_move)
  a__law_table : Addr
  d__law_table : FuncData
  F__law_table : FunD K "_law_table" "_law_table" (defArgs s__law_table) (defBody s__law_table) (defScope s__law_table) [] [] a__law_table d__law_table
  g__law_table : mg "_law_table" = some (.ref a__law_table)
  a__law_pressing : Addr
  d__law_pressing : FuncData
  F__law_pressing : FunD K "_law_pressing" "_law_pressing" (defArgs s__law_pressing) (defBody s__law_pressing) (defScope s__law_pressing) [] [] a__law_pressing d__law_pressing
  g__law_pressing : mg "_law_pressing" = some (.ref a__law_pressing)
  a__law_rows : Addr
  d__law_rows : FuncData
  F__law_rows : FunD K "_law_rows" "_law_rows" (defArgs s__law_rows) (defBody s__law_rows) (defScope s__law_rows) [] [] a__law_rows d__law_rows
  g__law_rows : mg "_law_rows" = some (.ref a__law_rows)
  a__law_limits : Addr
  d__law_limits : FuncData
  F__law_limits : FunD K "_law_limits" "_law_limits" (defArgs s__law_limits) (defBody s__law_limits) (defScope s__law_limits) [] [] a__law_limits d__law_limits
  g__law_limits : mg "_law_limits" = some (.ref a__law_limits)
  a__law_misfit : Addr
  d__law_misfit : FuncData
  F__law_misfit : FunD K "_law_misfit" "_law_misfit" (defArgs s__law_misfit) (defBody s__law_misfit) (defScope s__law_misfit) [] [] a__law_misfit d__law_misfit
  g__law_misfit : mg "_law_misfit" = some (.ref a__law_misfit)
  a__law_bad_aims : Addr
  d__law_bad_aims : FuncData
  F__law_bad_aims : FunD K "_law_bad_aims" "_law_bad_aims" (defArgs s__law_bad_aims) (defBody s__law_bad_aims) (defScope s__law_bad_aims) [] [] a__law_bad_aims d__law_bad_aims
  g__law_bad_aims : mg "_law_bad_aims" = some (.ref a__law_bad_aims)
  a__law_bad_paths : Addr
  d__law_bad_paths : FuncData
  F__law_bad_paths : FunD K "_law_bad_paths" "_law_bad_paths" (defArgs s__law_bad_paths) (defBody s__law_bad_paths) (defScope s__law_bad_paths) [] [] a__law_bad_paths d__law_bad_paths
  g__law_bad_paths : mg "_law_bad_paths" = some (.ref a__law_bad_paths)
  a__law_path : Addr
  d__law_path : FuncData
  F__law_path : FunD K "_law_path" "_law_path" (defArgs s__law_path) (defBody s__law_path) (defScope s__law_path) [] [] a__law_path d__law_path
  g__law_path : mg "_law_path" = some (.ref a__law_path)
  a__law_aim : Addr
  d__law_aim : FuncData
  F__law_aim : FunD K "_law_aim" "_law_aim" (defArgs s__law_aim) (defBody s__law_aim) (defScope s__law_aim) [] [] a__law_aim d__law_aim
  g__law_aim : mg "_law_aim" = some (.ref a__law_aim)
  a__law_told : Addr
  d__law_told : FuncData
  F__law_told : FunD K "_law_told" "_law_told" (defArgs s__law_told) (defBody s__law_told) (defScope s__law_told) [] [] a__law_told d__law_told
  g__law_told : mg "_law_told" = some (.ref a__law_told)
  a__law_due : Addr
  d__law_due : FuncData
  F__law_due : FunD K "_law_due" "_law_due" (defArgs s__law_due) (defBody s__law_due) (defScope s__law_due) [] [] a__law_due d__law_due
  g__law_due : mg "_law_due" = some (.ref a__law_due)
  a__law_is_system : Addr
  d__law_is_system : FuncData
  F__law_is_system : FunD K "_law_is_system" "_law_is_system" (defArgs s__law_is_system) (defBody s__law_is_system) (defScope s__law_is_system) [] [] a__law_is_system d__law_is_system
  g__law_is_system : mg "_law_is_system" = some (.ref a__law_is_system)
  a__law_equal : Addr
  d__law_equal : FuncData
  F__law_equal : FunD K "_law_equal" "_law_equal" (defArgs s__law_equal) (defBody s__law_equal) (defScope s__law_equal) [] [] a__law_equal d__law_equal
  g__law_equal : mg "_law_equal" = some (.ref a__law_equal)
  a_law : Addr
  d_law : FuncData
  F_law : FunD K "law" "law" (defArgs s_law) (defBody s_law) (defScope s_law) [] [] a_law d_law
  g_law : mg "law" = some (.ref a_law)
  z_ValueError : mg "ValueError" = none
  z_all : mg "all" = none
  z_bool : mg "bool" = none
  z_enumerate : mg "enumerate" = none
  z_int : mg "int" = none
  z_isinstance : mg "isinstance" = none
  z_len : mg "len" = none
  z_list : mg "list" = none
  z_max : mg "max" = none
  z_min : mg "min" = none
  z_range : mg "range" = none
  z_reversed : mg "reversed" = none
  z_sorted : mg "sorted" = none
  z_str : mg "str" = none
  z_super : mg "super" = none
  z_tuple : mg "tuple" = none
  z_zip : mg "zip" = none
  c_TooLarge : Addr
  gc_TooLarge : mg "TooLarge" = some (.ref c_TooLarge)
  f_TooLarge : Addr
  fd_TooLarge : FuncData
  e_TooLarge : ErrI K P c_TooLarge f_TooLarge fd_TooLarge "TooLarge.__init__" (defArgs s_TooLarge___init__) (defBody s_TooLarge___init__) (defScope s_TooLarge___init__) ["most"]
  c_BadMachine : Addr
  gc_BadMachine : mg "BadMachine" = some (.ref c_BadMachine)
  f_BadMachine : Addr
  fd_BadMachine : FuncData
  e_BadMachine : ErrI K P c_BadMachine f_BadMachine fd_BadMachine "BadMachine.__init__" (defArgs s_BadMachine___init__) (defBody s_BadMachine___init__) (defScope s_BadMachine___init__) ["part", "index"]
  c_BadPath : Addr
  gc_BadPath : mg "BadPath" = some (.ref c_BadPath)
  f_BadPath : Addr
  fd_BadPath : FuncData
  e_BadPath : ErrI K P c_BadPath f_BadPath fd_BadPath "BadPath.__init__" (defArgs s_BadPath___init__) (defBody s_BadPath___init__) (defScope s_BadPath___init__) ["place"]
  c_BadPlace : Addr
  gc_BadPlace : mg "BadPlace" = some (.ref c_BadPlace)
  f_BadPlace : Addr
  fd_BadPlace : FuncData
  e_BadPlace : ErrI K P c_BadPlace f_BadPlace fd_BadPlace "BadPlace.__init__" (defArgs s_BadPlace___init__) (defBody s_BadPlace___init__) (defScope s_BadPlace___init__) ["place"]
  c_BadGoal : Addr
  gc_BadGoal : mg "BadGoal" = some (.ref c_BadGoal)
  p_BadGoal : ErrP K c_BadGoal
  c_DwellError : Addr
  gc_DwellError : mg "DwellError" = some (.ref c_DwellError)
  c_Machine : Addr
  gc_Machine : mg "Machine" = some (.ref c_Machine)
  em_BadPath_BadPath : PySem.W.exmOne K (.ref c_BadPath) (.ref c_BadPath) = some true
  em_BadGoal_BadPath : PySem.W.exmOne K (.ref c_BadGoal) (.ref c_BadPath) = some false
  em_BadGoal_BadGoal : PySem.W.exmOne K (.ref c_BadGoal) (.ref c_BadGoal) = some true
  k_BadPath_DwellError : PySem.W.kitOne K (.ref c_BadPath) (.ref c_DwellError) = some true
  k_BadPath_BadGoal : PySem.W.kitOne K (.ref c_BadPath) (.ref c_BadGoal) = some false
  k_BadPath_BadPlace : PySem.W.kitOne K (.ref c_BadPath) (.ref c_BadPlace) = some false
  k_BadGoal_DwellError : PySem.W.kitOne K (.ref c_BadGoal) (.ref c_DwellError) = some true
  kt_BadGoal_ValueError : PySem.W.kitOne K (.ref c_BadGoal) (.type "ValueError") = some true
  ec_BadPath : ExcC K c_BadPath
  ec_BadGoal : ExcC K c_BadGoal
  na_BadPath_place : PySem.W.findIn K (.ref c_BadPath) "place" = some none
  ptop : (P.main.scope.names.lookup ("super" : Str)).isSome = false
  u_LETTERS : Value
  v_LETTERS : V
  g_LETTERS : mg "LETTERS" = some u_LETTERS
  r_LETTERS : RelV v_LETTERS u_LETTERS
  u_NAME_CHARACTERS : Value
  v_NAME_CHARACTERS : V
  g_NAME_CHARACTERS : mg "NAME_CHARACTERS" = some u_NAME_CHARACTERS
  r_NAME_CHARACTERS : RelV v_NAME_CHARACTERS u_NAME_CHARACTERS
  u_LONGEST_NAME : Value
  v_LONGEST_NAME : V
  g_LONGEST_NAME : mg "LONGEST_NAME" = some u_LONGEST_NAME
  r_LONGEST_NAME : RelV v_LONGEST_NAME u_LONGEST_NAME
  u_SIGNS : Value
  v_SIGNS : V
  g_SIGNS : mg "SIGNS" = some u_SIGNS
  r_SIGNS : RelV v_SIGNS u_SIGNS
  u_STAY_SIGNS : Value
  v_STAY_SIGNS : V
  g_STAY_SIGNS : mg "STAY_SIGNS" = some u_STAY_SIGNS
  r_STAY_SIGNS : RelV v_STAY_SIGNS u_STAY_SIGNS
  u_SIDES : Value
  v_SIDES : V
  g_SIDES : mg "SIDES" = some u_SIDES
  r_SIDES : RelV v_SIDES u_SIDES
  w_LETTERS : v_LETTERS = .str "abcdefghijklmnopqrstuvwxyz"
  w_NAME_CHARACTERS : v_NAME_CHARACTERS = .str "abcdefghijklmnopqrstuvwxyz0123456789._[]"
  w_LONGEST_NAME : v_LONGEST_NAME = .int 200
  w_SIGNS : ∀ H, Dr K H v_SIGNS (.tuple [.str "<", .str "<=", .str "==", .str ">=", .str ">"])
  w_STAY_SIGNS : ∀ H, Dr K H v_STAY_SIGNS (.tuple [.str "<", .str "<="])
  w_SIDES : ∀ H, Dr K H v_SIDES (.tuple [.str "ours", .str "world"])
  mc_MOST : Value
  cr_Machine : ClX.CRead K c_Machine mc_MOST
  v_MOST : V
  u_MOST : Value
  cv_MOST : ClX.CVal K c_Machine mc_MOST "MOST" v_MOST u_MOST
  w_MOST : ∀ H, Dr K H v_MOST (.tuple [.int 8, .int 200, .int 1000])

  mk_Machine : Mk K c_Machine a_Machine___init__
  cl_Machine : Cls K c_Machine
  nf_Machine_clocks : NoAttr K c_Machine "clocks"
  nf_Machine_places : NoAttr K c_Machine "places"
  nf_Machine_moves : NoAttr K c_Machine "moves"
  nf_Machine_start : NoAttr K c_Machine "start"
  nf_Machine_rush : NoAttr K c_Machine "rush"
  nf_Machine__leaving : NoAttr K c_Machine "_leaving"
  nf_Machine__pressing : NoAttr K c_Machine "_pressing"
  mt_Machine_is_pressing : Meth K c_Machine "is_pressing" a_Machine_is_pressing
section
variable {P : Program} {w : World} {K : PySem.W.Frag} {mg : Str → Option Value} {base : Heap}
theorem b_exists {f : Addr} {fd : FuncData} (F : FunD K "exists" "exists" (defArgs s_exists) (defBody s_exists) (defScope s_exists) [] [] f fd) : Binds K fd ["index", "count"] [] := F.bindsN fun _ _ _ _ _ _ us hl => match us, hl with | [_, _], _ => rfl
theorem b_is_name {f : Addr} {fd : FuncData} (F : FunD K "is_name" "is_name" (defArgs s_is_name) (defBody s_is_name) (defScope s_is_name) [] [] f fd) : Binds K fd ["word"] [] := F.bindsN fun _ _ _ _ _ _ us hl => match us, hl with | [_], _ => rfl
theorem b_is_stay {f : Addr} {fd : FuncData} (F : FunD K "is_stay" "is_stay" (defArgs s_is_stay) (defBody s_is_stay) (defScope s_is_stay) [] [] f fd) : Binds K fd ["condition", "clocks"] [] := F.bindsN fun _ _ _ _ _ _ us hl => match us, hl with | [_, _], _ => rfl
theorem b_is_guard {f : Addr} {fd : FuncData} (F : FunD K "is_guard" "is_guard" (defArgs s_is_guard) (defBody s_is_guard) (defScope s_is_guard) [] [] f fd) : Binds K fd ["condition", "clocks"] [] := F.bindsN fun _ _ _ _ _ _ us hl => match us, hl with | [_, _], _ => rfl
theorem b_are_resets {f : Addr} {fd : FuncData} (F : FunD K "are_resets" "are_resets" (defArgs s_are_resets) (defBody s_are_resets) (defScope s_are_resets) [] [] f fd) : Binds K fd ["resets", "clocks"] [] := F.bindsN fun _ _ _ _ _ _ us hl => match us, hl with | [_, _], _ => rfl
theorem b_is_place {f : Addr} {fd : FuncData} (F : FunD K "is_place" "is_place" (defArgs s_is_place) (defBody s_is_place) (defScope s_is_place) [] [] f fd) : Binds K fd ["place", "clocks"] [] := F.bindsN fun _ _ _ _ _ _ us hl => match us, hl with | [_, _], _ => rfl
theorem b_is_move {f : Addr} {fd : FuncData} (F : FunD K "is_move" "is_move" (defArgs s_is_move) (defBody s_is_move) (defScope s_is_move) [] [] f fd) : Binds K fd ["move", "places", "clocks"] [] := F.bindsN fun _ _ _ _ _ _ us hl => match us, hl with | [_, _, _], _ => rfl
theorem b_bad_clock {f : Addr} {fd : FuncData} (F : FunD K "bad_clock" "bad_clock" (defArgs s_bad_clock) (defBody s_bad_clock) (defScope s_bad_clock) [] [] f fd) : Binds K fd ["clocks"] [] := F.bindsN fun _ _ _ _ _ _ us hl => match us, hl with | [_], _ => rfl
theorem b_bad_place {f : Addr} {fd : FuncData} (F : FunD K "bad_place" "bad_place" (defArgs s_bad_place) (defBody s_bad_place) (defScope s_bad_place) [] [] f fd) : Binds K fd ["places", "clocks"] [] := F.bindsN fun _ _ _ _ _ _ us hl => match us, hl with | [_, _], _ => rfl
theorem b_bad_move {f : Addr} {fd : FuncData} (F : FunD K "bad_move" "bad_move" (defArgs s_bad_move) (defBody s_bad_move) (defScope s_bad_move) [] [] f fd) : Binds K fd ["moves", "places", "clocks"] [] := F.bindsN fun _ _ _ _ _ _ us hl => match us, hl with | [_, _, _], _ => rfl
theorem b_bad_rush {f : Addr} {fd : FuncData} (F : FunD K "bad_rush" "bad_rush" (defArgs s_bad_rush) (defBody s_bad_rush) (defScope s_bad_rush) [] [] f fd) : Binds K fd ["rush", "moves"] [] := F.bindsN fun _ _ _ _ _ _ us hl => match us, hl with | [_, _], _ => rfl
theorem b_check_parts {f : Addr} {fd : FuncData} (F : FunD K "check_parts" "check_parts" (defArgs s_check_parts) (defBody s_check_parts) (defScope s_check_parts) [] [] f fd) : Binds K fd ["clocks", "places", "moves", "start", "rush"] [] := F.bindsN fun _ _ _ _ _ _ us hl => match us, hl with | [_, _, _, _, _], _ => rfl
theorem b_condition_tuples {f : Addr} {fd : FuncData} (F : FunD K "condition_tuples" "condition_tuples" (defArgs s_condition_tuples) (defBody s_condition_tuples) (defScope s_condition_tuples) [] [] f fd) : Binds K fd ["conditions"] [] := F.bindsN fun _ _ _ _ _ _ us hl => match us, hl with | [_], _ => rfl
theorem b_place_tuple {f : Addr} {fd : FuncData} (F : FunD K "place_tuple" "place_tuple" (defArgs s_place_tuple) (defBody s_place_tuple) (defScope s_place_tuple) [] [] f fd) : Binds K fd ["place"] [] := F.bindsN fun _ _ _ _ _ _ us hl => match us, hl with | [_], _ => rfl
theorem b_move_tuple {f : Addr} {fd : FuncData} (F : FunD K "move_tuple" "move_tuple" (defArgs s_move_tuple) (defBody s_move_tuple) (defScope s_move_tuple) [] [] f fd) : Binds K fd ["move"] [] := F.bindsN fun _ _ _ _ _ _ us hl => match us, hl with | [_], _ => rfl
theorem b_moves_by_source {f : Addr} {fd : FuncData} (F : FunD K "moves_by_source" "moves_by_source" (defArgs s_moves_by_source) (defBody s_moves_by_source) (defScope s_moves_by_source) [] [] f fd) : Binds K fd ["moves", "places"] [] := F.bindsN fun _ _ _ _ _ _ us hl => match us, hl with | [_, _], _ => rfl
theorem b_pressing_places {f : Addr} {fd : FuncData} (F : FunD K "pressing_places" "pressing_places" (defArgs s_pressing_places) (defBody s_pressing_places) (defScope s_pressing_places) [] [] f fd) : Binds K fd ["places", "moves", "rush"] [] := F.bindsN fun _ _ _ _ _ _ us hl => match us, hl with | [_, _, _], _ => rfl
theorem b_Machine_is_pressing {f : Addr} {fd : FuncData} (F : FunD K "is_pressing" "Machine.is_pressing" (defArgs s_Machine_is_pressing) (defBody s_Machine_is_pressing) (defScope s_Machine_is_pressing) [] [] f fd) : Binds K fd ["self", "place"] [] := F.bindsN fun _ _ _ _ _ _ us hl => match us, hl with | [_, _], _ => rfl
theorem b_sign_limits {f : Addr} {fd : FuncData} (F : FunD K "sign_limits" "sign_limits" (defArgs s_sign_limits) (defBody s_sign_limits) (defScope s_sign_limits) [] [] f fd) : Binds K fd ["clock", "sign", "c"] [] := F.bindsN fun _ _ _ _ _ _ us hl => match us, hl with | [_, _, _], _ => rfl
theorem b_has_move {f : Addr} {fd : FuncData} (F : FunD K "has_move" "has_move" (defArgs s_has_move) (defBody s_has_move) (defScope s_has_move) [] [] f fd) : Binds K fd ["machine", "move"] [] := F.bindsN fun _ _ _ _ _ _ us hl => match us, hl with | [_, _], _ => rfl
theorem b_check_goal {f : Addr} {fd : FuncData} (F : FunD K "check_goal" "check_goal" (defArgs s_check_goal) (defBody s_check_goal) (defScope s_check_goal) [] [] f fd) : Binds K fd ["machine", "goal"] [] := F.bindsN fun _ _ _ _ _ _ us hl => match us, hl with | [_, _], _ => rfl
theorem b_path_places {f : Addr} {fd : FuncData} (F : FunD K "path_places" "path_places" (defArgs s_path_places) (defBody s_path_places) (defScope s_path_places) [] [] f fd) : Binds K fd ["machine", "path"] [] := F.bindsN fun _ _ _ _ _ _ us hl => match us, hl with | [_, _], _ => rfl
theorem b_moment_limits {f : Addr} {fd : FuncData} (F : FunD K "moment_limits" "moment_limits" (defArgs s_moment_limits) (defBody s_moment_limits) (defScope s_moment_limits) [] [] f fd) : Binds K fd ["conditions", "moment", "zeros"] [] := F.bindsN fun _ _ _ _ _ _ us hl => match us, hl with | [_, _, _], _ => rfl
theorem b__law_is_integer {f : Addr} {fd : FuncData} (F : FunD K "_law_is_integer" "_law_is_integer" (defArgs s__law_is_integer) (defBody s__law_is_integer) (defScope s__law_is_integer) [] [] f fd) : Binds K fd ["actual"] [] := F.bindsN fun _ _ _ _ _ _ us hl => match us, hl with | [_], _ => rfl
theorem b__law_box {f : Addr} {fd : FuncData} (F : FunD K "_law_box" "_law_box" (defArgs s__law_box) (defBody s__law_box) (defScope s__law_box) [] [] f fd) : Binds K fd ["script"] [] := F.bindsN fun _ _ _ _ _ _ us hl => match us, hl with | [_], _ => rfl
theorem b__law_take {f : Addr} {fd : FuncData} (F : FunD K "_law_take" "_law_take" (defArgs s__law_take) (defBody s__law_take) (defScope s__law_take) [] [] f fd) : Binds K fd ["box", "size"] [] := F.bindsN fun _ _ _ _ _ _ us hl => match us, hl with | [_, _], _ => rfl
theorem b__law_names {f : Addr} {fd : FuncData} (F : FunD K "_law_names" "_law_names" (defArgs s__law_names) (defBody s__law_names) (defScope s__law_names) [] [] f fd) : Binds K fd ["box", "count"] [] := F.bindsN fun _ _ _ _ _ _ us hl => match us, hl with | [_, _], _ => rfl
theorem b__law_condition {f : Addr} {fd : FuncData} (F : FunD K "_law_condition" "_law_condition" (defArgs s__law_condition) (defBody s__law_condition) (defScope s__law_condition) [] [] f fd) : Binds K fd ["box", "clocks", "scale", "sign"] [] := F.bindsN fun _ _ _ _ _ _ us hl => match us, hl with | [_, _, _, _], _ => rfl
theorem b__law_stays {f : Addr} {fd : FuncData} (F : FunD K "_law_stays" "_law_stays" (defArgs s__law_stays) (defBody s__law_stays) (defScope s__law_stays) [] [] f fd) : Binds K fd ["box", "clocks", "scale"] [] := F.bindsN fun _ _ _ _ _ _ us hl => match us, hl with | [_, _, _], _ => rfl
theorem b__law_guard {f : Addr} {fd : FuncData} (F : FunD K "_law_guard" "_law_guard" (defArgs s__law_guard) (defBody s__law_guard) (defScope s__law_guard) [] [] f fd) : Binds K fd ["box", "clocks", "scale"] [] := F.bindsN fun _ _ _ _ _ _ us hl => match us, hl with | [_, _, _], _ => rfl
theorem b__law_move {f : Addr} {fd : FuncData} (F : FunD K "_law_move" "_law_move" (defArgs s__law_move) (defBody s__law_move) (defScope s__law_move) [] [] f fd) : Binds K fd ["box", "k", "clocks", "scale", "count", "labels", "rush"] [] := F.bindsN fun _ _ _ _ _ _ us hl => match us, hl with | [_, _, _, _, _, _, _], _ => rfl
theorem b__law_table {f : Addr} {fd : FuncData} (F : FunD K "_law_table" "_law_table" (defArgs s__law_table) (defBody s__law_table) (defScope s__law_table) [] [] f fd) : Binds K fd ["box"] [] := F.bindsN fun _ _ _ _ _ _ us hl => match us, hl with | [_], _ => rfl
theorem b__law_pressing {f : Addr} {fd : FuncData} (F : FunD K "_law_pressing" "_law_pressing" (defArgs s__law_pressing) (defBody s__law_pressing) (defScope s__law_pressing) [] [] f fd) : Binds K fd ["table", "place"] [] := F.bindsN fun _ _ _ _ _ _ us hl => match us, hl with | [_, _], _ => rfl
theorem b__law_rows {f : Addr} {fd : FuncData} (F : FunD K "_law_rows" "_law_rows" (defArgs s__law_rows) (defBody s__law_rows) (defScope s__law_rows) [] [] f fd) : Binds K fd ["conditions", "k", "origin"] [] := F.bindsN fun _ _ _ _ _ _ us hl => match us, hl with | [_, _, _], _ => rfl
theorem b__law_limits {f : Addr} {fd : FuncData} (F : FunD K "_law_limits" "_law_limits" (defArgs s__law_limits) (defBody s__law_limits) (defScope s__law_limits) [] [] f fd) : Binds K fd ["table", "path", "aim"] [] := F.bindsN fun _ _ _ _ _ _ us hl => match us, hl with | [_, _, _], _ => rfl
theorem b__law_misfit {f : Addr} {fd : FuncData} (F : FunD K "_law_misfit" "_law_misfit" (defArgs s__law_misfit) (defBody s__law_misfit) (defScope s__law_misfit) [] [] f fd) : Binds K fd ["table", "path"] [] := F.bindsN fun _ _ _ _ _ _ us hl => match us, hl with | [_, _], _ => rfl
theorem b__law_bad_aims {f : Addr} {fd : FuncData} (F : FunD K "_law_bad_aims" "_law_bad_aims" (defArgs s__law_bad_aims) (defBody s__law_bad_aims) (defScope s__law_bad_aims) [] [] f fd) : Binds K fd ["box", "table", "aim"] [] := F.bindsN fun _ _ _ _ _ _ us hl => match us, hl with | [_, _, _], _ => rfl
theorem b__law_bad_paths {f : Addr} {fd : FuncData} (F : FunD K "_law_bad_paths" "_law_bad_paths" (defArgs s__law_bad_paths) (defBody s__law_bad_paths) (defScope s__law_bad_paths) [] [] f fd) : Binds K fd ["box", "table", "path"] [] := F.bindsN fun _ _ _ _ _ _ us hl => match us, hl with | [_, _, _], _ => rfl
theorem b__law_path {f : Addr} {fd : FuncData} (F : FunD K "_law_path" "_law_path" (defArgs s__law_path) (defBody s__law_path) (defScope s__law_path) [] [] f fd) : Binds K fd ["box", "table", "most"] [] := F.bindsN fun _ _ _ _ _ _ us hl => match us, hl with | [_, _, _], _ => rfl
theorem b__law_aim {f : Addr} {fd : FuncData} (F : FunD K "_law_aim" "_law_aim" (defArgs s__law_aim) (defBody s__law_aim) (defScope s__law_aim) [] [] f fd) : Binds K fd ["box", "table", "path"] [] := F.bindsN fun _ _ _ _ _ _ us hl => match us, hl with | [_, _, _], _ => rfl
theorem b__law_told {f : Addr} {fd : FuncData} (F : FunD K "_law_told" "_law_told" (defArgs s__law_told) (defBody s__law_told) (defScope s__law_told) [] [] f fd) : Binds K fd ["machine", "path", "aim", "way"] [] := F.bindsN fun _ _ _ _ _ _ us hl => match us, hl with | [_, _, _, _], _ => rfl
theorem b__law_due {f : Addr} {fd : FuncData} (F : FunD K "_law_due" "_law_due" (defArgs s__law_due) (defBody s__law_due) (defScope s__law_due) [] [] f fd) : Binds K fd ["table", "path", "aim"] [] := F.bindsN fun _ _ _ _ _ _ us hl => match us, hl with | [_, _, _], _ => rfl
theorem b__law_is_system {f : Addr} {fd : FuncData} (F : FunD K "_law_is_system" "_law_is_system" (defArgs s__law_is_system) (defBody s__law_is_system) (defScope s__law_is_system) [] [] f fd) : Binds K fd ["told"] [] := F.bindsN fun _ _ _ _ _ _ us hl => match us, hl with | [_], _ => rfl
theorem b__law_equal {f : Addr} {fd : FuncData} (F : FunD K "_law_equal" "_law_equal" (defArgs s__law_equal) (defBody s__law_equal) (defScope s__law_equal) [] [] f fd) : Binds K fd ["told", "due"] [] := F.bindsN fun _ _ _ _ _ _ us hl => match us, hl with | [_, _], _ => rfl
theorem b_law {f : Addr} {fd : FuncData} (F : FunD K "law" "law" (defArgs s_law) (defBody s_law) (defScope s_law) [] [] f fd) : Binds K fd ["script"] [] := F.bindsN fun _ _ _ _ _ _ us hl => match us, hl with | [_], _ => rfl
theorem b_TooLarge___init__ {C f : Addr} {fd : FuncData} (F : FunS K P "__init__" "TooLarge.__init__" (defArgs s_TooLarge___init__) (defBody s_TooLarge___init__) (defScope s_TooLarge___init__) C f fd) : Binds K fd ["self", "most"] [] := by
  obtain ⟨_, _, _, _, _, _, _, _, _, _, rfl, _⟩ := F.ex
  exact Binds.all fun us hl => match us, hl with | [_, _], _ => rfl
theorem ok_TooLarge___init__ (T : Tx P K mg) : FnOk P w K mg base CX0 1 T.f_TooLarge T.fd_TooLarge ["self", "most"] (spE K T.c_TooLarge ["most"]) := by
  obtain ⟨oc, od, kV, doc, pm, an, cda, cc, ct, osl, e, lk, hcd, SC⟩ := T.e_TooLarge.F.ex
  rw [e] at lk ⊢
  refine fn_super (k := 0) lk hcd sc_TooLarge___init__ SC T.e_TooLarge.o T.z_super T.ptop rfl rfl (spE_len rfl) (fun _ => rfl) (fun _ => rfl) (fun _ => rfl) (fun _ => rfl) (fun _ => rfl) (fun A outer s H vs Q E hr h => ?_)
  obtain ⟨a, ws, rfl, hl, fm, ha, q⟩ := h
  match ws, hl, fm, q with
  | [v0], _, fm, q =>
  refine ⟨_, _, a, pa_cons (pe_joined (PJ.cons pe_str (PJ.cons (pe_fmt (pv 1)) PJ.nil))) pa_nil, (pss_one (ps_ost (pv 0) (pv 1))), rfl, ha, js_ok (fun t ht => ?_) (by decide) (fun out => ⟨show 1 ≤ 1000 by decide, ha, ?_⟩)⟩
  · simp only [List.mem_cons, List.not_mem_nil, or_false] at ht
    rcases ht with rfl | rfl
    · exact part_c (by decide)
    · exact part_f rfl (fm _ (by simp))
  · exact ost1 T.e_TooLarge.o (T.e_TooLarge.n _ (by simp)) rfl rfl ha fun dx h1 h2 => q dx h1 h2
theorem b_BadMachine___init__ {C f : Addr} {fd : FuncData} (F : FunS K P "__init__" "BadMachine.__init__" (defArgs s_BadMachine___init__) (defBody s_BadMachine___init__) (defScope s_BadMachine___init__) C f fd) : Binds K fd ["self", "part", "index"] [] := by
  obtain ⟨_, _, _, _, _, _, _, _, _, _, rfl, _⟩ := F.ex
  exact Binds.all fun us hl => match us, hl with | [_, _, _], _ => rfl
theorem ok_BadMachine___init__ (T : Tx P K mg) : FnOk P w K mg base CX0 1 T.f_BadMachine T.fd_BadMachine ["self", "part", "index"] (spE K T.c_BadMachine ["part", "index"]) := by
  obtain ⟨oc, od, kV, doc, pm, an, cda, cc, ct, osl, e, lk, hcd, SC⟩ := T.e_BadMachine.F.ex
  rw [e] at lk ⊢
  refine fn_super (k := 0) lk hcd sc_BadMachine___init__ SC T.e_BadMachine.o T.z_super T.ptop rfl rfl (spE_len rfl) (fun _ => rfl) (fun _ => rfl) (fun _ => rfl) (fun _ => rfl) (fun _ => rfl) (fun A outer s H vs Q E hr h => ?_)
  obtain ⟨a, ws, rfl, hl, fm, ha, q⟩ := h
  match ws, hl, fm, q with
  | [v0, v1], _, fm, q =>
  refine ⟨_, _, a, pa_cons (pe_joined (PJ.cons pe_str (PJ.cons (pe_fmt (pv 2)) (PJ.cons pe_str (PJ.cons (pe_fmt (pv 1)) (PJ.cons pe_str PJ.nil)))))) pa_nil, (pss_cons (ps_ost (pv 0) (pv 1)) (pss_one (ps_ost (pv 0) (pv 2)))), rfl, ha, js_ok (fun t ht => ?_) (by decide) (fun out => ⟨show 1 ≤ 1000 by decide, ha, ?_⟩)⟩
  · simp only [List.mem_cons, List.not_mem_nil, or_false] at ht
    rcases ht with rfl | rfl | rfl | rfl | rfl
    · exact part_c (by decide)
    · exact part_f rfl (fm _ (by simp))
    · exact part_c (by decide)
    · exact part_f rfl (fm _ (by simp))
    · exact part_c (by decide)
  · exact ost1 T.e_BadMachine.o (T.e_BadMachine.n _ (by simp)) rfl rfl ha fun dx h1 h2 => ost2 (fs := [("part", v0)]) T.e_BadMachine.o (T.e_BadMachine.n _ (by simp)) rfl rfl h2 (Nat.le_of_ble_eq_true rfl) (q dx h1 h2)
theorem b_BadPath___init__ {C f : Addr} {fd : FuncData} (F : FunS K P "__init__" "BadPath.__init__" (defArgs s_BadPath___init__) (defBody s_BadPath___init__) (defScope s_BadPath___init__) C f fd) : Binds K fd ["self", "place"] [] := by
  obtain ⟨_, _, _, _, _, _, _, _, _, _, rfl, _⟩ := F.ex
  exact Binds.all fun us hl => match us, hl with | [_, _], _ => rfl
theorem ok_BadPath___init__ (T : Tx P K mg) : FnOk P w K mg base CX0 1 T.f_BadPath T.fd_BadPath ["self", "place"] (spE K T.c_BadPath ["place"]) := by
  obtain ⟨oc, od, kV, doc, pm, an, cda, cc, ct, osl, e, lk, hcd, SC⟩ := T.e_BadPath.F.ex
  rw [e] at lk ⊢
  refine fn_super (k := 0) lk hcd sc_BadPath___init__ SC T.e_BadPath.o T.z_super T.ptop rfl rfl (spE_len rfl) (fun _ => rfl) (fun _ => rfl) (fun _ => rfl) (fun _ => rfl) (fun _ => rfl) (fun A outer s H vs Q E hr h => ?_)
  obtain ⟨a, ws, rfl, hl, fm, ha, q⟩ := h
  match ws, hl, fm, q with
  | [v0], _, fm, q =>
  refine ⟨_, _, a, pa_cons (pe_joined (PJ.cons pe_str (PJ.cons (pe_fmt (pv 1)) (PJ.cons pe_str PJ.nil)))) pa_nil, (pss_one (ps_ost (pv 0) (pv 1))), rfl, ha, js_ok (fun t ht => ?_) (by decide) (fun out => ⟨show 1 ≤ 1000 by decide, ha, ?_⟩)⟩
  · simp only [List.mem_cons, List.not_mem_nil, or_false] at ht
    rcases ht with rfl | rfl | rfl
    · exact part_c (by decide)
    · exact part_f rfl (fm _ (by simp))
    · exact part_c (by decide)
  · exact ost1 T.e_BadPath.o (T.e_BadPath.n _ (by simp)) rfl rfl ha fun dx h1 h2 => q dx h1 h2
theorem b_BadPlace___init__ {C f : Addr} {fd : FuncData} (F : FunS K P "__init__" "BadPlace.__init__" (defArgs s_BadPlace___init__) (defBody s_BadPlace___init__) (defScope s_BadPlace___init__) C f fd) : Binds K fd ["self", "place"] [] := by
  obtain ⟨_, _, _, _, _, _, _, _, _, _, rfl, _⟩ := F.ex
  exact Binds.all fun us hl => match us, hl with | [_, _], _ => rfl
theorem ok_BadPlace___init__ (T : Tx P K mg) : FnOk P w K mg base CX0 1 T.f_BadPlace T.fd_BadPlace ["self", "place"] (spE K T.c_BadPlace ["place"]) := by
  obtain ⟨oc, od, kV, doc, pm, an, cda, cc, ct, osl, e, lk, hcd, SC⟩ := T.e_BadPlace.F.ex
  rw [e] at lk ⊢
  refine fn_super (k := 0) lk hcd sc_BadPlace___init__ SC T.e_BadPlace.o T.z_super T.ptop rfl rfl (spE_len rfl) (fun _ => rfl) (fun _ => rfl) (fun _ => rfl) (fun _ => rfl) (fun _ => rfl) (fun A outer s H vs Q E hr h => ?_)
  obtain ⟨a, ws, rfl, hl, fm, ha, q⟩ := h
  match ws, hl, fm, q with
  | [v0], _, fm, q =>
  refine ⟨_, _, a, pa_cons (pe_joined (PJ.cons pe_str (PJ.cons (pe_fmt (pv 1)) (PJ.cons pe_str PJ.nil)))) pa_nil, (pss_one (ps_ost (pv 0) (pv 1))), rfl, ha, js_ok (fun t ht => ?_) (by decide) (fun out => ⟨show 1 ≤ 1000 by decide, ha, ?_⟩)⟩
  · simp only [List.mem_cons, List.not_mem_nil, or_false] at ht
    rcases ht with rfl | rfl | rfl
    · exact part_c (by decide)
    · exact part_f rfl (fm _ (by simp))
    · exact part_c (by decide)
  · exact ost1 T.e_BadPlace.o (T.e_BadPlace.n _ (by simp)) rfl rfl ha fun dx h1 h2 => q dx h1 h2
theorem Tx.kb_Machine (T : Tx P K mg) : KBn K T.d_Machine___init__ ["self", "clocks", "places", "moves", "start", "rush"] 4 ["start", "rush"] (fun us ws => us ++ ws) (fun us ws => us ++ ws) := by
  obtain ⟨_, h⟩ := T.F_Machine___init__.kbinds0 (ps := ["self", "clocks", "places", "moves", "start", "rush"]) 4 ["start", "rush"] [] (fun a _ c => a ++ c) (List.cons_ne_nil _ _) (fun _ h => nomatch h) (fun a _ c => a.append c) (fun D doc pm an cdv ct us mv ws l1 l2 l3 => match us, mv, ws, l1, l2, l3 with | [_, _, _, _], [], [_, _], _, _, _ => rfl)
  exact h
theorem b_path_limits {f : Addr} {fd : FuncData} (F : FunD K "path_limits" "path_limits" (defArgs s_path_limits) (defBody s_path_limits) (defScope s_path_limits) [V.non] [] f fd) : Binds K fd ["machine", "path", "goal"] [] := by
  obtain ⟨ds, r, h⟩ := F.binds1 (ps := ["machine", "path", "goal"]) 3 1 (List.cons_ne_nil _ _) rfl (fun T kV doc pm an cdv ct us its l1 l2 => match us, its, l1, l2 with | [_, _, _], [_], _, _ => ⟨_, rfl, by first | rfl | with_unfolding_all rfl | kernel_rfl⟩)
  cases r
  exact h
theorem bd_path_limits {f : Addr} {fd : FuncData} (F : FunD K "path_limits" "path_limits" (defArgs s_path_limits) (defBody s_path_limits) (defScope s_path_limits) [V.non] [] f fd) : ∃ ds, Vals [V.non] ds ∧ Binds K fd ["machine", "path", "goal"] ds := F.binds1 2 0 (List.cons_ne_nil _ _) rfl (fun T kV doc pm an cdv ct us its l1 l2 => match us, its, l1, l2 with | [_, _], [_], _, _ => ⟨_, rfl, by first | rfl | with_unfolding_all rfl | kernel_rfl⟩)
theorem Tx.kb_path_limits (T : Tx P K mg) : KBn K T.d_path_limits ["machine", "path", "goal"] 2 ["goal"] (fun us ws => us ++ ws) (fun us ws => us ++ ws) := by
  obtain ⟨_, h⟩ := kbinds1 T.F_path_limits 2 ["goal"] (fun a _ c => a ++ c) (List.cons_ne_nil _ _) (fun a _ c => a.append c) (fun T kV doc pm an cdv ct us its ws l1 l2 l3 => match us, its, ws, l1, l2, l3 with | [_, _], [_], [_], _, _, _ => ⟨_, rfl, by first | rfl | with_unfolding_all rfl | kernel_rfl⟩)
  exact h
end

end K14

/-! a machine's parts as data -/
namespace K14
open PySem
open Dw
open _root_.L2
/-- clock, sign, number -/
abbrev Cnd : Type := Nat × Str × Int
def cndD (c : Cnd) : PyData := .tuple [.int c.1, .str c.2.1, .int c.2.2]
def cndsD (l : List Cnd) : PyData := .tuple (l.map cndD)
structure Plc where
  name : Str
  stays : List Cnd
  press : Bool
structure Mov where
  src : Nat
  tgt : Nat
  label : Str
  guard : List Cnd
  resets : List Nat
  side : Str
def inN' (l : List Nat) : List PyData := l.map fun (n : Nat) => PyData.int n
def plcD (p : Plc) : PyData := .tuple [.str p.name, cndsD p.stays, .bool p.press]
def movD (m : Mov) : PyData := .tuple [.int m.src, .int m.tgt, .str m.label, cndsD m.guard, .tuple (inN' m.resets), .str m.side]
def sgns : List Str := ["<", "<=", "==", ">=", ">"]
def Stay (n : Nat) (c : Cnd) : Prop := c.1 < n ∧ ((c.2.1 = "<" ∧ 1 ≤ c.2.2) ∨ (c.2.1 = "<=" ∧ 0 ≤ c.2.2))
def Grd (n : Nat) (c : Cnd) : Prop := c.1 < n ∧ c.2.1 ∈ sgns ∧ 0 ≤ c.2.2
def lets : Str := "abcdefghijklmnopqrstuvwxyz"
def nmcs : Str := "abcdefghijklmnopqrstuvwxyz0123456789._[]"
/-- a name: its first sign, all of its signs, its length -/
structure Nm (w : Str) : Prop where
  len : w.length ≤ 200
  fst : ∃ c r, w.cps.toList = c :: r ∧ (c ∈ lets.cps.toList ∨ c = 91)
  all : ∀ c, c ∈ w.cps.toList → c ∈ nmcs.cps.toList
  ok : PyData.strOk w = true
theorem Nm.ne {w : Str} (h : Nm w) : (w == "") = false := by
  obtain ⟨c, r, e, _⟩ := h.fst
  refine beq_eq_false_iff_ne.mpr fun z => ?_
  rw [z] at e
  cases e
theorem signs_get {w : Str} {i : Nat} {x : PyData} (h : (signsD w)[i]? = some x) : ∃ c, c ∈ w.cps.toList ∧ x = .str ⟨#[c]⟩ := by
  unfold signsD at h
  rw [List.getElem?_map] at h
  cases e : w.cps.toList[i]? with
  | none => rw [e] at h; cases h
  | some c =>
    rw [e] at h
    exact ⟨c, List.mem_of_getElem? e, (Option.some.inj h).symm⟩
theorem inN_get {l : List Nat} {i : Nat} {x : PyData} (h : (inN' l)[i]? = some x) : ∃ k : Nat, l[i]? = some k ∧ x = .int k := by
  unfold inN' at h
  rw [List.getElem?_map] at h
  cases e : l[i]? with
  | none => rw [e] at h; cases h
  | some k =>
    rw [e] at h
    exact ⟨k, rfl, (Option.some.inj h).symm⟩
theorem inN_len {l : List Nat} : (inN' l).length = l.length := List.length_map ..
/-- the item ahead of place i, -1 if there is none -/
def bfr (l : List Nat) : Nat → Int
  | 0 => -1
  | i + 1 => ((l[i]?.getD 0 : Nat) : Int)
theorem bfr_lt {l : List Nat} (h : l.Pairwise (· < ·)) : ∀ {i k : Nat}, l[i]? = some k → bfr l i < k
  | 0, k, _ => by show (-1 : Int) < k; omega
  | i + 1, k, e => by
    obtain ⟨hl, rfl⟩ := List.getElem?_eq_some_iff.mp e
    have := List.pairwise_iff_getElem.mp h i (i + 1) (by omega) hl (by omega)
    show ((l[i]?.getD 0 : Nat) : Int) < _
    rw [List.getElem?_eq_getElem (by omega)]
    show ((l[i] : Nat) : Int) < _
    omega
theorem bfr_succ {l : List Nat} {i k : Nat} (e : l[i]? = some k) : bfr l (i + 1) = k := by
  show ((l[i]?.getD 0 : Nat) : Int) = k
  rw [e]
  rfl
theorem map_get {α : Type} {f : α → PyData} {l : List α} {i : Nat} {x : PyData} (h : (l.map f)[i]? = some x) : ∃ k, l[i]? = some k ∧ x = f k := by
  rw [List.getElem?_map] at h
  cases e : l[i]? with
  | none => rw [e] at h; cases h
  | some k =>
    rw [e] at h
    exact ⟨k, rfl, (Option.some.inj h).symm⟩
theorem take_snoc {α : Type} {f : α → PyData} {l : List α} {i : Nat} {k : α} (e : l[i]? = some k) : (l.take i).map f ++ [f k] = (l.take (i + 1)).map f := by
  rw [List.take_add_one, e, Option.toList_some, List.map_append, List.map_singleton]
/-- a condition as data -/
def gcD (c : Int × Str × Int) : PyData := .tuple [.int c.1, .str c.2.1, .int c.2.2]
def grdB (n : Nat) (c : Int × Str × Int) : Bool := decide (0 ≤ c.1 ∧ c.1 < n) && (decide (c.2.1 ∈ sgns) && decide (0 ≤ c.2.2))
theorem grdB_of {n : Nat} {c : Cnd} (h : Grd n c) : grdB n ((c.1 : Int), c.2) = true := by
  obtain ⟨h1, h2, h3⟩ := h
  unfold grdB
  rw [decide_eq_true (show (0 : Int) ≤ (c.1 : Int) ∧ (c.1 : Int) < n by omega), decide_eq_true h2, decide_eq_true h3]
  rfl
structure MovOk (k n : Nat) (m : Mov) : Prop where
  src : m.src < k
  tgt : m.tgt < k
  lab : m.label = "" ∨ Nm m.label
  grd : ∀ c, c ∈ m.guard → Grd n c
  rlt : ∀ x, x ∈ m.resets → x < n
  rpw : m.resets.Pairwise (· < ·)
  sid : m.side = "ours" ∨ m.side = "world"
end K14

namespace K14
open PySem
open Dw
open _root_.L2
section
variable {P : Program} {K : PySem.W.Frag} {mg : Str → Option Value}
theorem cLET (T : Tx P K mg) : ∀ H, Dr K H T.v_LETTERS (.str lets) := fun H => by rw [T.w_LETTERS]; exact .str _
theorem cNMC (T : Tx P K mg) : ∀ H, Dr K H T.v_NAME_CHARACTERS (.str nmcs) := fun H => by rw [T.w_NAME_CHARACTERS]; exact .str _
theorem cLON (T : Tx P K mg) : ∀ H, Dr K H T.v_LONGEST_NAME (.int 200) := fun H => by rw [T.w_LONGEST_NAME]; exact .int _
end
section
variable {K : PySem.W.Frag} {b : B} {s : S} {x y : Dw.A} {Φ : Dw.A → S → Prop} {neg : Bool}
theorem v2_inT {z : Str} {ds : List PyData} (ns : List Str) (e : ds = ns.map .str) (q : Φ (.d (.bool (if neg then !decide (z ∈ ns) else decide (z ∈ ns)))) s) : V2 K b (rInA K neg) (.d (.str z)) (.d (.tuple ds)) s Φ := by
  subst e
  exact v2_inS (.inr rfl) q
end
end K14

namespace K14
open PySem
open Dw
open _root_.L2
theorem lk_any {kvs : List (Key × PyData)} {k : Key} : (lkD kvs k).isSome = kvs.any fun kv => decide (kv.1 = k) := by
  unfold lkD
  rw [Option.isSome_map, Bool.eq_iff_iff, List.find?_isSome, List.any_eq_true]
theorem lk_put {kvs : List (Key × PyData)} {k k' : Key} {d : PyData} : (lkD (putD kvs k d) k').isSome = (decide (k' = k) || (lkD kvs k').isSome) := by
  rw [lk_any, lk_any]
  unfold putD
  split
  · rename_i h
    rw [List.any_map]
    by_cases e : k' = k
    · subst e
      rw [decide_eq_true rfl, Bool.true_or]
      rw [List.any_eq_true] at h ⊢
      obtain ⟨kv, hm, hk⟩ := h
      refine ⟨kv, hm, ?_⟩
      show decide ((if kv.1 = k' then (kv.1, d) else kv).1 = k') = true
      rw [if_pos (of_decide_eq_true hk)]
      exact hk
    · rw [decide_eq_false e, Bool.false_or]
      congr 1
      funext kv
      show decide ((if kv.1 = k then (kv.1, d) else kv).1 = k') = _
      by_cases z : kv.1 = k
      · rw [if_pos z]
      · rw [if_neg z]
  · rw [List.any_append, List.any_cons, List.any_nil, Bool.or_false, Bool.or_comm]
    congr 1
    by_cases e : k' = k
    · rw [decide_eq_true e, decide_eq_true e.symm]
    · rw [decide_eq_false e, decide_eq_false (Ne.symm e)]
theorem len_put {kvs : List (Key × PyData)} {k : Key} {d : PyData} : (putD kvs k d).length ≤ kvs.length + 1 := by
  unfold putD
  split
  · rw [List.length_map]; omega
  · rw [List.length_append]; exact Nat.le_refl _
/-- the dict has these names as its keys -/
structure KN (ns : List Str) (kvs : List (Key × PyData)) : Prop where
  has : ∀ w, (lkD kvs (.inr w)).isSome = decide (w ∈ ns)
  len : kvs.length ≤ ns.length
theorem kn_nil : KN [] [] := ⟨fun w => by simp [lkD], Nat.le_refl _⟩
theorem kn_put {ns : List Str} {kvs : List (Key × PyData)} {w : Str} {d : PyData} (h : KN ns kvs) : KN (ns ++ [w]) (putD kvs (.inr w) d) := ⟨fun u => by
  rw [lk_put, h.has]
  by_cases e : u = w
  · subst e
    rw [decide_eq_true (show (Sum.inr u : Key) = .inr u from rfl), Bool.true_or, decide_eq_true (by simp)]
  · rw [decide_eq_false (fun z : (Sum.inr u : Key) = .inr w => e (Sum.inr.inj z)), Bool.false_or]
    simp [e], by
  have := len_put (kvs := kvs) (k := .inr w) (d := d)
  have := h.len
  rw [List.length_append, List.length_singleton]
  omega⟩
theorem enm_get {α : Type} {f : α → PyData} {l : List α} {i : Nat} {x : PyData} (h : (enumD (l.map f))[i]? = some x) : ∃ k, l[i]? = some k ∧ x = .tuple [.int i, f k] := by
  rw [enumD, List.getElem?_mapIdx, List.getElem?_map] at h
  cases e : l[i]? with
  | none => rw [e] at h; cases h
  | some k =>
    rw [e] at h
    exact ⟨k, rfl, (Option.some.inj h).symm⟩
theorem enm_len {α : Type} {f : α → PyData} {l : List α} : (enumD (l.map f)).length = l.length := by
  rw [enumD, List.length_mapIdx, List.length_map]
theorem take_snoc' {α : Type} {l : List α} {i : Nat} {k : α} (e : l[i]? = some k) : l.take (i + 1) = l.take i ++ [k] := by
  rw [List.take_add_one, e]; rfl
theorem nd_take {α : Type} [DecidableEq α] {l : List α} (h : l.Nodup) {i : Nat} {k : α} (e : l[i]? = some k) : k ∉ l.take i := by
  intro hm
  obtain ⟨j, hj⟩ := List.getElem?_of_mem hm
  have hjl := (List.getElem?_eq_some_iff.mp hj).1
  rw [List.length_take] at hjl
  rw [List.getElem?_take, if_pos (by omega)] at hj
  have := (List.getElem?_inj (by omega : j < l.length) h).mp (hj.trans e.symm)
  omega
/-- the word ahead of place i -/
def bfS (l : List Str) : Nat → Str
  | 0 => ""
  | i + 1 => l[i]?.getD ""
theorem bfS_succ {l : List Str} {i : Nat} {k : Str} (e : l[i]? = some k) : bfS l (i + 1) = k := by
  show l[i]?.getD "" = k
  rw [e]
  rfl
end K14
namespace K14
open PySem
open Dw
open _root_.L2
/-- the labels of the moves with a guard -/
def glab (ms : List Mov) : List Str := (ms.filter fun m => decide (0 < m.guard.length)).map (·.label)
theorem glab_yes {ms : List Mov} {i : Nat} {m : Mov} (e : ms[i]? = some m) (h : 0 < m.guard.length) : glab (ms.take (i + 1)) = glab (ms.take i) ++ [m.label] := by
  unfold glab
  rw [take_snoc' e, List.filter_append, List.map_append]
  simp [h]
theorem glab_no {ms : List Mov} {i : Nat} {m : Mov} (e : ms[i]? = some m) (h : ¬ 0 < m.guard.length) : glab (ms.take (i + 1)) = glab (ms.take i) := by
  unfold glab
  rw [take_snoc' e, List.filter_append, List.map_append]
  have : m.guard.length = 0 := by omega
  simp [this]
theorem glab_len {ms : List Mov} : (glab ms).length ≤ ms.length := by
  unfold glab
  rw [List.length_map]
  exact List.length_filter_le ..
theorem glab_mem {ms : List Mov} {w : Str} (h : w ∈ glab ms) : ∃ m, m ∈ ms ∧ 0 < m.guard.length ∧ m.label = w := by
  unfold glab at h
  obtain ⟨m, hm, e⟩ := List.mem_map.mp h
  obtain ⟨h1, h2⟩ := List.mem_filter.mp hm
  exact ⟨m, h1, of_decide_eq_true h2, e⟩
theorem bfS_lt {l : List Str} (hp : l.Pairwise fun a b => a.cps.toList < b.cps.toList) (hn : ∀ w, w ∈ l → Nm w) : ∀ {i : Nat} {k : Str}, l[i]? = some k → (bfS l i).cps.toList < k.cps.toList
  | 0, k, e => by
    obtain ⟨c, r, e2, _⟩ := (hn k (List.mem_of_getElem? e)).fst
    show ([] : List Nat) < k.cps.toList
    rw [e2]
    exact List.Lex.nil
  | i + 1, k, e => by
    obtain ⟨hl, rfl⟩ := List.getElem?_eq_some_iff.mp e
    have := List.pairwise_iff_getElem.mp hp i (i + 1) (by omega) hl (by omega)
    show (l[i]?.getD "").cps.toList < _
    rw [List.getElem?_eq_getElem (by omega)]
    exact this
/-- the indexes of the moves that leave place p -/
def lvs (ms : List Mov) (p : Nat) : List PyData := (ms.zipIdx.filter fun x => decide (x.1.src = p)).map fun x => .int x.2
theorem lvs_snoc {ms : List Mov} {i : Nat} {m : Mov} (e : ms[i]? = some m) (p : Nat) : lvs (ms.take (i + 1)) p = lvs (ms.take i) p ++ (if m.src = p then [.int i] else []) := by
  have hil := (List.getElem?_eq_some_iff.mp e).1
  unfold lvs
  rw [take_snoc' e, List.zipIdx_append, List.filter_append, List.map_append, List.length_take, Nat.min_eq_left (by omega)]
  congr 1
  by_cases z : m.src = p
  · simp [z]
  · simp [z]
theorem lvs_len {ms : List Mov} {p : Nat} : (lvs ms p).length ≤ ms.length := by
  unfold lvs
  rw [List.length_map]
  exact Nat.le_trans (List.length_filter_le ..) (by rw [List.length_zipIdx]; exact Nat.le_refl _)
theorem set_rng {α : Type} {f : Nat → α} {n j : Nat} {c : α} : ((List.range n).map f).set j c = (List.range n).map fun p => if p = j then c else f p := by
  apply List.ext_getElem?
  intro i
  rw [List.getElem?_set, List.getElem?_map, List.getElem?_map]
  by_cases e : j = i
  · subst e
    rw [if_pos rfl, List.length_map, List.length_range]
    by_cases hn : j < n
    · rw [if_pos hn, List.getElem?_range hn]; show _ = some (if j = j then c else f j); rw [if_pos rfl]
    · rw [if_neg hn, List.getElem?_eq_none (by rw [List.length_range]; omega)]; rfl
  · rw [if_neg e]
    by_cases hn : i < n
    · rw [List.getElem?_range hn]; show some (f i) = some (if i = j then c else f i); rw [if_neg (Ne.symm e)]
    · rw [List.getElem?_eq_none (by rw [List.length_range]; omega)]; rfl
/-- place p is pressing -/
def prsB (ps : List Plc) (ms : List Mov) (r : List Str) (p : Nat) : Bool := ((ps[p]?.map (·.press)).getD false) || ms.any fun m => decide (m.src = p) && decide (m.label ∈ r)
theorem prs_snoc {ps : List Plc} {ms : List Mov} {r : List Str} {i : Nat} {m : Mov} (e : ms[i]? = some m) (p : Nat) : prsB ps (ms.take (i + 1)) r p = (prsB ps (ms.take i) r p || (decide (m.src = p) && decide (m.label ∈ r))) := by
  unfold prsB
  rw [take_snoc' e, List.any_append, Bool.or_assoc]
  simp
end K14
namespace K14
open PySem
open Dw
open _root_.L2
/-- a machine's five parts -/
structure Mch where
  clocks : List Str
  places : List Plc
  moves : List Mov
  start : Nat
  rush : List Str
abbrev strsT (l : List Str) : PyData := .tuple (l.map .str)
abbrev plcsT (l : List Plc) : PyData := .tuple (l.map plcD)
abbrev movsT (l : List Mov) : PyData := .tuple (l.map movD)
structure Mch.Ok (m : Mch) : Prop where
  cl : ∀ w, w ∈ m.clocks → Nm w
  cn : m.clocks.Nodup
  c8 : m.clocks.length ≤ 8
  p0 : 0 < m.places.length
  pl : ∀ p, p ∈ m.places → Nm p.name ∧ ∀ c, c ∈ p.stays → Stay m.clocks.length c
  pn : (m.places.map (·.name)).Nodup
  p2 : m.places.length ≤ 200
  ps : ∀ p, p ∈ m.places → p.stays.length ≤ 1000
  mv : ∀ x, x ∈ m.moves → MovOk m.places.length m.clocks.length x
  m1 : m.moves.length ≤ 1000
  mg : ∀ x, x ∈ m.moves → x.guard.length ≤ 1000
  st : m.start < m.places.length
  rn : ∀ w, w ∈ m.rush → Nm w
  rs : m.rush.Pairwise fun a b => a.cps.toList < b.cps.toList
  rg : ∀ x, x ∈ m.moves → 0 < x.guard.length → x.label ∉ m.rush
  r1 : m.rush.length ≤ 1000
/-- its fields -/
def mF (m : Mch) : List (Str × PyData) := [("clocks", strsT m.clocks), ("places", plcsT m.places), ("moves", movsT m.moves), ("start", .int m.start), ("rush", strsT m.rush),
  ("_leaving", .list ((List.range m.places.length).map fun p => .list (lvs m.moves p))), ("_pressing", .list ((List.range m.places.length).map fun p => .bool (prsB m.places m.moves m.rush p)))]
end K14

/-! paths and their limits -/
namespace K14
open PySem
open Dw
open _root_.L2
abbrev Gc : Type := Int × Str × Int
abbrev Gl : Type := List Int × List Gc
abbrev Lm4 : Type := Int × Int × Int × Int
def inL (ws : List Int) : List PyData := ws.map .int
def gcsD (l : List Gc) : PyData := .tuple (l.map gcD)
def glD (g : Gl) : PyData := .tuple [.tuple (inL g.1), .tuple (g.2.map gcD)]
def l4D (l : Lm4) : PyData := .tuple [.int l.1, .int l.2.1, .int l.2.2.1, .int l.2.2.2]
def gC (c : Cnd) : Gc := ((c.1 : Int), c.2)
theorem cndD_gC {c : Cnd} : cndD c = gcD (gC c) := rfl
theorem cnds_gC {l : List Cnd} : l.map cndD = (l.map gC).map gcD := by rw [List.map_map]; rfl
theorem inL_get {l : List Int} {i : Nat} {x : PyData} (h : (inL l)[i]? = some x) : ∃ k : Int, l[i]? = some k ∧ x = .int k := map_get h
theorem inL_len {l : List Int} : (inL l).length = l.length := List.length_map ..
theorem inL_app {a b : List Int} : inL (a ++ b) = inL a ++ inL b := List.map_append ..
/-- sign_limits -/
def sgL (k : Int) (sg : Str) (c : Int) : List Lm4 :=
  if sg = "<" then [(k + 1, 0, c, 0)] else if sg = "<=" then [(k + 1, 0, c, 1)] else if sg = "==" then [(k + 1, 0, c, 1), (0, k + 1, -c, 1)] else if sg = ">=" then [(0, k + 1, -c, 1)] else [(0, k + 1, -c, 0)]
def cvL (t z : Int) (l : Lm4) : Lm4 := if l.1 = 0 then (z, t, l.2.2.1, l.2.2.2) else (t, z, l.2.2.1, l.2.2.2)
/-- the limits of a condition that holds at the moment t, the clock's zero is z -/
def rowL (t z : Int) (sg : Str) (c : Int) : List Lm4 :=
  if sg = "<" then [(t, z, c, 0)] else if sg = "<=" then [(t, z, c, 1)] else if sg = "==" then [(t, z, c, 1), (z, t, -c, 1)] else if sg = ">=" then [(z, t, -c, 1)] else [(z, t, -c, 0)]
theorem row_sg {t z k : Int} {sg : Str} {c : Int} (h : 0 ≤ k) : (sgL k sg c).map (cvL t z) = rowL t z sg c := by
  have hk : ¬ k + 1 = 0 := by omega
  unfold sgL rowL
  split
  · simp [cvL, hk]
  split
  · simp [cvL, hk]
  split
  · simp [cvL, hk]
  split
  · simp [cvL]
  · simp [cvL]
theorem sgL_len {k : Int} {sg : Str} {c : Int} : (sgL k sg c).length ≤ 2 := by
  unfold sgL
  repeat' split
  all_goals simp
theorem rowL_len {t z : Int} {sg : Str} {c : Int} : (rowL t z sg c).length ≤ 2 := by
  unfold rowL
  repeat' split
  all_goals simp
def rowsL (t : Int) (o : List Int) (cs : List Gc) : List Lm4 := cs.flatMap fun c => rowL t (o.getD c.1.toNat 0) c.2.1 c.2.2
theorem rows_snoc {t : Int} {o : List Int} {cs : List Gc} {i : Nat} {c : Gc} (e : cs[i]? = some c) : rowsL t o (cs.take (i + 1)) = rowsL t o (cs.take i) ++ rowL t (o.getD c.1.toNat 0) c.2.1 c.2.2 := by
  unfold rowsL
  rw [take_snoc' e, List.flatMap_append, List.flatMap_singleton]
theorem rows_len {t : Int} {o : List Int} : ∀ {cs : List Gc}, (rowsL t o cs).length ≤ 2 * cs.length
  | [] => Nat.le_refl _
  | c :: cs => by
    have := rows_len (t := t) (o := o) (cs := cs)
    have := rowL_len (t := t) (z := o.getD c.1.toNat 0) (sg := c.2.1) (c := c.2.2)
    unfold rowsL at *
    rw [List.flatMap_cons, List.length_append, List.length_cons]
    omega
/-- the place behind the first j moves -/
def plA (m : Mch) (p : List Int) : Nat → Nat
  | 0 => m.start
  | j + 1 => ((m.moves[(p.getD j 0).toNat]?).map (·.tgt)).getD 0
def rsA (m : Mch) (p : List Int) (j : Nat) : List Nat := ((m.moves[(p.getD j 0).toNat]?).map (·.resets)).getD []
def gdA (m : Mch) (p : List Int) (j : Nat) : List Cnd := ((m.moves[(p.getD j 0).toNat]?).map (·.guard)).getD []
def stA (m : Mch) (p : List Int) (j : Nat) : List Cnd := ((m.places[plA m p j]?).map (·.stays)).getD []
def resetL (t : Int) (rs : List Nat) (o : List Int) : List Int := rs.foldl (fun o c => o.set c t) o
/-- the clocks' zeros behind the first j moves -/
def orA (m : Mch) (p : List Int) : Nat → List Int
  | 0 => List.replicate m.clocks.length 0
  | j + 1 => resetL ((j : Int) + 1) (rsA m p j) (orA m p j)
theorem reset_len {t : Int} : ∀ {rs : List Nat} {o : List Int}, (resetL t rs o).length = o.length
  | [], _ => rfl
  | c :: rs, o => by
    show (resetL t rs (o.set c t)).length = _
    rw [reset_len, List.length_set]
theorem reset_snoc {t : Int} {rs : List Nat} {o : List Int} {i c : Nat} (e : rs[i]? = some c) : resetL t (rs.take (i + 1)) o = (resetL t (rs.take i) o).set c t := by
  unfold resetL
  rw [take_snoc' e, List.foldl_append]
  rfl
theorem orA_len {m : Mch} {p : List Int} : ∀ {j : Nat}, (orA m p j).length = m.clocks.length
  | 0 => List.length_replicate ..
  | j + 1 => by show (resetL _ _ _).length = _; rw [reset_len, orA_len]
def prA (m : Mch) (p : List Int) (j : Nat) : Bool := prsB m.places m.moves m.rush (plA m p j)
def lm1 (m : Mch) (p : List Int) (j : Nat) : List Lm4 := ((j : Int), (j : Int) + 1, 0, 1) :: ((if prA m p j then [((j : Int) + 1, (j : Int), 0, 1)] else []) ++ rowsL ((j : Int) + 1) (orA m p j) ((stA m p j).map gC))
def lm2 (m : Mch) (p : List Int) (j : Nat) : List Lm4 := if j < p.length then rowsL ((j : Int) + 1) (orA m p j) ((gdA m p j).map gC) else []
def lmU (m : Mch) (p : List Int) : Nat → List Lm4
  | 0 => []
  | j + 1 => lmU m p j ++ lm1 m p j ++ lm2 m p j
def endA (m : Mch) (p : List Int) : Option Gl → List Lm4
  | none => []
  | some g => rowsL ((p.length : Int) + 1) (orA m p p.length) g.2
def outA (m : Mch) (p : List Int) : Option Gl → List Lm4
  | none => []
  | some g => if (plA m p p.length : Int) ∈ g.1 then [] else [(0, 0, 0, 0)]
def limA (m : Mch) (p : List Int) (g : Option Gl) : List Lm4 := lmU m p (p.length + 1) ++ endA m p g ++ outA m p g
/-- move j of the path leaves the place where it is taken -/
def FitA (m : Mch) (p : List Int) (j : Nat) : Prop := 0 ≤ p.getD j 0 ∧ ∃ x, m.moves[(p.getD j 0).toNat]? = some x ∧ x.src = plA m p j
/-- the first place that does not fit -/
structure Mis (m : Mch) (p : List Int) (a : Nat) : Prop where
  le : a ≤ p.length
  fit : ∀ j, j < a → FitA m p j
  no : a < p.length → ¬ FitA m p a
theorem Mis.uni {m : Mch} {p : List Int} {a c : Nat} (h : Mis m p a) (k : Mis m p c) : a = c := by
  rcases Nat.lt_trichotomy a c with l | l | l
  · exact absurd (k.fit a l) (h.no (by have := k.le; omega))
  · exact l
  · exact absurd (h.fit c l) (k.no (by have := h.le; omega))
theorem plA_lt {m : Mch} (ok : m.Ok) {p : List Int} : ∀ {j : Nat}, (∀ i, i < j → FitA m p i) → plA m p j < m.places.length
  | 0, _ => ok.st
  | j + 1, h => by
    obtain ⟨_, x, hx, _⟩ := h j (by omega)
    show ((m.moves[(p.getD j 0).toNat]?).map (·.tgt)).getD 0 < _
    rw [hx]
    exact (ok.mv x (List.mem_of_getElem? hx)).tgt
def goalB (m : Mch) (g : Gl) : Bool := g.1.all (fun k => decide (0 ≤ k ∧ k < (m.places.length : Int))) && g.2.all (grdB m.clocks.length)
theorem fmN {k : Nat} (h : k ≤ 1000) : FmD (.int (k : Nat)) := by
  show ((k : Int)).natAbs.log2 < 1920
  have := Nat.log2_le_self k
  rw [Int.natAbs_natCast]
  omega
theorem at_last {α : Type} {f : Nat → α} {j : Nat} : atI ((List.range (j + 1)).map f) (-1) = some (f j) := by
  unfold atI ixN
  rw [List.length_map, List.length_range, if_neg (by omega), if_pos (by omega)]
  show ((List.range (j + 1)).map f)[((-1 : Int) + ((j + 1 : Nat) : Int)).toNat]? = _
  rw [show ((-1 : Int) + ((j + 1 : Nat) : Int)).toNat = j by omega, List.getElem?_map, List.getElem?_range (by omega)]
  rfl
theorem at_last' {f : Nat → Nat} {j : Nat} : atI (inN' ((List.range (j + 1)).map f)) (-1) = some (.int (f j : Nat)) := by
  rw [inN', List.map_map]
  exact at_last
/-- an index that is no less than 0 -/
theorem at_int {α : Type} {xs : List α} {k : Int} {z : α} (h : 0 ≤ k) (e : xs[k.toNat]? = some z) : atI xs k = some z := by
  have h2 : k = ((k.toNat : Nat) : Int) := by omega
  rw [h2]
  exact atI_n e
theorem at_map {α : Type} {f : α → PyData} {xs : List α} {k : Int} {z : α} (h : 0 ≤ k) (e : xs[k.toNat]? = some z) : atI (xs.map f) k = some (f z) := at_int h (by rw [List.getElem?_map, e]; rfl)
theorem getD_of {l : List Int} {j : Nat} {k : Int} (h : l[j]? = some k) : l.getD j 0 = k := by rw [List.getD_eq_getElem?_getD, h]; rfl
theorem plA_succ {m : Mch} {p : List Int} {j : Nat} {k : Int} {x : Mov} (h : p[j]? = some k) (e : m.moves[k.toNat]? = some x) : plA m p (j + 1) = x.tgt := by
  show ((m.moves[(p.getD j 0).toNat]?).map (·.tgt)).getD 0 = _
  rw [getD_of h, e]
  rfl
theorem stay_grd {n : Nat} {c : Cnd} (h : Stay n c) : Grd n c := by
  obtain ⟨h1, h2⟩ := h
  rcases h2 with ⟨e, h3⟩ | ⟨e, h3⟩
  · exact ⟨h1, by rw [e]; decide +kernel, by omega⟩
  · exact ⟨h1, by rw [e]; decide +kernel, h3⟩
theorem gds_ok {n : Nat} {l : List Cnd} (h : ∀ c, c ∈ l → Grd n c) : ∀ c, c ∈ l.map gC → grdB n c = true := fun c hc => by
  obtain ⟨d, hd, rfl⟩ := List.mem_map.mp hc
  exact grdB_of (h d hd)
theorem ixN_n {n k : Nat} (h : k < n) : ixN n (k : Int) = some k := by
  unfold ixN
  rw [if_pos (by omega), if_pos (by omega), Int.toNat_natCast]
theorem inL_set {l : List Int} {c : Nat} {v : Int} : (inL l).set c (.int v) = inL (l.set c v) := (List.map_set ..).symm
theorem inL_rep {n : Nat} {x : Int} : List.replicate n (PyData.int x) = inL (List.replicate n x) := by rw [inL, List.map_replicate]
/-- the limits behind the first i places -/
def lmI (m : Mch) (p : List Int) (g : Option Gl) (i : Nat) : List Lm4 := lmU m p i ++ (if i = p.length + 1 then endA m p g else [])
def orI (m : Mch) (p : List Int) (i : Nat) : List Int := orA m p (min i p.length)
theorem orI_len {m : Mch} {p : List Int} {i : Nat} : (orI m p i).length = m.clocks.length := orA_len
theorem lmI_le {m : Mch} {p : List Int} {g : Option Gl} {i : Nat} (h : i ≤ p.length) : lmI m p g i = lmU m p i := by
  unfold lmI
  rw [if_neg (by omega), List.append_nil]
theorem orI_le {m : Mch} {p : List Int} {i : Nat} (h : i ≤ p.length) : orI m p i = orA m p i := by
  unfold orI
  rw [Nat.min_eq_left h]
theorem stA_len {m : Mch} (ok : m.Ok) {p : List Int} {j : Nat} : (stA m p j).length ≤ 1000 := by
  unfold stA
  cases e : m.places[plA m p j]? with
  | none => simp
  | some x => exact ok.ps x (List.mem_of_getElem? e)
theorem gdA_len {m : Mch} (ok : m.Ok) {p : List Int} {j : Nat} : (gdA m p j).length ≤ 1000 := by
  unfold gdA
  cases e : m.moves[(p.getD j 0).toNat]? with
  | none => simp
  | some x => exact ok.mg x (List.mem_of_getElem? e)
theorem lm1_len {m : Mch} (ok : m.Ok) {p : List Int} {j : Nat} : (lm1 m p j).length ≤ 2002 := by
  have h1 := rows_len (t := (j : Int) + 1) (o := orA m p j) (cs := (stA m p j).map gC)
  have h2 := stA_len ok (p := p) (j := j)
  unfold lm1
  rw [List.length_map] at h1
  rw [List.length_cons, List.length_append]
  split
  · simp; omega
  · simp; omega
theorem lm2_len {m : Mch} (ok : m.Ok) {p : List Int} {j : Nat} : (lm2 m p j).length ≤ 2000 := by
  have h1 := rows_len (t := (j : Int) + 1) (o := orA m p j) (cs := (gdA m p j).map gC)
  have h2 := gdA_len ok (p := p) (j := j)
  unfold lm2
  rw [List.length_map] at h1
  split
  · omega
  · simp
theorem lmU_len {m : Mch} (ok : m.Ok) {p : List Int} : ∀ {i : Nat}, (lmU m p i).length ≤ 4002 * i
  | 0 => Nat.le_refl _
  | i + 1 => by
    have h := lmU_len ok (p := p) (i := i)
    have h1 := lm1_len ok (p := p) (j := i)
    have h2 := lm2_len ok (p := p) (j := i)
    show (lmU m p i ++ lm1 m p i ++ lm2 m p i).length ≤ _
    rw [List.length_append, List.length_append]
    omega
theorem sts_ok {m : Mch} (ok : m.Ok) {p : List Int} {j : Nat} : ∀ c, c ∈ (stA m p j).map gC → grdB m.clocks.length c = true := by
  refine gds_ok fun c hc => ?_
  unfold stA at hc
  cases e : m.places[plA m p j]? with
  | none => rw [e] at hc; simp at hc
  | some x => rw [e] at hc; exact stay_grd ((ok.pl x (List.mem_of_getElem? e)).2 c hc)
theorem gdA_ok {m : Mch} (ok : m.Ok) {p : List Int} {j : Nat} : ∀ c, c ∈ (gdA m p j).map gC → grdB m.clocks.length c = true := by
  refine gds_ok fun c hc => ?_
  unfold gdA at hc
  cases e : m.moves[(p.getD j 0).toNat]? with
  | none => rw [e] at hc; simp at hc
  | some x => rw [e] at hc; exact (ok.mv x (List.mem_of_getElem? e)).grd c hc
def ogD : Option Gl → PyData
  | none => .none
  | some g => glD g
theorem grdB_ge {n : Nat} {c : Gc} (h : grdB n c = true) : 0 ≤ c.1 ∧ c.1 < n := by
  unfold grdB at h
  exact of_decide_eq_true (Bool.and_eq_true_iff.mp h).1
theorem grdB_sg {n : Nat} {c : Gc} (h : grdB n c = true) : c.2.1 ∈ sgns := by
  unfold grdB at h
  exact of_decide_eq_true (Bool.and_eq_true_iff.mp (Bool.and_eq_true_iff.mp h).2).1
end K14
namespace Dw
open PySem
open _root_.L2
section
variable {K : PySem.W.Frag} {b : B} {s : S} {Φ : A → S → Prop}
theorem ev_fldPV {i : Nat} {cl : Addr} {fs : List (Str × PyData)} {g : Str} {x : PyData} (hi : s.ss[i]? = some (some (insP K cl fs))) (c : Cls K cl) (n : NoAttr K cl g) (l : fs.lookup g = some x) (q : Φ (.d x) s) : EV K b (tFld K (tVar i) g) s Φ := ev_fldP (ev_var hi ⟨cl, fs, x, rfl, c, n, l, q⟩)
end
end Dw

/-! the law's box -/
namespace K14
open PySem
open Dw
open _root_.L2
theorem cmR {i j : Int} (h : -(2 ^ 64) < j ∧ j < 2 ^ 64) : CMul i j := .inr h
theorem cmL {i j : Int} (h : -(2 ^ 64) < i ∧ i < 2 ^ 64) : CMul i j := .inl h
theorem cdv {i j : Int} (h : 0 < j ∧ j < 2 ^ 63) : CDivW i j := fd64 h
theorem cpw {i j : Int} (h : 0 ≤ j ∧ j ≤ 1000000 ∧ i.natAbs < 2 ^ 64) : CPow i j := h
structure Bx where
  g : List Int
  a : Int
  b : Int
  c : Int
abbrev bxA (x : Bx) : C := .la [.o 1, .d (.int x.a), .d (.int x.b), .d (.int x.c)]
abbrev bxB (x : Bx) : C := .lst (inL x.g)
theorem cut63 (ns : List Int) : ∃ ms : List Int, cutD (ns.map .int) none (some 63) = inL ms ∧ ms.length ≤ 63 := by
  unfold cutD
  refine ⟨(ns.drop (HT.sIx (ns.map PyData.int).length 0 none)).take (HT.sIx (ns.map PyData.int).length (ns.map PyData.int).length (some 63) - HT.sIx (ns.map PyData.int).length 0 none), by rw [inL, List.map_take, List.map_drop], ?_⟩
  have e : HT.sIx (ns.map PyData.int).length (ns.map PyData.int).length (some ((63 : Nat) : Int)) = min 63 (ns.map PyData.int).length := HT.sIx_nat _ _ _
  have e2 : HT.sIx (ns.map PyData.int).length (ns.map PyData.int).length (some 63) = min 63 (ns.map PyData.int).length := e
  rw [e2, List.length_take]
  omega
mutual
theorem ren_noA {κ : List Nat} : ∀ {a : Dw.A}, noA a = true → renA κ a = a ∧ okA κ a
  | .o _, h => nomatch h
  | .d _, _ => ⟨rfl, trivial⟩
  | .p _ _, _ => ⟨rfl, trivial⟩
  | .t xs, h => ⟨congrArg Dw.A.t (ren_noO (as := xs) h).1, (ren_noO (as := xs) h).2⟩
theorem ren_noO {κ : List Nat} : ∀ {as : List Dw.A}, noO as = true → renAs κ as = as ∧ okAs κ as
  | [], _ => ⟨rfl, trivial⟩
  | a :: l, h => by
    have h : (noA a && noO l) = true := h
    obtain ⟨h1, h2⟩ := Bool.and_eq_true_iff.mp h
    obtain ⟨e1, o1⟩ := ren_noA (a := a) h1
    obtain ⟨e2, o2⟩ := ren_noO (as := l) h2
    exact ⟨by show renA κ a :: renAs κ l = _; rw [e1, e2], o1, o2⟩
end
section
variable {K : PySem.W.Frag} {b : B} {s : S} {t : TA} {Φ : Dw.A → S → Prop} {f : Spc}
/-- a call with the box ahead -/
theorem ev_box {E : L2.St → XK} (h : EA K b t s fun as s1 => ∃ i x ss cs rest, as = .o 0 :: rest ∧ s1 = ⟨ss, bxA x :: bxB x :: cs⟩ ∧ f.args i = .o 0 :: rest ∧ f.cells i = [bxA x, bxB x] ∧ noO rest = true ∧ f.pre i ∧
    (∀ r os', f.post i r os' → ∃ y, os' = [bxA y, bxB y] ∧ aft ⟨ss, bxA y :: bxB y :: cs⟩ Φ r) ∧ ∀ x os', ¬ f.xpost i x os') : EV K b (tCallG (SpB K f) E t) s Φ := by
  refine ev_callM [0, 1] (by decide) fun σ H tv tl Hd ps R Q k => h σ H tv tl Hd ps R Q fun vs H1 as s1 Hd1 ps1 h1 R1 a1 => k vs H1 as s1 Hd1 ps1 ?_ R1 a1
  obtain ⟨i, x, ss, cs, rest, rfl, rfl, e1, e2, e3, e4, e5, e6⟩ := h1
  obtain ⟨r1, r2⟩ := ren_noO (κ := [0, 1]) e3
  refine ⟨i, ?_, ⟨List.mem_cons_self, r2⟩, e2, fun j hj => ?_, e4, fun r os' hr hl => ?_, e6⟩
  · rw [e1]
    show _ = renA [0, 1] (.o 0) :: renAs [0, 1] rest
    rw [r1]
    rfl
  · rcases List.mem_cons.mp hj with rfl | hj
    · exact ⟨_, rfl, (fun z => nomatch z), ⟨show 1 ∈ [0, 1] by decide, trivial, trivial, trivial, trivial⟩⟩
    · rw [List.mem_singleton.mp hj]
      exact ⟨_, rfl, (fun z => nomatch z), trivial⟩
  · obtain ⟨y, rfl, q⟩ := e5 r os' hr
    exact ⟨rfl, q⟩
end
theorem seq_ix {i : Int} {n : Nat} (h0 : 0 ≤ i) (h1 : i < n) : seqIndex? i n = some i.toNat := by
  unfold seqIndex?
  simp
  omega
theorem gt_setAV {K : PySem.W.Frag} {b : B} {s : S} {N : S → Prop} {a : Dw.A} {i n m : Nat} {j : Int} {xs : List Dw.A} (hi : s.ss[i]? = some (some (.o n))) (ho : s.os[n]? = some (.la xs)) (hj : ixN xs.length j = some m) (q : N (s.put n (.la (xs.set m a)))) : GT K b (gSub (tVar i) (tC (.int j)) rSetL) a s N :=
  gt_setA (ev_var hi (ev_int ⟨n, xs, j, m, rfl, rfl, ho, hj, q⟩))
theorem v2_neLn {K : PySem.W.Frag} {b : B} {s : S} {x y : Dw.A} {Φ : Dw.A → S → Prop} {l : List Int} (h1 : Vw s x (.list (inL l))) (h2 : Vw s y (.list [])) (q : Φ (.d (.bool (!decide (l = [])))) s) : V2 K b (rNeD K) x y s Φ := by
  refine v2_ne h1 h2 ((shp_list (k := 0) fun z hz => ?_).shaped (by omega)) ((shp_list (k := 0) (xs := []) fun z hz => nomatch hz).shaped (by omega)) ?_
  · obtain ⟨n, _, rfl⟩ := List.mem_map.mp hz
    exact shp_int
  · have e : PyData.eqv (.list (inL l)) (.list []) = decide (l = []) := by
      cases l with
      | nil => rfl
      | cons n l => rfl
    rw [e]
    exact q
end K14
namespace K14
open PySem
open Dw
open _root_.L2
section
variable {K : PySem.W.Frag} {b : B} {s : S} {Φ : Dw.A → S → Prop}
theorem vc_min2 {i j : Int} (q : Φ (.d (.int (if j < i then j else i))) s) : VC K b (fun xs H Q => ∃ i j, xs = [.int i, .int j] ∧ Q (.int (if j < i then j else i)) H) [.d (.int i), .d (.int j)] s Φ := fun σ H tv tl Hd ps vs R a Q k => by
  cases a with
  | @cons v _ _ _ a1 t =>
    cases t with
    | @cons w _ _ _ a2 t =>
      cases t
      cases a1
      cases a2
      exact ⟨i, j, rfl, k _ H _ s Hd ps q R (.int _)⟩
end
/-- an index into a written list of ints -/
theorem at_lit (l : List Int) (lo hi : Int) {m : Int} (h : l.all (fun e => decide (lo ≤ e ∧ e ≤ hi)) = true) (h0 : 0 ≤ m) (h1 : m < l.length) : ∃ e, atI (inL l) m = some (.int e) ∧ lo ≤ e ∧ e ≤ hi := by
  have hl : m.toNat < l.length := by omega
  have := of_decide_eq_true (List.all_eq_true.mp h _ (List.getElem_mem hl))
  refine ⟨l[m.toNat], at_int h0 ?_, this.1, this.2⟩
  rw [inL, List.getElem?_map, List.getElem?_eq_getElem hl]
  rfl
theorem at_strs (l : List Str) {m : Int} (h0 : 0 ≤ m) (h1 : m < l.length) : ∃ w, w ∈ l ∧ atI (l.map PyData.str) m = some (.str w) := by
  have hl : m.toNat < l.length := by omega
  refine ⟨l[m.toNat], List.getElem_mem hl, at_int h0 ?_⟩
  rw [List.getElem?_map, List.getElem?_eq_getElem hl]
  rfl
end K14

/-! drawn names -/
namespace K14
open PySem
open Dw
open _root_.L2
abbrev l40 : Str := "abcdefghijklmnopqrstuvwxyz[0123456789._]"
theorem l40_at {m : Int} (h0 : 0 ≤ m) (h : m < 40) : ∃ c, atI l40.cps.toList m = some c ∧ c ∈ nmcs.cps.toList ∧ (m < 27 → c ∈ lets.cps.toList ∨ c = 91) := by
  have key : ∀ k : Nat, k < 40 → k < l40.cps.toList.length ∧ l40.cps.toList.getD k 0 ∈ nmcs.cps.toList ∧ (k < 27 → l40.cps.toList.getD k 0 ∈ lets.cps.toList ∨ l40.cps.toList.getD k 0 = 91) := by decide +kernel
  obtain ⟨hl, h1, h2⟩ := key m.toNat (by omega)
  refine ⟨l40.cps.toList.getD m.toNat 0, at_int h0 ?_, h1, fun h => h2 (by omega)⟩
  rw [List.getD_eq_getElem?_getD, List.getElem?_eq_getElem hl]
  rfl
structure Nw (k : Nat) (w : Str) : Prop where
  len : w.length ≤ k
  fst : ∃ c r, w.cps.toList = c :: r ∧ (c ∈ lets.cps.toList ∨ c = 91)
  all : ∀ c, c ∈ w.cps.toList → c ∈ nmcs.cps.toList
theorem nw_up {j k : Nat} {w : Str} (h : Nw j w) (l : j ≤ k) : Nw k w := ⟨Nat.le_trans h.len l, h.fst, h.all⟩
theorem nw_nm {w : Str} (h : Nw 200 w) : Nm w := ⟨h.len, h.fst, h.all, by
  have key : ∀ c, c ∈ nmcs.cps.toList → c < 0x110000 := by
    have : nmcs.cps.toList.all (· < 0x110000) = true := by decide +kernel
    intro c hc
    exact of_decide_eq_true (List.all_eq_true.mp this c hc)
  unfold PyData.strOk
  rw [Array.all_eq_true_iff_forall_mem]
  intro c hc
  exact decide_eq_true (key c (h.all c (Array.mem_toList_iff.mpr hc)))⟩
theorem app_list {a b : Str} : (a ++ b).cps.toList = a.cps.toList ++ b.cps.toList := Array.toList_append ..
theorem app_len {a b : Str} : (a ++ b).length = a.length + b.length := Array.size_append ..
theorem nw_one {c : Nat} (h : c ∈ lets.cps.toList ∨ c = 91) (h2 : c ∈ nmcs.cps.toList) : Nw 1 ⟨#[c]⟩ := ⟨Nat.le_refl 1, ⟨c, [], rfl, h⟩, fun d hd => by
  rw [List.mem_singleton.mp (show d ∈ [c] from hd)]
  exact h2⟩
theorem nw_app {j k : Nat} {w v : Str} (h : Nw k w) (hv : ∀ c, c ∈ v.cps.toList → c ∈ nmcs.cps.toList) (l : v.length ≤ j) : Nw (k + j) (w ++ v) := ⟨by
  rw [app_len]
  have := h.len
  omega, by
  obtain ⟨c, r, e, hc⟩ := h.fst
  exact ⟨c, r ++ v.cps.toList, by rw [app_list, e]; rfl, hc⟩, fun c hc => by
  rw [app_list] at hc
  rcases List.mem_append.mp hc with q | q
  · exact h.all c q
  · exact hv c q⟩
theorem nw_rep {c : Nat} (h : c ∈ (repSt "x.9_" 48).cps.toList) : c ∈ nmcs.cps.toList := by
  have : (repSt "x.9_" 48).cps.toList.all (fun c => decide (c ∈ nmcs.cps.toList)) = true := by decide +kernel
  exact of_decide_eq_true (List.all_eq_true.mp this c h)
theorem nw_q {c : Nat} (h : c ∈ ("q" : Str).cps.toList) : c ∈ nmcs.cps.toList := by
  have : ("q" : Str).cps.toList.all (fun c => decide (c ∈ nmcs.cps.toList)) = true := by decide +kernel
  exact of_decide_eq_true (List.all_eq_true.mp this c h)
theorem nw_ch {c d : Nat} (h2 : c ∈ nmcs.cps.toList) (h : d ∈ (⟨#[c]⟩ : Str).cps.toList) : d ∈ nmcs.cps.toList := by
  rw [List.mem_singleton.mp (show d ∈ [c] from h)]
  exact h2
theorem nw_cut {k : Nat} {w : Str} (h : Nw k w) : Nw 190 (cutS w none (some 190)) := by
  have e1 : HT.sIx w.length 0 none = 0 := rfl
  have e2 : HT.sIx w.length w.length (some ((190 : Nat) : Int)) = min 190 w.length := HT.sIx_nat _ _ _
  have e3 : (cutS w none (some 190)).cps.toList = w.cps.toList.take (min 190 w.length) := by
    show (((w.cps.toList.drop (HT.sIx w.length 0 none)).take (HT.sIx w.length w.length (some ((190 : Nat) : Int)) - HT.sIx w.length 0 none)).toArray).toList = _
    rw [e1, e2, List.drop_zero, Nat.sub_zero]
  obtain ⟨c, r, e, hc⟩ := h.fst
  have hw : 1 ≤ w.length := by
    show 1 ≤ w.cps.size
    rw [← Array.length_toList, e, List.length_cons]
    omega
  refine ⟨?_, ?_, fun c hc => ?_⟩
  · show (cutS w none (some 190)).cps.size ≤ _
    rw [← Array.length_toList, e3, List.length_take]
    omega
  · obtain ⟨n, hn⟩ : ∃ n, min 190 w.length = n + 1 := ⟨min 190 w.length - 1, by omega⟩
    refine ⟨c, r.take n, ?_, hc⟩
    rw [e3, e, hn, List.take_succ_cons]
  · rw [e3] at hc
    exact h.all c (List.mem_of_mem_take hc)
/-- w with j times q -/
def qs (w : Str) : Nat → Str
  | 0 => w
  | j + 1 => qs w j ++ "q"
theorem qs_len {w : Str} : ∀ {j : Nat}, (qs w j).length = w.length + j
  | 0 => rfl
  | j + 1 => by
    show (qs w j ++ "q").length = _
    rw [app_len, qs_len]
    show w.length + j + 1 = _
    omega
theorem nw_qs {k : Nat} {w : Str} (h : Nw k w) : ∀ {j : Nat}, Nw (k + j) (qs w j)
  | 0 => h
  | j + 1 => show Nw (k + j + 1) (qs w j ++ "q") from nw_app (nw_qs h (j := j)) (fun c => nw_q) (Nat.le_refl 1)
theorem nodup_le {α : Type} [DecidableEq α] : ∀ {l m : List α}, l.Nodup → (∀ x, x ∈ l → x ∈ m) → l.length ≤ m.length
  | [], _, _, _ => Nat.zero_le _
  | a :: l, m, nd, h => by
    obtain ⟨n1, n2⟩ := List.nodup_cons.mp nd
    have hm := h a List.mem_cons_self
    have := nodup_le (l := l) (m := m.erase a) n2 fun x hx => (List.mem_erase_of_ne (fun e => n1 (by rw [← e]; exact hx))).mpr (h x (List.mem_cons_of_mem _ hx))
    rw [List.length_erase_of_mem hm] at this
    have hp := List.length_pos_of_mem hm
    rw [List.length_cons]
    omega
theorem qs_out {w : Str} {ns : List Str} {n : Nat} (h : ns.length < n) : ¬ ∀ j, j < n → qs w j ∈ ns := fun hall => by
  have nd : ((List.range n).map (qs w)).Nodup := by
    refine List.pairwise_map.mpr (List.Pairwise.imp (fun {a b} ne e => ne ?_) (List.nodup_range (n := n)))
    have := congrArg Str.length e
    rw [qs_len, qs_len] at this
    omega
  have := nodup_le (m := ns) nd fun x hx => by
    obtain ⟨j, hj, rfl⟩ := List.mem_map.mp hx
    exact hall j (List.mem_range.mp hj)
  rw [List.length_map, List.length_range] at this
  omega
end K14

/-! drawn tables -/
namespace K14
open PySem
open Dw
open _root_.L2
/-- a table as data -/
def tabD (m : Mch) (sc : Int) : PyData := .list [strsT m.clocks, plcsT m.places, movsT m.moves, .int m.start, strsT m.rush, .int sc]
def pkS (k : Nat) : Str := ("p" : Str) ++ (toString ((k : Int)) : Str)
def nwB (w : Str) : Bool := decide (w.length ≤ 198) && (match w.cps.toList with | [] => false | c :: _ => decide (c ∈ lets.cps.toList ∨ c = 91)) && w.cps.toList.all fun c => decide (c ∈ nmcs.cps.toList)
theorem nwB_of {w : Str} (h : nwB w = true) : Nw 198 w := by
  unfold nwB at h
  obtain ⟨h12, h3⟩ := Bool.and_eq_true_iff.mp h
  obtain ⟨h1, h2⟩ := Bool.and_eq_true_iff.mp h12
  refine ⟨of_decide_eq_true h1, ?_, fun c hc => of_decide_eq_true (List.all_eq_true.mp h3 c hc)⟩
  cases e : w.cps.toList with
  | nil => rw [e] at h2; cases h2
  | cons c r =>
    rw [e] at h2
    exact ⟨c, r, rfl, of_decide_eq_true h2⟩
theorem pk_all : ((List.range 200).map pkS).all nwB = true := by decide +kernel
theorem pk_nodup : ((List.range 200).map fun k => (pkS k).cps.toList).Nodup := by decide +kernel
theorem pk_nw {w : Str} (h : w ∈ (List.range 200).map pkS) : Nw 198 w := nwB_of (List.all_eq_true.mp pk_all w h)
theorem pk_nd : ((List.range 200).map pkS).Nodup := by
  have h := pk_nodup
  rw [List.Nodup, List.pairwise_map] at h ⊢
  exact List.Pairwise.imp (fun ne e => ne (congrArg (fun z : Str => z.cps.toList) e)) h
theorem shp_sg {sg : Str} (h : sg ∈ sgns) : PyData.strOk sg = true := by
  simp only [sgns, List.mem_cons, List.not_mem_nil, or_false] at h
  rcases h with rfl | rfl | rfl | rfl | rfl <;> decide +kernel
theorem shp_cnd {n : Nat} {c : Cnd} (h : Grd n c) : Shp 1 (cndD c) := shp_tup fun x hx => by
  simp only [List.mem_cons, List.not_mem_nil, or_false] at hx
  rcases hx with rfl | rfl | rfl
  · exact shp_int
  · exact shp_str (shp_sg h.2.1)
  · exact shp_int
theorem shp_cnds {n : Nat} {l : List Cnd} (h : ∀ c, c ∈ l → Grd n c) : Shp 2 (cndsD l) := shp_tup fun x hx => by
  obtain ⟨c, hc, rfl⟩ := List.mem_map.mp hx
  exact shp_cnd (h c hc)
theorem shp_mov {k n : Nat} {m : Mov} (h : MovOk k n m) : Shp 3 (movD m) := shp_tup fun x hx => by
  simp only [List.mem_cons, List.not_mem_nil, or_false] at hx
  rcases hx with rfl | rfl | rfl | rfl | rfl | rfl
  · exact shp_int.up (by decide)
  · exact shp_int.up (by decide)
  · refine Shp.up (shp_str ?_) (Nat.zero_le 2)
    rcases h.lab with e | e
    · rw [e]; decide +kernel
    · exact e.ok
  · exact shp_cnds h.grd
  · refine Shp.up (shp_tup (k := 0) fun x hx => ?_) (by decide)
    obtain ⟨c, _, rfl⟩ := List.mem_map.mp hx
    exact shp_int
  · refine Shp.up (shp_str ?_) (Nat.zero_le 2)
    rcases h.sid with e | e
    · rw [e]; decide +kernel
    · rw [e]; decide +kernel
theorem v2_neE {K : PySem.W.Frag} {b : B} {s : S} {x y : Dw.A} {Φ : Dw.A → S → Prop} {xs : List PyData} {k : Nat} (hs : ∀ z, z ∈ xs → Shp k z) (hk : k < 64) (h1 : Vw s x (.list xs)) (h2 : Vw s y (.list [])) (q : Φ (.d (.bool (!xs.isEmpty))) s) : V2 K b (rNeD K) x y s Φ := by
  refine v2_ne h1 h2 ((shp_list hs).shaped (by omega)) ((shp_list (k := 0) (xs := []) fun z hz => nomatch hz).shaped (by omega)) ?_
  have e : PyData.eqv (.list xs) (.list []) = xs.isEmpty := by
    cases xs with
    | nil => rfl
    | cons n l => rfl
  rw [e]
  exact q
theorem lt_of_not {a b : List Nat} (h : PySem.Spec.ltCps b a = false) (n : a ≠ b) : a < b := by
  rw [PyProof.Rows.ltCps_eq] at h
  have h2 : a ≤ b := List.not_lt.mp (of_decide_eq_false h)
  exact Std.lt_of_le_of_ne h2 n
theorem str_ext {a b : Str} (h : a.cps.toList = b.cps.toList) : a = b := by
  cases a
  cases b
  exact congrArg Str.mk (Array.toList_inj.mp h)
theorem pw_sorted {ys : List Str} (h2 : ys.length ≤ 2) (nd : ys.Nodup) (hs : PyProof.Rows.sortedS ys = true) : ys.Pairwise fun a b => a.cps.toList < b.cps.toList := by
  match ys, h2 with
  | [], _ => exact .nil
  | [a], _ => exact List.pairwise_singleton _ _
  | [a, b], _ =>
    have h : (!PySem.Spec.ltCps b.cps.toList a.cps.toList && true) = true := hs
    rw [Bool.and_true, Bool.not_eq_true'] at h
    refine List.pairwise_cons.mpr ⟨fun c hc => ?_, List.pairwise_singleton _ _⟩
    rw [List.mem_singleton.mp hc]
    refine lt_of_not h fun e => ?_
    have := (List.nodup_cons.mp nd).1
    exact this (by rw [str_ext e]; exact List.mem_singleton_self _)
/-- what may be in rush -/
def rushes (a b c : Str) : List (List Str) := [[], [a], [a, b], [c ++ "z"], [], [], [], []]
def sssD (l : List (List Str)) : List PyData := l.map fun r => .list (r.map .str)
theorem at_rush {a b c : Str} {m : Int} (h0 : 0 ≤ m) (h1 : m < 8) (nab : a ≠ b) (ha : Nw 198 a) (hb : Nw 198 b) (hc : Nw 198 c) : ∃ r : List Str, atI (sssD (rushes a b c)) m = some (.list (r.map .str)) ∧ r.length ≤ 2 ∧ r.Nodup ∧ ∀ w, w ∈ r → Nm w := by
  have nz : Nm (c ++ "z") := nw_nm (nw_up (nw_app (j := 1) hc (fun d hd => by
    have : ("z" : Str).cps.toList.all (fun c => decide (c ∈ nmcs.cps.toList)) = true := by decide +kernel
    exact of_decide_eq_true (List.all_eq_true.mp this d hd)) (Nat.le_refl 1)) (by decide))
  have na : Nm a := nw_nm (nw_up ha (by decide))
  have nb : Nm b := nw_nm (nw_up hb (by decide))
  have hl : m.toNat < (rushes a b c).length := by show m.toNat < 8; omega
  refine ⟨(rushes a b c)[m.toNat], at_int h0 ?_, ?_⟩
  · rw [sssD, List.getElem?_map, List.getElem?_eq_getElem hl]
    rfl
  · have hm := List.getElem_mem hl
    generalize (rushes a b c)[m.toNat] = r at hm
    simp only [rushes, List.mem_cons, List.not_mem_nil, or_false] at hm
    rcases hm with rfl | rfl | rfl | rfl | rfl | rfl | rfl | rfl
    all_goals first
      | exact ⟨Nat.zero_le _, List.nodup_nil, fun w h => nomatch h⟩
      | skip
    · exact ⟨by simp, by simp, fun w h => by rw [List.mem_singleton.mp h]; exact na⟩
    · refine ⟨by simp, by simp [nab], fun w h => ?_⟩
      simp only [List.mem_cons, List.not_mem_nil, or_false] at h
      rcases h with rfl | rfl
      · exact na
      · exact nb
    · exact ⟨by simp, by simp, fun w h => by rw [List.mem_singleton.mp h]; exact nz⟩
end K14

/-! the law's own limits -/
namespace K14
open PySem
open Dw
open _root_.L2
section
variable {t z c : Int}
theorem row_lt : rowL t z "<" c = [(t, z, c, 0)] := by unfold rowL; rw [if_pos rfl]
theorem row_le : rowL t z "<=" c = [(t, z, c, 1)] := by unfold rowL; rw [if_neg (by decide +kernel), if_pos rfl]
theorem row_eq : rowL t z "==" c = [(t, z, c, 1), (z, t, -c, 1)] := by unfold rowL; rw [if_neg (by decide +kernel), if_neg (by decide +kernel), if_pos rfl]
theorem row_ge : rowL t z ">=" c = [(z, t, -c, 1)] := by unfold rowL; rw [if_neg (by decide +kernel), if_neg (by decide +kernel), if_neg (by decide +kernel), if_pos rfl]
theorem row_gt : rowL t z ">" c = [(z, t, -c, 0)] := by unfold rowL; rw [if_neg (by decide +kernel), if_neg (by decide +kernel), if_neg (by decide +kernel), if_neg (by decide +kernel)]
end
def hitB (r : List Str) (p : Nat) (m : Mov) : Bool := decide (m.src = p) && decide (m.label ∈ r)
theorem prs_def {ps : List Plc} {ms : List Mov} {r : List Str} {p : Nat} {x : Plc} (h : ps[p]? = some x) : prsB ps ms r p = (x.press || ms.any (hitB r p)) := by
  unfold prsB
  rw [h]
  rfl
theorem any_snoc {ms : List Mov} {f : Mov → Bool} {i : Nat} {m : Mov} (e : ms[i]? = some m) : (ms.take (i + 1)).any f = ((ms.take i).any f || f m) := by
  rw [take_snoc' e, List.any_append]
  simp
end K14
namespace K14
open PySem
open Dw
open _root_.L2
theorem v2_eqE {K : PySem.W.Frag} {b : B} {s : S} {x y : Dw.A} {Φ : Dw.A → S → Prop} {xs : List PyData} {k : Nat} (hs : ∀ z, z ∈ xs → Shp k z) (hk : k < 64) (h1 : Vw s x (.list xs)) (h2 : Vw s y (.list [])) (q : Φ (.d (.bool xs.isEmpty)) s) : V2 K b (rEqD K) x y s Φ := by
  refine v2_eq h1 h2 ((shp_list hs).shaped (by omega)) ((shp_list (k := 0) (xs := []) fun z hz => nomatch hz).shaped (by omega)) ?_
  have e : PyData.eqv (.list xs) (.list []) = xs.isEmpty := by
    cases xs with
    | nil => rfl
    | cons n l => rfl
  rw [e]
  exact q
theorem shp_inN {l : List Nat} : ∀ z, z ∈ inN' l → Shp 0 z := fun z hz => by
  obtain ⟨c, _, rfl⟩ := List.mem_map.mp hz
  exact shp_int
theorem shp_inL {l : List Int} : ∀ z, z ∈ inL l → Shp 0 z := fun z hz => by
  obtain ⟨c, _, rfl⟩ := List.mem_map.mp hz
  exact shp_int
/-- a cell behind the box and a path -/
theorem cell3 {y : Bx} {c : C} {cs : List C} {d : C} : (bxA y :: bxB y :: c :: (cs ++ [d]))[cs.length + 3]? = some d := by simp
theorem fit_app {m : Mch} {p : List Int} {k : Int} {j : Nat} (h : j < p.length) : FitA m (p ++ [k]) j ↔ FitA m p j := by
  have e1 : (p ++ [k]).getD j 0 = p.getD j 0 := by rw [List.getD_eq_getElem?_getD, List.getD_eq_getElem?_getD, List.getElem?_append_left h]
  have e2 : ∀ i, i ≤ p.length → plA m (p ++ [k]) i = plA m p i := fun i hi => by
    cases i with
    | zero => rfl
    | succ i =>
      show ((m.moves[((p ++ [k]).getD i 0).toNat]?).map (·.tgt)).getD 0 = ((m.moves[(p.getD i 0).toNat]?).map (·.tgt)).getD 0
      rw [List.getD_eq_getElem?_getD, List.getD_eq_getElem?_getD, List.getElem?_append_left (by omega)]
  unfold FitA
  rw [e1, e2 j (by omega)]
theorem pl_app {m : Mch} {p : List Int} {k : Int} : ∀ {i : Nat}, i ≤ p.length → plA m (p ++ [k]) i = plA m p i
  | 0, _ => rfl
  | i + 1, h => by
    show ((m.moves[((p ++ [k]).getD i 0).toNat]?).map (·.tgt)).getD 0 = ((m.moves[(p.getD i 0).toNat]?).map (·.tgt)).getD 0
    rw [List.getD_eq_getElem?_getD, List.getD_eq_getElem?_getD, List.getElem?_append_left (by omega)]
/-- a move more -/
theorem fits_snoc {m : Mch} {p : List Int} {q : Nat} {x : Mov} (h : ∀ j, j < p.length → FitA m p j) (hx : m.moves[q]? = some x) (hs : x.src = plA m p p.length) : (∀ j, j < (p ++ [(q : Int)]).length → FitA m (p ++ [(q : Int)]) j) ∧ plA m (p ++ [(q : Int)]) (p ++ [(q : Int)]).length = x.tgt := by
  have e : (p ++ [(q : Int)])[p.length]? = some (q : Int) := by simp
  refine ⟨fun j hj => ?_, ?_⟩
  · rw [List.length_append, List.length_singleton] at hj
    by_cases z : j < p.length
    · exact (fit_app z).mpr (h j z)
    · obtain rfl : j = p.length := by omega
      refine ⟨by rw [getD_of e]; omega, x, by rw [getD_of e]; exact hx, by rw [pl_app (Nat.le_refl _)]; exact hs⟩
  · rw [List.length_append, List.length_singleton]
    exact plA_succ e hx
theorem at_lastI {p : List Int} {k : Int} : atI (inL (p ++ [k])) (-1) = some (.int k) := by
  unfold atI ixN
  rw [inL_len, List.length_append, List.length_singleton, if_neg (by omega), if_pos (by omega)]
  show (inL (p ++ [k]))[((-1 : Int) + ((p.length + 1 : Nat) : Int)).toNat]? = _
  rw [show ((-1 : Int) + ((p.length + 1 : Nat) : Int)).toNat = p.length by omega, inL, List.getElem?_map]
  simp
end K14
namespace K14
open PySem
open Dw
theorem set3 {a c d e f : C} {cs : List C} : (a :: c :: d :: (cs ++ [e])).set (cs.length + 3) f = a :: c :: d :: (cs ++ [f]) := by
  show a :: c :: d :: (cs ++ [e]).set cs.length f = _
  rw [List.set_append_right _ _ (Nat.le_refl _), Nat.sub_self]
  rfl
end K14
namespace K14
theorem nil_snoc (p : List Int) : p = [] ∨ ∃ q k, p = q ++ [k] := by
  rcases List.eq_nil_or_concat p with h | ⟨q, k, h⟩
  · exact .inl h
  · exact .inr ⟨q, k, by rw [h, List.concat_eq_append]⟩
end K14
namespace K14
open PySem
open Dw
open _root_.L2
theorem cutM {α : Type} {f : α → PyData} (l : List α) (lo hi : Option Int) : ∃ q : List α, cutD (l.map f) lo hi = q.map f ∧ q.length ≤ l.length ∧ ∀ x, x ∈ q → x ∈ l := by
  unfold cutD
  refine ⟨(l.drop (HT.sIx (l.map f).length 0 lo)).take (HT.sIx (l.map f).length (l.map f).length hi - HT.sIx (l.map f).length 0 lo), by rw [List.map_take, List.map_drop], ?_, fun x hx => List.mem_of_mem_drop (List.mem_of_mem_take hx)⟩
  rw [List.length_take, List.length_drop]
  omega
theorem cutL (l : List Int) (lo hi : Option Int) : ∃ q : List Int, cutD (inL l) lo hi = inL q ∧ q.length ≤ l.length := by
  obtain ⟨q, h1, h2, _⟩ := cutM (f := PyData.int) l lo hi
  exact ⟨q, h1, h2⟩
def psD (bs : List (List Int)) : List PyData := bs.map fun p => .list (inL p)
theorem goal_no1 {m : Mch} {s : List Int} {rows : List Gc} {k : Int} (h : k ∈ s) (hk : ¬ (0 ≤ k ∧ k < (m.places.length : Int))) : goalB m (s, rows) = false := by
  unfold goalB
  rw [Bool.and_eq_false_iff]
  exact .inl (List.all_eq_false.mpr ⟨k, h, by rw [decide_eq_false hk]; decide⟩)
theorem goal_no2 {m : Mch} {s : List Int} {rows : List Gc} {c : Gc} (h : c ∈ rows) (hc : grdB m.clocks.length c = false) : goalB m (s, rows) = false := by
  unfold goalB
  rw [Bool.and_eq_false_iff]
  exact .inr (List.all_eq_false.mpr ⟨c, h, by rw [hc]; decide⟩)
theorem grd_no1 {n : Nat} {k : Int} {sg : Str} {v : Int} (h : ¬ (0 ≤ k ∧ k < (n : Int))) : grdB n (k, sg, v) = false := by
  unfold grdB
  rw [decide_eq_false h]
  rfl
theorem grd_no2 {n : Nat} {k : Int} {sg : Str} {v : Int} (h : sg ∉ sgns) : grdB n (k, sg, v) = false := by
  unfold grdB
  rw [decide_eq_false h, Bool.false_and, Bool.and_false]
theorem grd_no3 {n : Nat} {k : Int} {sg : Str} {v : Int} (h : ¬ 0 ≤ v) : grdB n (k, sg, v) = false := by
  unfold grdB
  rw [decide_eq_false h, Bool.and_false, Bool.and_false]
end K14

/-! what is told -/
namespace K14
open PySem
open Dw
open _root_.L2
theorem cell1 {c : C} {cs : List C} {d : C} : (c :: (cs ++ [d]))[cs.length + 1]? = some d := by simp
theorem set1 {a e f : C} {cs : List C} : (a :: (cs ++ [e])).set (cs.length + 1) f = a :: (cs ++ [f]) := by
  show a :: (cs ++ [e]).set cs.length f = _
  rw [List.set_append_right _ _ (Nat.le_refl _), Nat.sub_self]
  rfl
/-- what is told: a bad goal, a bad path, limits -/
inductive Tl where
  | g
  | p (a : Nat)
  | l (n : Int) (ls : List Lm4)
def tlC : Tl → List C
  | .g => [.lst [.str "BadGoal", .bool true]]
  | .p a => [.lst [.str "BadPath", .int a, .bool true]]
  | .l n ls => [.la [.d (.str "limits"), .t [.d (.int n), .o 1]], .lst (ls.map l4D)]
def tlD : Tl → PyData
  | .g => .list [.str "BadGoal"]
  | .p a => .list [.str "BadPath", .int a]
  | .l n ls => .list [.str "limits", .tuple [.int n, .list (ls.map l4D)]]
theorem shp_l4 {l : Lm4} : Shp 1 (l4D l) := shp_tup fun x hx => by
  simp only [List.mem_cons, List.not_mem_nil, or_false] at hx
  rcases hx with rfl | rfl | rfl | rfl <;> exact shp_int
theorem shp_sys {n : Int} {ls : List Lm4} : Shp 3 (.tuple [.int n, .list (ls.map l4D)]) := shp_tup fun x hx => by
  simp only [List.mem_cons, List.not_mem_nil, or_false] at hx
  rcases hx with rfl | rfl
  · exact shp_int.up (by decide)
  · refine shp_list fun x hx => ?_
    obtain ⟨c, _, rfl⟩ := List.mem_map.mp hx
    exact shp_l4
end K14
namespace K14
open PySem
open Dw
open _root_.L2
/-- the cells of what is told, the first is cell k -/
def tlS (k : Nat) : Tl → List C
  | .g => [.lst [.str "BadGoal", .bool true]]
  | .p a => [.lst [.str "BadPath", .int a, .bool true]]
  | .l n ls => [.la [.d (.str "limits"), .t [.d (.int n), .o (k + 1)]], .lst (ls.map l4D)]
/-- what is told of a path and a goal -/
def Res (m : Mch) (p : List Int) (g : Option Gl) : Tl → Prop
  | .g => ∃ gg, g = some gg ∧ goalB m gg = false
  | .p a => (∀ gg, g = some gg → goalB m gg = true) ∧ a < p.length ∧ Mis m p a
  | .l n ls => (∀ gg, g = some gg → goalB m gg = true) ∧ (∀ j, j < p.length → FitA m p j) ∧ n = (p.length : Int) + 2 ∧ ls = limA m p g
theorem Res.uni {m : Mch} {p : List Int} {g : Option Gl} : ∀ {t u : Tl}, Res m p g t → Res m p g u → t = u
  | .g, .g, _, _ => rfl
  | .g, .p _, ⟨gg, e, h⟩, ⟨k, _⟩ => by rw [k gg e] at h; cases h
  | .g, .l _ _, ⟨gg, e, h⟩, ⟨k, _⟩ => by rw [k gg e] at h; cases h
  | .p _, .g, ⟨k, _⟩, ⟨gg, e, h⟩ => by rw [k gg e] at h; cases h
  | .l _ _, .g, ⟨k, _⟩, ⟨gg, e, h⟩ => by rw [k gg e] at h; cases h
  | .p a, .p c, ⟨_, _, h⟩, ⟨_, _, k⟩ => by rw [h.uni k]
  | .p a, .l _ _, ⟨_, h1, h⟩, ⟨_, k, _⟩ => absurd (k a h1) (h.no h1)
  | .l _ _, .p a, ⟨_, k, _⟩, ⟨_, h1, h⟩ => absurd (k a h1) (h.no h1)
  | .l _ _, .l _ _, ⟨_, _, rfl, rfl⟩, ⟨_, _, rfl, rfl⟩ => rfl
theorem mis_ex {m : Mch} {p : List Int} : ∀ {n : Nat}, n ≤ p.length → (∀ j, j < n → FitA m p j) ∨ ∃ a, a < p.length ∧ Mis m p a
  | 0, _ => .inl fun j h => absurd h (Nat.not_lt_zero j)
  | n + 1, h => by
    rcases mis_ex (m := m) (p := p) (n := n) (by omega) with q | q
    · by_cases f : FitA m p n
      · refine .inl fun j hj => ?_
        by_cases e : j = n
        · rw [e]; exact f
        · exact q j (by omega)
      · exact .inr ⟨n, h, ⟨by omega, q, fun _ => f⟩⟩
    · exact .inr q
theorem res_ex {m : Mch} {p : List Int} {g : Option Gl} (hg : ∀ gg, g = some gg → goalB m gg = true) : ∃ t, Res m p g t := by
  rcases mis_ex (m := m) (p := p) (Nat.le_refl _) with h | ⟨a, h1, h2⟩
  · exact ⟨.l _ _, hg, h, rfl, rfl⟩
  · exact ⟨.p a, hg, h1, h2⟩
theorem gl0 {pre : List C} {c : C} {r : List C} : (pre ++ c :: r)[pre.length]? = some c := by simp
theorem gl1 {pre : List C} {c d : C} {r : List C} : (pre ++ c :: d :: r)[pre.length + 1]? = some d := by
  rw [List.getElem?_append_right (by omega)]
  simp
theorem gl2 {pre : List C} {c d e : C} {r : List C} : (pre ++ c :: d :: e :: r)[pre.length + 2]? = some e := by
  rw [List.getElem?_append_right (by omega)]
  simp
theorem gs0 {pre : List C} {c c' : C} {r : List C} : (pre ++ c :: r).set pre.length c' = pre ++ c' :: r := by
  rw [List.set_append_right _ _ (Nat.le_refl _), Nat.sub_self]
  rfl
theorem gs1 {pre : List C} {c d d' : C} {r : List C} : (pre ++ c :: d :: r).set (pre.length + 1) d' = pre ++ c :: d' :: r := by
  rw [List.set_append_right _ _ (by omega), show pre.length + 1 - pre.length = 1 by omega]
  rfl
theorem lim_len {m : Mch} (ok : m.Ok) {p : List Int} {g : Option Gl} (h2 : p.length ≤ 1000) (h3 : ∀ gg, g = some gg → gg.2.length ≤ 1000) : (limA m p g).length ≤ 6000000 := by
  have lU := lmU_len ok (p := p) (i := p.length + 1)
  unfold limA
  rw [List.length_append, List.length_append]
  cases g with
  | none => show _ + 0 + 0 ≤ _; omega
  | some gg =>
    have h3g : gg.2.length ≤ 1000 := h3 gg rfl
    have hrl := rows_len (t := (p.length : Int) + 1) (o := orA m p p.length) (cs := gg.2)
    have : (outA m p (some gg)).length ≤ 1 := by
      show (if _ then _ else _ : List Lm4).length ≤ 1
      split
      · exact Nat.zero_le _
      · exact Nat.le_refl _
    show _ + (rowsL _ _ _).length + _ ≤ _
    omega
end K14
namespace K14
open PySem
open Dw
theorem gs2 {pre : List C} {c d e e' : C} {r : List C} : (pre ++ c :: d :: e :: r).set (pre.length + 2) e' = pre ++ c :: d :: e' :: r := by
  rw [List.set_append_right _ _ (by omega), show pre.length + 2 - pre.length = 2 by omega]
  rfl
theorem good_want {m : Mch} {g : Gl} (h : goalB m g = true) (hl : g.2.length ≤ 3) : ∀ wt, wt ∈ [none, some g, some (([] : List Int), g.2)] → ∀ gg, wt = some gg → goalB m gg = true ∧ gg.2.length ≤ 1000 := fun wt hw gg e => by
  subst e
  simp only [List.mem_cons, List.not_mem_nil, or_false] at hw
  have h2 : (g.2.all (grdB m.clocks.length)) = true := (Bool.and_eq_true_iff.mp h).2
  rcases hw with h' | h' | h'
  · cases h'
  · cases h'; exact ⟨h, Nat.le_trans hl (by decide)⟩
  · cases h'
    exact ⟨by show (true && g.2.all _) = true; rw [h2]; rfl, Nat.le_trans hl (by decide)⟩
def Mch.at (m : Mch) (s : Nat) : Mch := { m with start := s }
theorem ok_at {m : Mch} (h : m.Ok) {s : Nat} (hs : s < m.places.length) : (m.at s).Ok := { h with st := hs }
end K14

namespace K14
open PySem
open _root_.L2
open Dw
def rushAt (K : PySem.W.Frag) : Addr := match K.lookup (He.fAd K ("Machine", some "__init__")) with
  | some ⟨_, _, .func fd, _⟩ => (match fd.kwdefaults with
    | .ref D => (match PySem.W.nsIn K D "rush" with
      | some (some (.ref a)) => a
      | _ => 0)
    | _ => 0)
  | _ => 0
def mostAt (K : PySem.W.Frag) : Addr := match PySem.W.findCls K (.ref (He.ga K "Machine")) (.type "type") "MOST" with
  | some (.val (.ref a)) => a
  | _ => 0
def tupAt (K : PySem.W.Frag) (a : Addr) (vs : List V) : Bool := match K.lookup a with
  | some ⟨.type c, _, .seq its _, _⟩ => decide (c = "tuple") && (decide (its.size ≤ sizeLine) && He.relAll vs its.toList)
  | _ => false
theorem tupAt_ok {K : PySem.W.Frag} {a : Addr} {vs : List V} (h : tupAt K a vs = true) (H : Hp) : SqT K H a vs := by
  unfold tupAt at h
  cases q : K.lookup a with
  | none =>
    rw [q] at h
    cases h
  | some o =>
    obtain ⟨oc, od, dt, osl⟩ := o
    rw [q] at h
    cases oc with
    | type c =>
      cases dt with
      | seq its n =>
        obtain ⟨h1, h2⟩ := He.ba (show (decide (c = "tuple") && (decide (its.size ≤ sizeLine) && He.relAll vs its.toList)) = true from h)
        obtain ⟨h3, h4⟩ := He.ba h2
        exact .inr ⟨_, its, n, q, congrArg Value.type (of_decide_eq_true h1), rfl, of_decide_eq_true h3, He.relAll_ok h4⟩
      | _ => cases h
    | _ => cases dt <;> cases h
def mostB (K : PySem.W.Frag) : Bool := (match PySem.W.findCls K (.ref (He.ga K "Machine")) (.type "type") "MOST" with
  | some (.val (.ref a)) => decide (a = mostAt K)
  | _ => false) && (PySem.W.readsIn K (He.ga K "Machine") (.type "type") && He.eqO (PySem.W.specialIn K (.ref (He.ga K "Machine")) "__getattribute__") (some (some (.builtin "type.__getattribute__"))))
theorem mostB_ok {K : PySem.W.Frag} (h : mostB K = true) : ClX.CRead K (He.ga K "Machine") (.type "type") ∧ ClX.CVal K (He.ga K "Machine") (.type "type") "MOST" (.ref (mostAt K)) (.ref (mostAt K)) := by
  obtain ⟨h1, h2⟩ := He.ba h
  obtain ⟨h3, h4⟩ := He.ba h2
  refine ⟨⟨h3, He.eqO_ok h4⟩, ?_, rfl⟩
  split at h1
  · rename_i a e
    rw [e, of_decide_eq_true h1]
  · cases h1
theorem str_v {K : PySem.W.Frag} {h : Heap} {mg : Str → Option Value} (X : K.In h) (G : h.Ns mainGlobals mg) {x z : Str} (c : (He.Fa.str x z).ok K = true) : ∃ u, mg x = some u ∧ RelV (.str z) u := by
  obtain ⟨t, e⟩ := He.str_ok X G c
  exact ⟨_, e, t, rfl⟩
theorem int_v {K : PySem.W.Frag} {h : Heap} {mg : Str → Option Value} (X : K.In h) (G : h.Ns mainGlobals mg) {x : Str} {z : Int} (c : (He.Fa.int x z).ok K = true) : ∃ u, mg x = some u ∧ RelV (.int z) u := by
  obtain ⟨t, e⟩ := He.int_ok X G c
  exact ⟨_, e, t, rfl⟩
theorem dr_strs {K : PySem.W.Frag} {H : Hp} : ∀ {ns : List Str}, DrA K H (ns.map V.str) (ns.map PyData.str)
  | [] => .nil
  | _ :: _ => .cons (.str _) dr_strs
def loose0 : List Str := ["DwellError", "BadGoal", "TooLarge", "BadMachine", "BadPath", "BadPlace", "Machine", "LETTERS", "NAME_CHARACTERS", "LONGEST_NAME", "SIGNS", "STAY_SIGNS"]
def loose1 : List Str := ["SIDES", "_wall", "exists", "is_name", "is_stay", "is_guard", "are_resets", "is_place", "is_move", "bad_clock", "bad_place", "bad_move"]
def loose2 : List Str := ["bad_rush", "check_parts", "condition_tuples", "place_tuple", "move_tuple", "moves_by_source", "pressing_places", "sign_limits", "has_move", "check_goal", "path_places", "moment_limits"]
def loose3 : List Str := ["path_limits", "_law_is_integer", "_law_box", "_law_take", "_law_names", "_law_condition", "_law_stays", "_law_guard", "_law_move", "_law_table", "_law_pressing", "_law_rows"]
def loose4 : List Str := ["_law_limits", "_law_misfit", "_law_bad_aims", "_law_bad_paths", "_law_path", "_law_aim", "_law_told", "_law_due", "_law_is_system", "_law_equal"]
def loose : List Str := loose0 ++ loose1 ++ loose2 ++ loose3 ++ loose4
def dd_exists : He.DefD := ⟨("exists", none), "exists", "exists", defArgs s_exists, defBody s_exists, defScope s_exists, [], []⟩
def dd_is_name : He.DefD := ⟨("is_name", none), "is_name", "is_name", defArgs s_is_name, defBody s_is_name, defScope s_is_name, [], []⟩
def dd_is_stay : He.DefD := ⟨("is_stay", none), "is_stay", "is_stay", defArgs s_is_stay, defBody s_is_stay, defScope s_is_stay, [], []⟩
def dd_is_guard : He.DefD := ⟨("is_guard", none), "is_guard", "is_guard", defArgs s_is_guard, defBody s_is_guard, defScope s_is_guard, [], []⟩
def dd_are_resets : He.DefD := ⟨("are_resets", none), "are_resets", "are_resets", defArgs s_are_resets, defBody s_are_resets, defScope s_are_resets, [], []⟩
def dd_is_place : He.DefD := ⟨("is_place", none), "is_place", "is_place", defArgs s_is_place, defBody s_is_place, defScope s_is_place, [], []⟩
def dd_is_move : He.DefD := ⟨("is_move", none), "is_move", "is_move", defArgs s_is_move, defBody s_is_move, defScope s_is_move, [], []⟩
def dd_bad_clock : He.DefD := ⟨("bad_clock", none), "bad_clock", "bad_clock", defArgs s_bad_clock, defBody s_bad_clock, defScope s_bad_clock, [], []⟩
def dd_bad_place : He.DefD := ⟨("bad_place", none), "bad_place", "bad_place", defArgs s_bad_place, defBody s_bad_place, defScope s_bad_place, [], []⟩
def dd_bad_move : He.DefD := ⟨("bad_move", none), "bad_move", "bad_move", defArgs s_bad_move, defBody s_bad_move, defScope s_bad_move, [], []⟩
def dd_bad_rush : He.DefD := ⟨("bad_rush", none), "bad_rush", "bad_rush", defArgs s_bad_rush, defBody s_bad_rush, defScope s_bad_rush, [], []⟩
def dd_check_parts : He.DefD := ⟨("check_parts", none), "check_parts", "check_parts", defArgs s_check_parts, defBody s_check_parts, defScope s_check_parts, [], []⟩
def dd_condition_tuples : He.DefD := ⟨("condition_tuples", none), "condition_tuples", "condition_tuples", defArgs s_condition_tuples, defBody s_condition_tuples, defScope s_condition_tuples, [], []⟩
def dd_place_tuple : He.DefD := ⟨("place_tuple", none), "place_tuple", "place_tuple", defArgs s_place_tuple, defBody s_place_tuple, defScope s_place_tuple, [], []⟩
def dd_move_tuple : He.DefD := ⟨("move_tuple", none), "move_tuple", "move_tuple", defArgs s_move_tuple, defBody s_move_tuple, defScope s_move_tuple, [], []⟩
def dd_moves_by_source : He.DefD := ⟨("moves_by_source", none), "moves_by_source", "moves_by_source", defArgs s_moves_by_source, defBody s_moves_by_source, defScope s_moves_by_source, [], []⟩
def dd_pressing_places : He.DefD := ⟨("pressing_places", none), "pressing_places", "pressing_places", defArgs s_pressing_places, defBody s_pressing_places, defScope s_pressing_places, [], []⟩
def dd_Machine___init__ : He.DefD := ⟨("Machine", some "__init__"), "__init__", "Machine.__init__", defArgs s_Machine___init__, defBody s_Machine___init__, defScope s_Machine___init__, [], [("start", .int 0), ("rush", .adr rushAt)]⟩
def dd_Machine_is_pressing : He.DefD := ⟨("Machine", some "is_pressing"), "is_pressing", "Machine.is_pressing", defArgs s_Machine_is_pressing, defBody s_Machine_is_pressing, defScope s_Machine_is_pressing, [], []⟩
def dd_sign_limits : He.DefD := ⟨("sign_limits", none), "sign_limits", "sign_limits", defArgs s_sign_limits, defBody s_sign_limits, defScope s_sign_limits, [], []⟩
def dd_has_move : He.DefD := ⟨("has_move", none), "has_move", "has_move", defArgs s_has_move, defBody s_has_move, defScope s_has_move, [], []⟩
def dd_check_goal : He.DefD := ⟨("check_goal", none), "check_goal", "check_goal", defArgs s_check_goal, defBody s_check_goal, defScope s_check_goal, [], []⟩
def dd_path_places : He.DefD := ⟨("path_places", none), "path_places", "path_places", defArgs s_path_places, defBody s_path_places, defScope s_path_places, [], []⟩
def dd_moment_limits : He.DefD := ⟨("moment_limits", none), "moment_limits", "moment_limits", defArgs s_moment_limits, defBody s_moment_limits, defScope s_moment_limits, [], []⟩
def dd_path_limits : He.DefD := ⟨("path_limits", none), "path_limits", "path_limits", defArgs s_path_limits, defBody s_path_limits, defScope s_path_limits, [.non], []⟩
def dd__law_is_integer : He.DefD := ⟨("_law_is_integer", none), "_law_is_integer", "_law_is_integer", defArgs s__law_is_integer, defBody s__law_is_integer, defScope s__law_is_integer, [], []⟩
def dd__law_box : He.DefD := ⟨("_law_box", none), "_law_box", "_law_box", defArgs s__law_box, defBody s__law_box, defScope s__law_box, [], []⟩
def dd__law_take : He.DefD := ⟨("_law_take", none), "_law_take", "_law_take", defArgs s__law_take, defBody s__law_take, defScope s__law_take, [], []⟩
def dd__law_names : He.DefD := ⟨("_law_names", none), "_law_names", "_law_names", defArgs s__law_names, defBody s__law_names, defScope s__law_names, [], []⟩
def dd__law_condition : He.DefD := ⟨("_law_condition", none), "_law_condition", "_law_condition", defArgs s__law_condition, defBody s__law_condition, defScope s__law_condition, [], []⟩
def dd__law_stays : He.DefD := ⟨("_law_stays", none), "_law_stays", "_law_stays", defArgs s__law_stays, defBody s__law_stays, defScope s__law_stays, [], []⟩
def dd__law_guard : He.DefD := ⟨("_law_guard", none), "_law_guard", "_law_guard", defArgs s__law_guard, defBody s__law_guard, defScope s__law_guard, [], []⟩
def dd__law_move : He.DefD := ⟨("_law_move", none), "_law_move", "_law_move", defArgs s__law_move, defBody s__law_move, defScope s__law_move, [], []⟩
def dd__law_table : He.DefD := ⟨("_law_table", none), "_law_table", "_law_table", defArgs s__law_table, defBody s__law_table, defScope s__law_table, [], []⟩
def dd__law_pressing : He.DefD := ⟨("_law_pressing", none), "_law_pressing", "_law_pressing", defArgs s__law_pressing, defBody s__law_pressing, defScope s__law_pressing, [], []⟩
def dd__law_rows : He.DefD := ⟨("_law_rows", none), "_law_rows", "_law_rows", defArgs s__law_rows, defBody s__law_rows, defScope s__law_rows, [], []⟩
def dd__law_limits : He.DefD := ⟨("_law_limits", none), "_law_limits", "_law_limits", defArgs s__law_limits, defBody s__law_limits, defScope s__law_limits, [], []⟩
def dd__law_misfit : He.DefD := ⟨("_law_misfit", none), "_law_misfit", "_law_misfit", defArgs s__law_misfit, defBody s__law_misfit, defScope s__law_misfit, [], []⟩
def dd__law_bad_aims : He.DefD := ⟨("_law_bad_aims", none), "_law_bad_aims", "_law_bad_aims", defArgs s__law_bad_aims, defBody s__law_bad_aims, defScope s__law_bad_aims, [], []⟩
def dd__law_bad_paths : He.DefD := ⟨("_law_bad_paths", none), "_law_bad_paths", "_law_bad_paths", defArgs s__law_bad_paths, defBody s__law_bad_paths, defScope s__law_bad_paths, [], []⟩
def dd__law_path : He.DefD := ⟨("_law_path", none), "_law_path", "_law_path", defArgs s__law_path, defBody s__law_path, defScope s__law_path, [], []⟩
def dd__law_aim : He.DefD := ⟨("_law_aim", none), "_law_aim", "_law_aim", defArgs s__law_aim, defBody s__law_aim, defScope s__law_aim, [], []⟩
def dd__law_told : He.DefD := ⟨("_law_told", none), "_law_told", "_law_told", defArgs s__law_told, defBody s__law_told, defScope s__law_told, [], []⟩
def dd__law_due : He.DefD := ⟨("_law_due", none), "_law_due", "_law_due", defArgs s__law_due, defBody s__law_due, defScope s__law_due, [], []⟩
def dd__law_is_system : He.DefD := ⟨("_law_is_system", none), "_law_is_system", "_law_is_system", defArgs s__law_is_system, defBody s__law_is_system, defScope s__law_is_system, [], []⟩
def dd__law_equal : He.DefD := ⟨("_law_equal", none), "_law_equal", "_law_equal", defArgs s__law_equal, defBody s__law_equal, defScope s__law_equal, [], []⟩
def dd_law : He.DefD := ⟨("law", none), "law", "law", defArgs s_law, defBody s_law, defScope s_law, [], []⟩
def hfn : List He.DefD := [dd_exists, dd_is_name, dd_is_stay, dd_is_guard, dd_are_resets, dd_is_place, dd_is_move, dd_bad_clock, dd_bad_place, dd_bad_move, dd_bad_rush, dd_check_parts, dd_condition_tuples, dd_place_tuple, dd_move_tuple, dd_moves_by_source, dd_pressing_places, dd_Machine___init__, dd_Machine_is_pressing, dd_sign_limits, dd_has_move, dd_check_goal, dd_path_places, dd_moment_limits, dd_path_limits, dd__law_is_integer, dd__law_box, dd__law_take, dd__law_names, dd__law_condition, dd__law_stays, dd__law_guard, dd__law_move, dd__law_table, dd__law_pressing, dd__law_rows, dd__law_limits, dd__law_misfit, dd__law_bad_aims, dd__law_bad_paths, dd__law_path, dd__law_aim, dd__law_told, dd__law_due, dd__law_is_system, dd__law_equal, dd_law]
def hfa0 : List He.Fa := [.glo "exists", .glo "is_name", .glo "is_stay", .glo "is_guard", .glo "are_resets", .glo "is_place", .glo "is_move", .glo "bad_clock", .glo "bad_place", .glo "bad_move", .glo "bad_rush", .glo "check_parts", .glo "condition_tuples", .glo "place_tuple", .glo "move_tuple", .glo "moves_by_source", .glo "pressing_places", .glo "sign_limits", .glo "has_move", .glo "check_goal"]
def hfa1 : List He.Fa := [.glo "path_places", .glo "moment_limits", .glo "path_limits", .glo "_law_is_integer", .glo "_law_box", .glo "_law_take", .glo "_law_names", .glo "_law_condition", .glo "_law_stays", .glo "_law_guard", .glo "_law_move", .glo "_law_table", .glo "_law_pressing", .glo "_law_rows", .glo "_law_limits", .glo "_law_misfit", .glo "_law_bad_aims", .glo "_law_bad_paths", .glo "_law_path", .glo "_law_aim"]
def hfa2 : List He.Fa := [.glo "_law_told", .glo "_law_due", .glo "_law_is_system", .glo "_law_equal", .glo "law", .glo "TooLarge", .glo "BadMachine", .glo "BadPath", .glo "BadPlace", .glo "BadGoal", .glo "DwellError", .glo "Machine", .free "ValueError", .free "all", .free "bool", .free "enumerate", .free "int", .free "isinstance", .free "len", .free "list"]
def hfa3 : List He.Fa := [.free "max", .free "min", .free "range", .free "reversed", .free "sorted", .free "str", .free "super", .free "tuple", .free "zip", .exc "BadGoal", .exm "BadPath" "BadPath" true, .exm "BadGoal" "BadPath" false, .exm "BadGoal" "BadGoal" true, .cls "Machine", .mkr "Machine", .meth "Machine" "is_pressing", .noat "Machine" "clocks", .noat "Machine" "places", .noat "Machine" "moves", .noat "Machine" "start"]
def hfa4 : List He.Fa := [.noat "Machine" "rush", .noat "Machine" "_leaving", .noat "Machine" "_pressing", .str "LETTERS" "abcdefghijklmnopqrstuvwxyz", .str "NAME_CHARACTERS" "abcdefghijklmnopqrstuvwxyz0123456789._[]", .int "LONGEST_NAME" 200, .glo "SIGNS", .glo "STAY_SIGNS", .glo "SIDES"]
def hfa : List He.Fa := hfa0 ++ hfa1 ++ hfa2 ++ hfa3 ++ hfa4
def de_TooLarge : DefS := ⟨"TooLarge", "TooLarge.__init__", defArgs s_TooLarge___init__, defBody s_TooLarge___init__, defScope s_TooLarge___init__, ["most"]⟩
def de_BadMachine : DefS := ⟨"BadMachine", "BadMachine.__init__", defArgs s_BadMachine___init__, defBody s_BadMachine___init__, defScope s_BadMachine___init__, ["part", "index"]⟩
def de_BadPath : DefS := ⟨"BadPath", "BadPath.__init__", defArgs s_BadPath___init__, defBody s_BadPath___init__, defScope s_BadPath___init__, ["place"]⟩
def de_BadPlace : DefS := ⟨"BadPlace", "BadPlace.__init__", defArgs s_BadPlace___init__, defBody s_BadPlace___init__, defScope s_BadPlace___init__, ["place"]⟩
def hfs : List DefS := [de_TooLarge, de_BadMachine, de_BadPath, de_BadPlace]
def hraw0 (K : PySem.W.Frag) : Bool := tupAt K (He.ga K "SIGNS") (List.map V.str ["<", "<=", "==", ">=", ">"])
def hraw1 (K : PySem.W.Frag) : Bool := tupAt K (He.ga K "STAY_SIGNS") (List.map V.str ["<", "<="])
def hraw2 (K : PySem.W.Frag) : Bool := tupAt K (He.ga K "SIDES") (List.map V.str ["ours", "world"])
def hraw3 (K : PySem.W.Frag) : Bool := mostB K
def hraw4 (K : PySem.W.Frag) : Bool := tupAt K (mostAt K) [.int 8, .int 200, .int 1000]
def hfk : List Fk := [.kit "BadPath" "DwellError" true, .kit "BadPath" "BadGoal" false, .kit "BadPath" "BadPlace" false, .kit "BadGoal" "DwellError" true, .kty "BadGoal" "ValueError" true, .ecc "BadPath", .ecc "BadGoal", .noat "BadPath" "place", .raw hraw0, .raw hraw1, .raw hraw2, .raw hraw3, .raw hraw4]
abbrev R : PySem.W.OpenRow := PySem.W.OpenLaw.row PySem.Challenge.rw_dwellhouse_k14_path_limits
def hfile : Str := R.prog.main.file
abbrev hk : PySem.W.Hook := hookY 4 hfa hfn hfile hfs hfk
def ob (s : PySem.W.SharedT) : AlY := obsYG 4 hfa hfn hfile hfs hfk (HandSHeadRun.getT s)
theorem ob_eq (s : PySem.W.SharedT) : ob s = hk.obs s.abs := obsYG_eq (HandSHeadRun.getT_eq s)
theorem run (w : World) : HandSHeadRun.RunEq R (PySem.W.view R.prog [64]) hk ob 6000 loose w := by
  intro os
  kernel_rfl
end K14
namespace K14
open PySem
open _root_.L2
open Dw
local macro_rules | `(tactic| walk_at "ev") => `(tactic| (first
  | (with_reducible refine go_sAsg ?_)
  | (with_reducible refine go_sDrop ?_)
  | (with_reducible refine go_sAug (by with_unfolding_all exact rfl) ?_)
  | (with_reducible refine ev_op ?_)
  | (with_reducible refine ev_var (by with_unfolding_all exact rfl) ?_)
  | (with_reducible refine ev_int ?_)
  | (with_reducible refine ev_bl ?_)
  | (with_reducible refine ev_non ?_)
  | (with_reducible refine ev_str ?_)
  | (with_reducible refine ea_cons ?_)
  | (with_reducible refine ea_nil ?_)
  | (with_reducible refine go_ret ?_)
  | (with_reducible refine go_asg ?_)
  | (with_reducible refine gt_name ?_)
  | (with_reducible refine go_if ?_)
  | (with_reducible refine go_drop ?_)
  | (with_reducible refine ev_cb ?_)
  | (with_reducible refine et_test ?_)
  | (with_reducible refine et_and ?_)
  | (with_reducible refine et_or ?_)
  | (with_reducible refine et_not ?_)
  | (with_reducible refine et_truth ?_)
  | (with_reducible refine ev_if ?_)
  | (with_reducible refine ev_andV ?_)
  | (with_reducible refine ev_orV ?_)
  | (with_reducible refine ev_notT ?_)
  | (with_reducible refine ev_un ?_)
  | (with_reducible refine v1_neg ?_)
  | (with_reducible refine v2_addI ?_)
  | (with_reducible refine v2_ltI ?_)
  | (with_reducible refine v2_leI ?_)
  | (with_reducible refine v2_gtI ?_)
  | (with_reducible refine v2_geI ?_)
  | (with_reducible refine v2_ii ?_)
  | (with_reducible refine v2_ixT (by with_unfolding_all exact rfl) ?_)
  | (with_reducible refine v2_isNA (fun _ _ q => nomatch q) ?_)
  | (with_reducible refine v2_notNA (fun _ _ q => nomatch q) ?_)
  | (with_reducible refine rt_val ?_)
  | (with_reducible refine ev_tup ?_)
  | (with_reducible refine ⟨_, (by with_unfolding_all exact rfl : undA _ = some _), (by with_unfolding_all exact rfl), ?_⟩)
  | (with_reducible refine go_next ?_)
  | (with_reducible refine go_retN ?_)
  | (with_reducible refine go_brk ?_)
  | (with_reducible refine go_cont ?_)
  | (with_reducible refine ev_sl ?_)
  | (with_reducible refine eo_none ?_)
  | (with_reducible refine eo_some ?_)
  | (with_reducible refine gts_consD ?_)
  | (with_reducible refine gts_nilD ?_)
  | (with_reducible refine gts_nil ?_)
  | (with_reducible refine gt_tup (by with_unfolding_all exact rfl) ?_)
  | (with_reducible refine ⟨_, rfl, ?_⟩)
  | (with_reducible refine ⟨_, (by with_unfolding_all exact rfl : Tru _ _ _), ?_⟩)
  ))
local macro_rules | `(tactic| walk_at "mul") => `(tactic| (first
  | exact cmS (by assumption) (by assumption)
  | exact cm64 (by omega) (by omega)))
local macro_rules | `(tactic| walk_at "ev2") => `(tactic| (first
  | walk_at "ev"
  | (with_reducible refine v2_mulI (by walk_at "mul") ?_)
  | (with_reducible refine vc_lenV (by with_unfolding_all apply_assumption) ?_)
  | (with_reducible refine v2_ixV (by with_unfolding_all apply_assumption) (by assumption) ?_)
  | (with_reducible refine v2_eqI ?_)
  | (with_reducible refine v2_neI ?_)
  | (with_reducible refine v2_eqB ?_)
  | (with_reducible refine v2_neB ?_)
  | (with_reducible refine go_aug (by with_unfolding_all exact rfl) ?_)
  | (with_reducible refine ⟨(by with_unfolding_all exact rfl : (_ : List _) = _), ?_⟩)))
local macro_rules | `(tactic| walk_at "ev3") => `(tactic| (first
  | walk_at "ev2"
  | (with_reducible refine go_seq ?_)))
local macro_rules | `(tactic| walk_at "z1") => `(tactic| (first
  | (with_reducible refine ev_isi (by decide) ?_)
  | (with_reducible refine ev_isY1 (by with_unfolding_all exact rfl) (by assumption) ?_)
  | (with_reducible refine ev_isY2 (by with_unfolding_all exact rfl) (by assumption) ?_)
  | (with_reducible refine ev_isYT2 (by with_unfolding_all exact rfl) (by assumption) (by assumption) ?_)
  | (with_reducible refine vc_lenT ?_)
  | (with_reducible refine vc_lenO (by with_unfolding_all exact rfl) ?_)
  | (with_reducible refine v2_eqSt (by decide +kernel) ?_)
  | (with_reducible refine v2_neSt (by decide +kernel) ?_)
  | (with_reducible refine v2_eqSf (by decide +kernel) (by decide +kernel) (by decide +kernel) ?_)
  | (with_reducible refine v2_neSf (by decide +kernel) (by decide +kernel) (by decide +kernel) ?_)
  | walk_at "ev2"
  | (with_reducible refine ev_chain ?_)
  | (with_reducible refine ⟨_, (by with_unfolding_all exact rfl : Vw _ (Dw.A.d _) _), ?_⟩)
  | (with_reducible refine vc_intI ?_)
  | (with_reducible refine vc_intB ?_)
  | (with_reducible refine vc_abs ?_)
  | (with_reducible refine vc_lenV (by with_unfolding_all exact rfl) ?_)
  | (with_reducible refine v2_ixO (by with_unfolding_all exact rfl) (by with_unfolding_all exact rfl) ?_)
  | (with_reducible refine v2_mulJ (cmR (by decide)) ?_)
  | (with_reducible refine v2_mulJ (cmL (by decide)) ?_)
  | (with_reducible refine v2_mulJ (cmL (by omega)) ?_)
  | (with_reducible refine v2_mulJ (cmR (by omega)) ?_)
  | (with_reducible refine v2_ic (C := fun _ j => 0 < j) (by decide) ?_)
  | (with_reducible refine v2_ic (C := fun _ j => 0 < j) (show (0 : Int) < _ by omega) ?_)
  | (with_reducible refine v2_ic (C := CDivW) (cdv (by decide)) ?_)
  | (with_reducible refine v2_ic (C := CDivW) (cdv (by omega)) ?_)
  | (with_reducible refine v2_ic (C := CPow) (cpw (by decide)) ?_)
  | (with_reducible refine gt_setL ?_)
  | (with_reducible refine ⟨_, _, _, _, _, rfl, rfl, rfl, (by with_unfolding_all exact rfl), (by with_unfolding_all exact rfl), ?_⟩)
  ))
local macro_rules | `(tactic| walk_at "z3") => `(tactic| (first
  | walk_at "z1"
  | (with_reducible refine go_seq ?_)))
local macro_rules | `(tactic| walk_at "z4") => `(tactic| (first
  | walk_at "z3"
  | ((with_reducible refine ⟨?_, ?_⟩); (focus (intro h; cases h; done)); intro h)
  | ((with_reducible refine ⟨?_, ?_⟩); rotate_left; (focus (intro h; cases h; done)); intro h)))
local macro_rules | `(tactic| walk_at "z1") => `(tactic| (first
  | (with_reducible refine ev_const (by assumption) ?_)
  | (with_reducible refine v2_inC ?_)
  | (with_reducible refine v2_inT ["<", "<=", "==", ">=", ">"] rfl ?_)
  | (with_reducible refine v2_inT ["<", "<="] rfl ?_)
  | (with_reducible refine v2_inT ["ours", "world"] rfl ?_)
  | (with_reducible refine ev_fldO ?_)
  | (with_reducible refine go_fldO ?_)))
local macro_rules | `(tactic| walk_at "z1") => `(tactic| (first
  | (with_reducible refine et_B ?_)
  | (with_reducible refine ev_din ?_)
  | (with_reducible refine ev_dnin ?_)
  | (with_reducible refine ev_dnew ?_)
  | (with_reducible refine go_dput ?_)))
def sp_exists : Spc where
  I := Int × Int
  args := fun (i, n) => [.d (.int i), .d (.int n)]
  cells := fun _ => []
  pre := fun _ => True
  post := fun (i, n) r _ => r = .val (.bool (decide (0 ≤ i ∧ i < n)))
section
variable {P : Program} {w : World} {K : PySem.W.Frag} {mg : Str → Option Value} {base : Heap}
theorem ok_exists (T : Tx P K mg) : FnOk P w K mg base CX0 1 T.a_exists T.d_exists ["index", "count"] (SpB K sp_exists) := by
  refine T.F_exists.ok sc_exists (fun vs H Q E h => spB_len h (fun _ => rfl)) (fun cdv A outer s H vs Q E hr h => ⟨_, PSs.nox ((pss_one (ps_ret (pe_chain op_leA op_ltA pe_int (pv 0) (pv 1))))), ?_⟩)
  refine go_fn (L := ["index", "count"]) h (fun b i hp hX => ?_)
  try dsimp only [cxOf, L2H.cxH, L2.Cx.nox, L2.Cx.wish]
  have kLET := cLET T
  have kNMC := cNMC T
  have kLON := cLON T
  have kSIG := T.w_SIGNS
  have kSTA := T.w_STAY_SIGNS
  have kSID := T.w_SIDES
  
  obtain ⟨i, n⟩ := i
  show GO K b _ ⟨[some (.d (.int i)), some (.d (.int n))], []⟩ _
  repeat walk_at "z4"
  
  refine ⟨fun z => ?_, fun z => ?_⟩
  · have z := of_decide_eq_true z
    repeat walk_at "z4"
  
    show Rv.val (.bool (decide (i < n))) = Rv.val (.bool (decide (0 ≤ i ∧ i < n)))
    rw [show decide (0 ≤ i ∧ i < n) = decide (i < n) by simp [z]]
  · have z := of_decide_eq_false z
    show Rv.val (.bool false) = Rv.val (.bool (decide (0 ≤ i ∧ i < n)))
    rw [show decide (0 ≤ i ∧ i < n) = false by simp [z]]
end
def sp_is_name : Spc where
  I := Str
  args := fun w => [.d (.str w)]
  cells := fun _ => []
  pre := fun w => Nm w
  post := fun _ r _ => r = .val (.bool true)
section
variable {P : Program} {w : World} {K : PySem.W.Frag} {mg : Str → Option Value} {base : Heap}
theorem ok_is_name (T : Tx P K mg) : FnOk P w K mg base CX0 1 T.a_is_name T.d_is_name ["word"] (SpB K sp_is_name) := by
  refine T.F_is_name.ok sc_is_name (fun vs H Q E h => spB_len h (fun _ => rfl)) (fun cdv A outer s H vs Q E hr h => ⟨_, PSs.nox ((pss_cons (ps_if (PW.pt (pw_or (pt_not (pt_truth (pe_callB call_isi (by rfl) T.z_isinstance (by decide +kernel) (pa_cons (pv 0) (pa_cons (pe_bltn (v := .ty "str") (by rfl) T.z_str (by decide +kernel) rfl) pa_nil))) (by intro _; rfl))) (pw_or (pt_cmpR (op_eqD hr.units) (pv 0) pe_str (nomark _)) (pw_or1 (pt_cmpR op_gtA (pe_callB call_len (by rfl) T.z_len (by decide +kernel) (pa_cons (pv 0) pa_nil)) (pe_glob rfl T.g_LONGEST_NAME T.r_LONGEST_NAME) (nomark _))))))
      (pss_one (ps_ret pe_bl))
      pss_nil)
      (pss_cons (ps_if (PW.pt (pw_and (pt_cmpR op_niA (pe_ix ix_seq (pv 0) pe_int (fun _ _ => rfl)) (pe_glob rfl T.g_LETTERS T.r_LETTERS) (by rfl)) (pw_and1 (pt_cmpR (op_neD hr.units) (pe_ix ix_seq (pv 0) pe_int (fun _ _ => rfl)) pe_str (nomark _)))))
      (pss_one (ps_ret pe_bl))
      pss_nil)
      (pss_cons (ps_for PassesOwn.never rfl (pi_any (pv 0)) (pg_name (i := 1) sc_is_name.nd rfl (.inl rfl) (.inr rfl))
      (pss_one (ps_if (pt_cmpR op_niA (pv 1) (pe_glob rfl T.g_NAME_CHARACTERS T.r_NAME_CHARACTERS) (by rfl))
      (pss_one (ps_ret pe_bl))
      pss_nil)))
      (pss_one (ps_ret pe_bl)))))), ?_⟩)
  refine go_fn (L := ["word", "character"]) h (fun b i hp hX => ?_)
  try dsimp only [cxOf, L2H.cxH, L2.Cx.nox, L2.Cx.wish]
  have kLET := cLET T
  have kNMC := cNMC T
  have kLON := cLON T
  have kSIG := T.w_SIGNS
  have kSTA := T.w_STAY_SIGNS
  have kSID := T.w_SIDES
  
  have hp : Nm i := hp
  have l200 : i.length ≤ 200 := hp.len
  obtain ⟨c0, cr, e0, hc0⟩ := hp.fst
  show GO K b _ ⟨[some (.d (.str i)), none], []⟩ _
  repeat walk_at "z4"
  
  refine v2_eqSf hp.ok (by decide +kernel) hp.ne ?_
  repeat walk_at "z4"
  
  refine vc_lenS (Nat.le_trans l200 (by decide)) ?_
  repeat walk_at "z4"
  
  refine ⟨fun z => absurd (of_decide_eq_true z) (by omega), fun _ => ?_⟩
  refine go_next ?_
  have ix0 : atI i.cps.toList ((0 : Nat) : Int) = some c0 := atI_n (by rw [e0]; rfl)
  refine go_mid (fun s => s = ⟨[some (.d (.str i)), none], []⟩) ?_ ?_
  · repeat walk_at "z4"
  
    refine v2_ixS (Nat.le_trans l200 (by decide)) ix0 ?_
    repeat walk_at "z4"
  
    refine ⟨fun z => ?_, fun z => ?_⟩
    · have c91 : c0 = 91 := hc0.resolve_left (by simpa using z)
      subst c91
      repeat walk_at "z4"
  
      refine v2_ixS (Nat.le_trans l200 (by decide)) ix0 ?_
      repeat walk_at "z4"
  
      refine v2_neS (by decide +kernel) (by decide +kernel) ?_
      refine ⟨_, rfl, fun h => absurd h (by decide +kernel), fun _ => ?_⟩
      refine go_next ?_
      exact rfl
    · refine ⟨fun h => (nomatch h), fun _ => ?_⟩
      refine go_next ?_
      exact rfl
  rintro s1 rfl
  refine go_seq (go_for (ei_anyS (ei_str ?_)))
  repeat walk_at "z4"
  
  refine ⟨fun k s => ∃ x, s = ⟨[some (.d (.str i)), x], []⟩, ⟨none, rfl⟩, fun _ _ _ _ => trivial, ?_, ?_⟩
  · rintro k v s2 hx ⟨x, rfl⟩
    obtain ⟨c, hc, rfl⟩ := signs_get hx
    refine gt_name ?_
    repeat walk_at "z4"
  
    refine ⟨fun z => absurd (hp.all c hc) (by simpa using z), fun _ => ?_⟩
    refine go_next ?_
    exact ⟨_, rfl⟩
  rintro s2 ⟨x, rfl⟩
  repeat walk_at "z4"
  
  exact rfl
end
def sp_is_stay : Spc where
  I := Cnd × Nat
  args := fun (c, n) => [.d (cndD c), .d (.int n)]
  cells := fun _ => []
  pre := fun (c, n) => Stay n c
  post := fun _ r _ => r = .val (.bool true)
section
variable {P : Program} {w : World} {K : PySem.W.Frag} {mg : Str → Option Value} {base : Heap}
theorem ok_is_stay (T : Tx P K mg) : FnOk P w K mg base CX0 2 T.a_is_stay T.d_is_stay ["condition", "clocks"] (SpB K sp_is_stay) := by
  refine T.F_is_stay.ok sc_is_stay (fun vs H Q E h => spB_len h (fun _ => rfl)) (fun cdv A outer s H vs Q E hr h => ⟨_, PSs.nox ((pss_cons (ps_asg (pv 0) (pg_tup rfl (pgs_cons (pg_name (i := 2) sc_is_stay.nd rfl (.inl rfl) (.inr rfl)) (pgs_cons (pg_name (i := 3) sc_is_stay.nd rfl (.inl rfl) (.inr rfl)) (pgs_cons (pg_name (i := 4) sc_is_stay.nd rfl (.inl rfl) (.inr rfl)) pgs_nil)))))
      (pss_cons (ps_if (PW.pt (pw_or (pt_not (pt_truth (pe_call (ok_exists T) (hr.mono (by decide)) (by rfl) T.g_exists T.F_exists.kp (b_exists T.F_exists) .nil pass0 (pa_cons (pv 2) (pa_cons (pv 1) pa_nil))) (by intro _; rfl))) (pw_or1 (pt_cmpR op_niA (pv 3) (pe_glob rfl T.g_STAY_SIGNS T.r_STAY_SIGNS) (by rfl)))))
      (pss_one (ps_ret pe_bl))
      pss_nil)
      (pss_cons (ps_if (pt_cmpR (op_eqD hr.units) (pv 3) pe_str (nomark _))
      (pss_one (ps_ret (pe_cmpR op_geA (pv 4) pe_int (nomark _))))
      pss_nil)
      (pss_one (ps_ret (pe_cmpR op_geA (pv 4) pe_int (nomark _)))))))), ?_⟩)
  refine go_fn (L := ["condition", "clocks", "clock", "sign", "c"]) h (fun b i hp hX => ?_)
  try dsimp only [cxOf, L2H.cxH, L2.Cx.nox, L2.Cx.wish]
  have kLET := cLET T
  have kNMC := cNMC T
  have kLON := cLON T
  have kSIG := T.w_SIGNS
  have kSTA := T.w_STAY_SIGNS
  have kSID := T.w_SIDES
  
  obtain ⟨⟨k, sg, v⟩, n⟩ := i
  obtain ⟨h1, h2⟩ : Stay n (k, sg, v) := hp
  have h1 : k < n := h1
  show GO K b _ ⟨[some (.d (.tuple [.int k, .str sg, .int v])), some (.d (.int n)), none, none, none], []⟩ _
  refine go_seq (go_asg (ev_var rfl (gt_tup (ds := [.int k, .str sg, .int v]) rfl ?_)))
  repeat walk_at "z4"
  refine ev_callV (E := fun _ => E0) ?_
  repeat walk_at "z4"
  refine ⟨((k : Int), (n : Int)), .bool true, rfl, rfl, rfl, trivial, fun _ _ h => h.trans (by rw [show decide (0 ≤ ((k : Int)) ∧ ((k : Int)) < ((n : Int))) = true from decide_eq_true (by omega)]), fun _ _ h => h, ?_⟩
  repeat walk_at "z4"
  
  rcases h2 with ⟨e, hv⟩ | ⟨e, hv⟩
  · have e : sg = "<" := e
    have hv : 1 ≤ v := hv
    subst e
    refine ⟨fun h => absurd h (by decide +kernel), fun _ => ?_⟩
    repeat walk_at "z4"
  
    show Rv.val (.bool (decide (1 ≤ v))) = Rv.val (.bool true)
    rw [decide_eq_true hv]
  · have e : sg = "<=" := e
    have hv : 0 ≤ v := hv
    subst e
    refine ⟨fun h => absurd h (by decide +kernel), fun _ => ?_⟩
    repeat walk_at "z4"
  
    show Rv.val (.bool (decide (0 ≤ v))) = Rv.val (.bool true)
    rw [decide_eq_true hv]
end
def sp_is_guard : Spc where
  I := (Int × Str × Int) × Nat
  args := fun (c, n) => [.d (gcD c), .d (.int n)]
  cells := fun _ => []
  pre := fun _ => True
  post := fun (c, n) r _ => r = .val (.bool (grdB n c))
section
variable {P : Program} {w : World} {K : PySem.W.Frag} {mg : Str → Option Value} {base : Heap}
theorem ok_is_guard (T : Tx P K mg) : FnOk P w K mg base CX0 2 T.a_is_guard T.d_is_guard ["condition", "clocks"] (SpB K sp_is_guard) := by
  refine T.F_is_guard.ok sc_is_guard (fun vs H Q E h => spB_len h (fun _ => rfl)) (fun cdv A outer s H vs Q E hr h => ⟨_, PSs.nox ((pss_cons (ps_asg (pv 0) (pg_tup rfl (pgs_cons (pg_name (i := 2) sc_is_guard.nd rfl (.inl rfl) (.inr rfl)) (pgs_cons (pg_name (i := 3) sc_is_guard.nd rfl (.inl rfl) (.inr rfl)) (pgs_cons (pg_name (i := 4) sc_is_guard.nd rfl (.inl rfl) (.inr rfl)) pgs_nil)))))
      (pss_one (ps_ret (pe_and (pe_call (ok_exists T) (hr.mono (by decide)) (by rfl) T.g_exists T.F_exists.kp (b_exists T.F_exists) .nil pass0 (pa_cons (pv 2) (pa_cons (pv 1) pa_nil))) (pe_and (pe_cmpR op_inA (pv 3) (pe_glob rfl T.g_SIGNS T.r_SIGNS) (by rfl)) (pe_one (pe_cmpR op_geA (pv 4) pe_int (nomark _))))))))), ?_⟩)
  refine go_fn (L := ["condition", "clocks", "clock", "sign", "c"]) h (fun b i hp hX => ?_)
  try dsimp only [cxOf, L2H.cxH, L2.Cx.nox, L2.Cx.wish]
  have kLET := cLET T
  have kNMC := cNMC T
  have kLON := cLON T
  have kSIG := T.w_SIGNS
  have kSTA := T.w_STAY_SIGNS
  have kSID := T.w_SIDES
  
  obtain ⟨⟨k, sg, v⟩, n⟩ := i
  show GO K b _ ⟨[some (.d (.tuple [.int k, .str sg, .int v])), some (.d (.int n)), none, none, none], []⟩ _
  refine go_seq (go_asg (ev_var rfl (gt_tup (ds := [.int k, .str sg, .int v]) rfl ?_)))
  repeat walk_at "z4"
  refine ev_callV (E := fun _ => E0) ?_
  repeat walk_at "z4"
  refine ⟨(k, (n : Int)), _, rfl, rfl, rfl, trivial, fun _ _ h => h, fun _ _ h => h, ?_⟩
  repeat walk_at "z4"
  
  refine ⟨fun z => ?_, fun z => ?_⟩
  · have z := of_decide_eq_true z
    repeat walk_at "z4"
  
    refine ⟨fun y => ?_, fun y => ?_⟩
    · have y : sg ∈ sgns := of_decide_eq_true y
      repeat walk_at "z4"
  
      show Rv.val (.bool (decide (0 ≤ v))) = Rv.val (.bool (decide (0 ≤ k ∧ k < (n : Int)) && (decide (sg ∈ sgns) && decide (0 ≤ v))))
      rw [decide_eq_true z, decide_eq_true y, Bool.true_and, Bool.true_and]
    · have y : ¬ sg ∈ sgns := of_decide_eq_false y
      repeat walk_at "z4"
  
      show Rv.val (.bool false) = Rv.val (.bool (decide (0 ≤ k ∧ k < (n : Int)) && (decide (sg ∈ sgns) && decide (0 ≤ v))))
      rw [decide_eq_false y, Bool.false_and, Bool.and_false]
  · have z := of_decide_eq_false z
    repeat walk_at "z4"
  
    show Rv.val (.bool false) = Rv.val (.bool (decide (0 ≤ k ∧ k < (n : Int)) && (decide (sg ∈ sgns) && decide (0 ≤ v))))
    rw [decide_eq_false z, Bool.false_and]
end
def sp_are_resets : Spc where
  I := List Nat × Nat
  args := fun (l, n) => [.d (.tuple (inN' l)), .d (.int n)]
  cells := fun _ => []
  pre := fun (l, n) => (∀ x, x ∈ l → x < n) ∧ l.Pairwise (· < ·)
  post := fun _ r _ => r = .val (.bool true)
section
variable {P : Program} {w : World} {K : PySem.W.Frag} {mg : Str → Option Value} {base : Heap}
theorem ok_are_resets (T : Tx P K mg) : FnOk P w K mg base CX0 2 T.a_are_resets T.d_are_resets ["resets", "clocks"] (SpB K sp_are_resets) := by
  refine T.F_are_resets.ok sc_are_resets (fun vs H Q E h => spB_len h (fun _ => rfl)) (fun cdv A outer s H vs Q E hr h => ⟨_, PSs.nox ((pss_cons (ps_set (i := 2) sc_are_resets.nd rfl (.inl rfl) (pe_un un_neg pe_int))
      (pss_cons (ps_for PassesOwn.never rfl (pi_any (pv 0)) (pg_name (i := 3) sc_are_resets.nd rfl (.inl rfl) (.inr rfl))
      (pss_cons (ps_if (PW.pt (pw_or (pt_not (pt_truth (pe_call (ok_exists T) (hr.mono (by decide)) (by rfl) T.g_exists T.F_exists.kp (b_exists T.F_exists) .nil pass0 (pa_cons (pv 3) (pa_cons (pv 1) pa_nil))) (by intro _; rfl))) (pw_or1 (pt_cmpR op_leA (pv 3) (pv 2) (nomark _)))))
      (pss_one (ps_ret pe_bl))
      pss_nil)
      (pss_one (ps_set (i := 2) sc_are_resets.nd rfl (.inl rfl) (pv 3)))))
      (pss_one (ps_ret pe_bl))))), ?_⟩)
  refine go_fn (L := ["resets", "clocks", "before", "clock"]) h (fun b i hp hX => ?_)
  try dsimp only [cxOf, L2H.cxH, L2.Cx.nox, L2.Cx.wish]
  have kLET := cLET T
  have kNMC := cNMC T
  have kLON := cLON T
  have kSIG := T.w_SIGNS
  have kSTA := T.w_STAY_SIGNS
  have kSID := T.w_SIDES
  
  obtain ⟨l, n⟩ := i
  obtain ⟨h1, h2⟩ := hp
  show GO K b _ ⟨[some (.d (.tuple (inN' l))), some (.d (.int n)), none, none], []⟩ _
  repeat walk_at "z4"
  
  refine go_seq (go_for (ei_anyT (ei_tup (ev_var rfl ⟨inN' l, rfl, ?_⟩))))
  refine ⟨fun i s => ∃ x, s = ⟨[some (.d (.tuple (inN' l))), some (.d (.int n)), some (.d (.int (bfr l i))), x], []⟩, ⟨none, rfl⟩, fun _ _ _ _ => trivial, ?_, ?_⟩
  · rintro i v s2 hx ⟨x, rfl⟩
    obtain ⟨k, hk, rfl⟩ := inN_get hx
    have hkn := h1 k (List.mem_of_getElem? hk)
    have hlt := bfr_lt h2 hk
    refine gt_name ?_
    repeat walk_at "z4"
    refine ev_callV (E := fun _ => E0) ?_
    repeat walk_at "z4"
    refine ⟨((k : Int), (n : Int)), .bool true, rfl, rfl, rfl, trivial, fun _ _ h => h.trans (by rw [show decide (0 ≤ ((k : Int)) ∧ ((k : Int)) < ((n : Int))) = true from decide_eq_true (by omega)]), fun _ _ h => h, ?_⟩
    repeat walk_at "z4"
  
    refine ⟨fun h => absurd (of_decide_eq_true h) (by omega), fun _ => ?_⟩
    refine go_next ?_
    repeat walk_at "z4"
  
    show ∃ x, _ = S.mk [_, _, some (.d (.int (bfr l (i + 1)))), x] []
    rw [bfr_succ hk]
    exact ⟨_, rfl⟩
  rintro s2 ⟨x, rfl⟩
  refine go_next ?_
  repeat walk_at "z4"
  
  exact rfl
end
def sp_condition_tuples : Spc where
  I := List Cnd
  args := fun l => [.d (cndsD l)]
  cells := fun _ => []
  pre := fun l => l.length ≤ 1000
  post := fun l r _ => r = .val (cndsD l)
section
variable {P : Program} {w : World} {K : PySem.W.Frag} {mg : Str → Option Value} {base : Heap}
theorem ok_condition_tuples (T : Tx P K mg) : FnOk P w K mg base CX0 1 T.a_condition_tuples T.d_condition_tuples ["conditions"] (SpB K sp_condition_tuples) := by
  refine T.F_condition_tuples.ok sc_condition_tuples (fun vs H Q E h => spB_len h (fun _ => rfl)) (fun cdv A outer s H vs Q E hr h => ⟨_, PSs.nox ((pss_one (ps_ret (pe_callTy (call_tupA (K := K) rfl) (by rfl) T.z_tuple (by decide +kernel) (pa_cons (pe_lc (own := [("condition", 1)]) rfl sc_condition_tuples.nd (pi_any (pv 0)) (blkOk_by (own := [("condition", 1)]) (N := ["conditions", "condition"]) (sc := defScope s_condition_tuples) (by decide +kernel)) (fun _ _ _ _ _ => (pg_name (i := 1) sc_condition_tuples.nd rfl (.inl rfl) (.inr rfl))) (fun _ _ _ _ _ => pts_nil) (fun _ _ _ _ _ => (pe_callTy (call_tupA (K := K) rfl) (by rfl) T.z_tuple (by decide +kernel) (pa_cons (pv 1) pa_nil)))) pa_nil))))), ?_⟩)
  refine go_fn (L := ["conditions", "condition"]) h (fun b i hp hX => ?_)
  try dsimp only [cxOf, L2H.cxH, L2.Cx.nox, L2.Cx.wish]
  have kLET := cLET T
  have kNMC := cNMC T
  have kLON := cLON T
  have kSIG := T.w_SIGNS
  have kSTA := T.w_STAY_SIGNS
  have kSID := T.w_SIDES
  
  obtain ⟨l, rfl⟩ : ∃ l : List Cnd, l = i := ⟨i, rfl⟩
  have hl : l.length ≤ 1000 := hp
  show GO K b _ ⟨[some (.d (.tuple (l.map cndD))), none], []⟩ _
  repeat walk_at "z4"
  
  refine ev_lc (tg_name (.head _)) mg_name (ei_anyT (ei_tup (ev_var rfl ⟨l.map cndD, rfl, ?_⟩)))
  refine ⟨fun m js s => js = (l.take m).map cndD ∧ s = ⟨[some (.d (.tuple (l.map cndD))), none], [.lst js]⟩, ⟨rfl, rfl⟩, ?_, ?_, ?_⟩
  · rintro m js s3 _ ⟨_, rfl⟩
    exact ⟨trivial, rfl⟩
  · rintro m v js s3 hx ⟨rfl, rfl⟩
    obtain ⟨c, hc, rfl⟩ := map_get hx
    refine gt_name ?_
    refine fun σ H tv ta Hd ps R Q kk => kk true H _ Hd ps ⟨fun _ => ?_, fun h => (nomatch h)⟩ R
    repeat walk_at "z1"
  
    refine vc_tupT ?_
    exact ⟨cndD c, rfl, rfl, Nat.lt_of_le_of_lt (show _ ≤ 1000 by rw [List.length_map, List.length_take]; omega) (by decide), take_snoc hc, rfl⟩
  rintro js s3 ⟨rfl, rfl⟩
  rw [List.length_map, List.take_length]
  repeat walk_at "z4"
  
  refine vc_tupL ⟨_, rfl, rfl⟩ ?_
  exact rfl
end
def sp_is_place : Spc where
  I := Plc × Nat
  args := fun (p, n) => [.d (plcD p), .d (.int n)]
  cells := fun _ => []
  pre := fun (p, n) => Nm p.name ∧ ∀ c, c ∈ p.stays → Stay n c
  post := fun _ r _ => r = .val (.bool true)
section
variable {P : Program} {w : World} {K : PySem.W.Frag} {mg : Str → Option Value} {base : Heap}
theorem ok_is_place (T : Tx P K mg) : FnOk P w K mg base CX0 3 T.a_is_place T.d_is_place ["place", "clocks"] (SpB K sp_is_place) := by
  refine T.F_is_place.ok sc_is_place (fun vs H Q E h => spB_len h (fun _ => rfl)) (fun cdv A outer s H vs Q E hr h => ⟨_, PSs.nox ((pss_cons (ps_asg (pv 0) (pg_tup rfl (pgs_cons (pg_name (i := 2) sc_is_place.nd rfl (.inl rfl) (.inr rfl)) (pgs_cons (pg_name (i := 3) sc_is_place.nd rfl (.inl rfl) (.inr rfl)) (pgs_cons (pg_name (i := 4) sc_is_place.nd rfl (.inl rfl) (.inr rfl)) pgs_nil)))))
      (pss_cons (ps_if (PW.pt (pw_or (pt_not (pt_truth (pe_call (ok_is_name T) (hr.mono (by decide)) (by rfl) T.g_is_name T.F_is_name.kp (b_is_name T.F_is_name) .nil pass0 (pa_cons (pv 2) pa_nil)) (by intro _; rfl))) (pw_or1 (pt_not (pt_truth (pe_callB call_isi (by rfl) T.z_isinstance (by decide +kernel) (pa_cons (pv 4) (pa_cons (pe_bltn (v := .ty "bool") (by rfl) T.z_bool (by decide +kernel) rfl) pa_nil))) (by intro _; rfl))))))
      (pss_one (ps_ret pe_bl))
      pss_nil)
      (pss_cons (ps_for PassesOwn.never rfl (pi_any (pv 3)) (pg_name (i := 5) sc_is_place.nd rfl (.inl rfl) (.inr rfl))
      (pss_one (ps_if (pt_not (pt_truth (pe_call (ok_is_stay T) (hr.mono (by decide)) (by rfl) T.g_is_stay T.F_is_stay.kp (b_is_stay T.F_is_stay) .nil pass0 (pa_cons (pv 5) (pa_cons (pv 1) pa_nil))) (by intro _; rfl)))
      (pss_one (ps_ret pe_bl))
      pss_nil)))
      (pss_one (ps_ret pe_bl)))))), ?_⟩)
  refine go_fn (L := ["place", "clocks", "name", "stays", "pressing", "condition"]) h (fun b i hp hX => ?_)
  try dsimp only [cxOf, L2H.cxH, L2.Cx.nox, L2.Cx.wish]
  have kLET := cLET T
  have kNMC := cNMC T
  have kLON := cLON T
  have kSIG := T.w_SIGNS
  have kSTA := T.w_STAY_SIGNS
  have kSID := T.w_SIDES
  
  obtain ⟨⟨w0, sts, pr⟩, n⟩ := i
  obtain ⟨h1, h2⟩ : Nm w0 ∧ ∀ c, c ∈ sts → Stay n c := hp
  show GO K b _ ⟨[some (.d (.tuple [.str w0, cndsD sts, .bool pr])), some (.d (.int n)), none, none, none, none], []⟩ _
  refine go_seq (go_asg (ev_var rfl (gt_tup (ds := [.str w0, cndsD sts, .bool pr]) rfl ?_)))
  repeat walk_at "z4"
  refine ev_callV (E := fun _ => E0) ?_
  repeat walk_at "z4"
  refine ⟨w0, .bool true, rfl, rfl, rfl, h1, fun _ _ h => h, fun _ _ h => h, ?_⟩
  repeat walk_at "z4"
  refine go_for (ei_anyT (ei_tup (ev_var rfl ⟨sts.map cndD, rfl, ?_⟩)))
  refine ⟨fun _ s => ∃ x, s = ⟨[some (.d (.tuple [.str w0, cndsD sts, .bool pr])), some (.d (.int n)), some (.d (.str w0)), some (.d (cndsD sts)), some (.d (.bool pr)), x], []⟩, ⟨_, rfl⟩, fun _ _ _ _ => trivial, ?_, ?_⟩
  · rintro j v s2 hx ⟨x, rfl⟩
    obtain ⟨c, hc, rfl⟩ := map_get hx
    refine gt_name ?_
    repeat walk_at "z4"
    refine ev_callV (E := fun _ => E0) ?_
    repeat walk_at "z4"
    refine ⟨(c, n), .bool true, rfl, rfl, rfl, (h2 c (List.mem_of_getElem? hc)), fun _ _ h => h, fun _ _ h => h, ?_⟩
    repeat walk_at "z4"
  
    exact ⟨_, rfl⟩
  rintro s2 ⟨x, rfl⟩
  
  repeat walk_at "z4"
  
  exact rfl
end
def sp_is_move : Spc where
  I := Mov × Nat × Nat
  args := fun (m, k, n) => [.d (movD m), .d (.int k), .d (.int n)]
  cells := fun _ => []
  pre := fun (m, k, n) => MovOk k n m
  post := fun _ r _ => r = .val (.bool true)
section
variable {P : Program} {w : World} {K : PySem.W.Frag} {mg : Str → Option Value} {base : Heap}
theorem ok_is_move (T : Tx P K mg) : FnOk P w K mg base CX0 3 T.a_is_move T.d_is_move ["move", "places", "clocks"] (SpB K sp_is_move) := by
  refine T.F_is_move.ok sc_is_move (fun vs H Q E h => spB_len h (fun _ => rfl)) (fun cdv A outer s H vs Q E hr h => ⟨_, PSs.nox ((pss_cons (ps_asg (pv 0) (pg_tup rfl (pgs_cons (pg_name (i := 3) sc_is_move.nd rfl (.inl rfl) (.inr rfl)) (pgs_cons (pg_name (i := 4) sc_is_move.nd rfl (.inl rfl) (.inr rfl)) (pgs_cons (pg_name (i := 5) sc_is_move.nd rfl (.inl rfl) (.inr rfl)) (pgs_cons (pg_name (i := 6) sc_is_move.nd rfl (.inl rfl) (.inr rfl)) (pgs_cons (pg_name (i := 7) sc_is_move.nd rfl (.inl rfl) (.inr rfl)) (pgs_cons (pg_name (i := 8) sc_is_move.nd rfl (.inl rfl) (.inr rfl)) pgs_nil))))))))
      (pss_cons (ps_if (PW.pt (pw_or (pt_not (pt_truth (pe_call (ok_exists T) (hr.mono (by decide)) (by rfl) T.g_exists T.F_exists.kp (b_exists T.F_exists) .nil pass0 (pa_cons (pv 3) (pa_cons (pv 1) pa_nil))) (by intro _; rfl))) (pw_or1 (pt_not (pt_truth (pe_call (ok_exists T) (hr.mono (by decide)) (by rfl) T.g_exists T.F_exists.kp (b_exists T.F_exists) .nil pass0 (pa_cons (pv 4) (pa_cons (pv 1) pa_nil))) (by intro _; rfl))))))
      (pss_one (ps_ret pe_bl))
      pss_nil)
      (pss_cons (ps_if (PW.pt (pw_and (pt_cmpR (op_neD hr.units) (pv 5) pe_str (nomark _)) (pw_and1 (pt_not (pt_truth (pe_call (ok_is_name T) (hr.mono (by decide)) (by rfl) T.g_is_name T.F_is_name.kp (b_is_name T.F_is_name) .nil pass0 (pa_cons (pv 5) pa_nil)) (by intro _; rfl))))))
      (pss_one (ps_ret pe_bl))
      pss_nil)
      (pss_cons (ps_for PassesOwn.never rfl (pi_any (pv 6)) (pg_name (i := 9) sc_is_move.nd rfl (.inl rfl) (.inr rfl))
      (pss_one (ps_if (pt_not (pt_truth (pe_call (ok_is_guard T) (hr.mono (by decide)) (by rfl) T.g_is_guard T.F_is_guard.kp (b_is_guard T.F_is_guard) .nil pass0 (pa_cons (pv 9) (pa_cons (pv 2) pa_nil))) (by intro _; rfl)))
      (pss_one (ps_ret pe_bl))
      pss_nil)))
      (pss_one (ps_ret (pe_and (pe_call (ok_are_resets T) (hr.mono (by decide)) (by rfl) T.g_are_resets T.F_are_resets.kp (b_are_resets T.F_are_resets) .nil pass0 (pa_cons (pv 7) (pa_cons (pv 2) pa_nil))) (pe_one (pe_cmpR op_inA (pv 8) (pe_glob rfl T.g_SIDES T.r_SIDES) (by rfl))))))))))), ?_⟩)
  refine go_fn (L := ["move", "places", "clocks", "source", "target", "label", "guard", "resets", "side", "condition"]) h (fun b i hp hX => ?_)
  try dsimp only [cxOf, L2H.cxH, L2.Cx.nox, L2.Cx.wish]
  have kLET := cLET T
  have kNMC := cNMC T
  have kLON := cLON T
  have kSIG := T.w_SIGNS
  have kSTA := T.w_STAY_SIGNS
  have kSID := T.w_SIDES
  
  obtain ⟨⟨sr, tg, lb, gd, rs, sd⟩, kk, n⟩ := i
  obtain ⟨h1, h2, h3, h4, h5, h6, h7⟩ : MovOk kk n ⟨sr, tg, lb, gd, rs, sd⟩ := hp
  have h1 : sr < kk := h1
  have h2 : tg < kk := h2
  have h3 : lb = "" ∨ Nm lb := h3
  have h7 : sd = "ours" ∨ sd = "world" := h7
  show GO K b _ ⟨[some (.d (.tuple [.int sr, .int tg, .str lb, cndsD gd, .tuple (inN' rs), .str sd])), some (.d (.int kk)), some (.d (.int n)), none, none, none, none, none, none, none], []⟩ _
  refine go_seq (go_asg (ev_var rfl (gt_tup (ds := [.int sr, .int tg, .str lb, cndsD gd, .tuple (inN' rs), .str sd]) rfl ?_)))
  repeat (first | (with_reducible refine gts_consD ?_) | (with_reducible refine gt_name ?_) | (with_reducible refine gts_nilD ?_))
  
  have st0 : ∃ s0, s0 = S.mk [some (.d (.tuple [.int sr, .int tg, .str lb, cndsD gd, .tuple (inN' rs), .str sd])), some (.d (.int kk)), some (.d (.int n)), some (.d (.int sr)), some (.d (.int tg)), some (.d (.str lb)), some (.d (cndsD gd)), some (.d (.tuple (inN' rs))), some (.d (.str sd)), none] [] := ⟨_, rfl⟩
  obtain ⟨s0, hs0⟩ := st0
  show GO K b _ ⟨[some (.d (.tuple [.int sr, .int tg, .str lb, cndsD gd, .tuple (inN' rs), .str sd])), some (.d (.int kk)), some (.d (.int n)), some (.d (.int sr)), some (.d (.int tg)), some (.d (.str lb)), some (.d (cndsD gd)), some (.d (.tuple (inN' rs))), some (.d (.str sd)), none], []⟩ _
  refine go_mid (fun s => s = s0) ?_ ?_
  · repeat walk_at "z4"
    refine ev_callV (E := fun _ => E0) ?_
    repeat walk_at "z4"
    refine ⟨((sr : Int), (kk : Int)), .bool true, rfl, rfl, rfl, trivial, fun _ _ h => h.trans (by rw [show decide (0 ≤ ((sr : Int)) ∧ ((sr : Int)) < ((kk : Int))) = true from decide_eq_true (by omega)]), fun _ _ h => h, ?_⟩
    repeat walk_at "z4"
    refine ev_callV (E := fun _ => E0) ?_
    repeat walk_at "z4"
    refine ⟨((tg : Int), (kk : Int)), .bool true, rfl, rfl, rfl, trivial, fun _ _ h => h.trans (by rw [show decide (0 ≤ ((tg : Int)) ∧ ((tg : Int)) < ((kk : Int))) = true from decide_eq_true (by omega)]), fun _ _ h => h, ?_⟩
    repeat walk_at "z4"
  
    exact hs0.symm
  rintro s1 rfl
  subst hs0
  refine go_mid (fun s => s = ⟨[some (.d (.tuple [.int sr, .int tg, .str lb, cndsD gd, .tuple (inN' rs), .str sd])), some (.d (.int kk)), some (.d (.int n)), some (.d (.int sr)), some (.d (.int tg)), some (.d (.str lb)), some (.d (cndsD gd)), some (.d (.tuple (inN' rs))), some (.d (.str sd)), none], []⟩) ?_ ?_
  · rcases h3 with e | e
    · subst e
      repeat walk_at "z4"
  
      exact rfl
    · repeat walk_at "z4"
  
      refine v2_neSf e.ok (by decide +kernel) e.ne ?_
      repeat walk_at "z4"
      refine ev_callV (E := fun _ => E0) ?_
      repeat walk_at "z4"
      refine ⟨lb, .bool true, rfl, rfl, rfl, e, fun _ _ h => h, fun _ _ h => h, ?_⟩
      repeat walk_at "z4"
  
      exact rfl
  rintro s1 rfl
  refine go_seq (go_for (ei_anyT (ei_tup (ev_var rfl ⟨gd.map cndD, rfl, ?_⟩))))
  refine ⟨fun _ s => ∃ x, s = ⟨[some (.d (.tuple [.int sr, .int tg, .str lb, cndsD gd, .tuple (inN' rs), .str sd])), some (.d (.int kk)), some (.d (.int n)), some (.d (.int sr)), some (.d (.int tg)), some (.d (.str lb)), some (.d (cndsD gd)), some (.d (.tuple (inN' rs))), some (.d (.str sd)), x], []⟩, ⟨_, rfl⟩, fun _ _ _ _ => trivial, ?_, ?_⟩
  · rintro j v s2 hx ⟨x, rfl⟩
    obtain ⟨c, hc, rfl⟩ := map_get hx
    refine gt_name ?_
    repeat walk_at "z4"
    refine ev_callV (E := fun _ => E0) ?_
    repeat walk_at "z4"
    refine ⟨(((c.1 : Int), c.2), n), .bool true, rfl, rfl, rfl, trivial, fun _ _ h => h.trans (by show Rv.val (.bool (grdB n ((c.1 : Int), c.2))) = _; rw [grdB_of (h4 c (List.mem_of_getElem? hc))]), fun _ _ h => h, ?_⟩
    repeat walk_at "z4"
  
    exact ⟨_, rfl⟩
  rintro s2 ⟨x, rfl⟩
  
  repeat walk_at "z4"
  refine ev_callV (E := fun _ => E0) ?_
  repeat walk_at "z4"
  refine ⟨(rs, n), .bool true, rfl, rfl, rfl, ⟨h5, h6⟩, fun _ _ h => h, fun _ _ h => h, ?_⟩
  repeat walk_at "z4"
  
  have hb : decide (sd ∈ ([("ours" : Str), ("world" : Str)] : List Str)) = true := by rcases h7 with rfl | rfl <;> decide +kernel
  exact congrArg (fun q => Rv.val (.bool q)) hb
end
def sp_bad_clock : Spc where
  I := List Str
  args := fun l => [.d (.tuple (l.map .str))]
  cells := fun _ => []
  pre := fun l => (∀ w, w ∈ l → Nm w) ∧ l.Nodup ∧ l.length ≤ 1000
  post := fun _ r _ => r = .val .none
section
variable {P : Program} {w : World} {K : PySem.W.Frag} {mg : Str → Option Value} {base : Heap}
theorem ok_bad_clock (T : Tx P K mg) : FnOk P w K mg base CX0 2 T.a_bad_clock T.d_bad_clock ["clocks"] (SpB K sp_bad_clock) := by
  refine T.F_bad_clock.ok sc_bad_clock (fun vs H Q E h => spB_len h (fun _ => rfl)) (fun cdv A outer s H vs Q E hr h => ⟨_, PSs.nox ((pss_cons (ps_set (i := 1) sc_bad_clock.nd rfl (.inl rfl) pe_dnewK)
      (pss_cons (ps_for PassesOwn.never rfl (pi_enumA (by rfl) T.z_enumerate (pa_cons (pv 0) pa_nil)) (pg_tup rfl (pgs_cons (pg_name (i := 2) sc_bad_clock.nd rfl (.inl rfl) (.inr rfl)) (pgs_cons (pg_name (i := 3) sc_bad_clock.nd rfl (.inl rfl) (.inr rfl)) pgs_nil)))
      (pss_cons (ps_if (PW.pt (pw_or (pt_not (pt_truth (pe_call (ok_is_name T) (hr.mono (by decide)) (by rfl) T.g_is_name T.F_is_name.kp (b_is_name T.F_is_name) .nil pass0 (pa_cons (pv 3) pa_nil)) (by intro _; rfl))) (pw_or1 (pt_cmp (pc_din (hu_of hr) (pv 3) (pv 1))))))
      (pss_one (ps_ret (pv 2)))
      pss_nil)
      (pss_one (ps_dput (hu_of hr) (pv 1) (pv 3) pe_bl rfl))))
      (pss_one (ps_ret pe_non))))), ?_⟩)
  refine go_fn (L := ["clocks", "known", "index", "name"]) h (fun b i hp hX => ?_)
  try dsimp only [cxOf, L2H.cxH, L2.Cx.nox, L2.Cx.wish]
  have kLET := cLET T
  have kNMC := cNMC T
  have kLON := cLON T
  have kSIG := T.w_SIGNS
  have kSTA := T.w_STAY_SIGNS
  have kSID := T.w_SIDES
  
  obtain ⟨l, rfl⟩ : ∃ l : List Str, l = i := ⟨i, rfl⟩
  obtain ⟨h1, h2, h3⟩ := hp
  show GO K b _ ⟨[some (.d (.tuple (l.map .str))), none, none, none], []⟩ _
  refine go_seq (go_asg (ev_dnew ?_))
  repeat walk_at "z4"
  refine go_seq (go_for (ei_enumA (ea_cons (ev_var rfl (ea_nil ⟨_, l.map .str, fun _ => True, false, rfl, rfl, trivial, ?_⟩)))))
  refine ⟨fun i s => ∃ x y kvs, KN (l.take i) kvs ∧ s = ⟨[some (.d (.tuple (l.map .str))), some (.o 0), x, y], [.dK kvs]⟩, ⟨_, _, _, kn_nil, rfl⟩, fun _ _ _ _ => trivial, ?_, ?_⟩
  · rintro i v s2 hx ⟨x, y, kvs, hk, rfl⟩
    obtain ⟨w, hw, rfl⟩ := enm_get hx
    have hil := (List.getElem?_eq_some_iff.mp hw).1
    refine gt_tup (ds := [.int i, .str w]) rfl ?_
    repeat (first | (with_reducible refine gts_consD ?_) | (with_reducible refine gt_name ?_) | (with_reducible refine gts_nilD ?_))
    repeat walk_at "z4"
    refine ev_callV (E := fun _ => E0) ?_
    repeat walk_at "z4"
    refine ⟨w, .bool true, rfl, rfl, rfl, (h1 w (List.mem_of_getElem? hw)), fun _ _ h => h, fun _ _ h => h, ?_⟩
    repeat walk_at "z4"
  
    refine ⟨0, kvs, .inr w, rfl, rfl, rfl, ?_⟩
    rw [hk.has, decide_eq_false (nd_take h2 hw)]
    repeat walk_at "z4"
  
    refine ⟨0, kvs, .inr w, .bool true, rfl, rfl, rfl, rfl, Nat.lt_of_le_of_lt (Nat.le_trans hk.len (by rw [List.length_take]; omega)) (show 1000 < sizeLine by decide), ?_⟩
    refine ⟨_, _, _, ?_, rfl⟩
    rw [take_snoc' hw]
    exact kn_put hk
  rintro s2 ⟨x, y, kvs, hk, rfl⟩
  refine go_next ?_
  repeat walk_at "z4"
  
  exact rfl
end
def sp_bad_place : Spc where
  I := List Plc × Nat
  args := fun (l, n) => [.d (.tuple (l.map plcD)), .d (.int n)]
  cells := fun _ => []
  pre := fun (l, n) => 0 < l.length ∧ (∀ p, p ∈ l → Nm p.name ∧ ∀ c, c ∈ p.stays → Stay n c) ∧ (l.map (·.name)).Nodup ∧ l.length ≤ 1000
  post := fun _ r _ => r = .val .none
section
variable {P : Program} {w : World} {K : PySem.W.Frag} {mg : Str → Option Value} {base : Heap}
theorem ok_bad_place (T : Tx P K mg) : FnOk P w K mg base CX0 4 T.a_bad_place T.d_bad_place ["places", "clocks"] (SpB K sp_bad_place) := by
  refine T.F_bad_place.ok sc_bad_place (fun vs H Q E h => spB_len h (fun _ => rfl)) (fun cdv A outer s H vs Q E hr h => ⟨_, PSs.nox ((pss_cons (ps_if (pt_cmpR (op_eqD hr.units) (pe_callB call_len (by rfl) T.z_len (by decide +kernel) (pa_cons (pv 0) pa_nil)) pe_int (nomark _))
      (pss_one (ps_ret pe_int))
      pss_nil)
      (pss_cons (ps_set (i := 2) sc_bad_place.nd rfl (.inl rfl) pe_dnewK)
      (pss_cons (ps_for PassesOwn.never rfl (pi_enumA (by rfl) T.z_enumerate (pa_cons (pv 0) pa_nil)) (pg_tup rfl (pgs_cons (pg_name (i := 3) sc_bad_place.nd rfl (.inl rfl) (.inr rfl)) (pgs_cons (pg_name (i := 4) sc_bad_place.nd rfl (.inl rfl) (.inr rfl)) pgs_nil)))
      (pss_cons (ps_if (PW.pt (pw_or (pt_not (pt_truth (pe_call (ok_is_place T) (hr.mono (by decide)) (by rfl) T.g_is_place T.F_is_place.kp (b_is_place T.F_is_place) .nil pass0 (pa_cons (pv 4) (pa_cons (pv 1) pa_nil))) (by intro _; rfl))) (pw_or1 (pt_cmp (pc_din (hu_of hr) (pe_ix ix_seq (pv 4) pe_int (fun _ _ => rfl)) (pv 2))))))
      (pss_one (ps_ret (pv 3)))
      pss_nil)
      (pss_one (ps_dput (hu_of hr) (pv 2) (pe_ix ix_seq (pv 4) pe_int (fun _ _ => rfl)) pe_bl rfl))))
      (pss_one (ps_ret pe_non)))))), ?_⟩)
  refine go_fn (L := ["places", "clocks", "known", "index", "place"]) h (fun b i hp hX => ?_)
  try dsimp only [cxOf, L2H.cxH, L2.Cx.nox, L2.Cx.wish]
  have kLET := cLET T
  have kNMC := cNMC T
  have kLON := cLON T
  have kSIG := T.w_SIGNS
  have kSTA := T.w_STAY_SIGNS
  have kSID := T.w_SIDES
  
  obtain ⟨l, n⟩ := i
  obtain ⟨h0, h1, h2, h3⟩ := hp
  show GO K b _ ⟨[some (.d (.tuple (l.map plcD))), some (.d (.int n)), none, none, none], []⟩ _
  repeat walk_at "z4"
  
  refine ⟨fun z => absurd z (by simp; intro z; rw [z] at h0; exact absurd h0 (by decide)), fun _ => ?_⟩
  refine go_next ?_
  refine go_seq (go_asg (ev_dnew ?_))
  repeat walk_at "z4"
  refine go_seq (go_for (ei_enumA (ea_cons (ev_var rfl (ea_nil ⟨_, l.map plcD, fun _ => True, false, rfl, rfl, trivial, ?_⟩)))))
  refine ⟨fun i s => ∃ x y kvs, KN ((l.take i).map (·.name)) kvs ∧ s = ⟨[some (.d (.tuple (l.map plcD))), some (.d (.int n)), some (.o 0), x, y], [.dK kvs]⟩, ⟨_, _, _, kn_nil, rfl⟩, fun _ _ _ _ => trivial, ?_, ?_⟩
  · rintro i v s2 hx ⟨x, y, kvs, hk, rfl⟩
    obtain ⟨⟨w, sts, pr⟩, hw, rfl⟩ := enm_get hx
    have hil := (List.getElem?_eq_some_iff.mp hw).1
    have hne : w ∉ (l.take i).map (·.name) := by
      rw [List.map_take]
      exact nd_take h2 (by rw [List.getElem?_map, hw]; rfl)
    refine gt_tup (ds := [.int i, .tuple [.str w, cndsD sts, .bool pr]]) rfl ?_
    repeat (first | (with_reducible refine gts_consD ?_) | (with_reducible refine gt_name ?_) | (with_reducible refine gts_nilD ?_))
    repeat walk_at "z4"
    refine ev_callV (E := fun _ => E0) ?_
    repeat walk_at "z4"
    refine ⟨(⟨w, sts, pr⟩, n), .bool true, rfl, rfl, rfl, (h1 _ (List.mem_of_getElem? hw)), fun _ _ h => h, fun _ _ h => h, ?_⟩
    repeat walk_at "z4"
  
    refine ⟨0, kvs, .inr w, rfl, rfl, rfl, ?_⟩
    rw [hk.has, decide_eq_false hne]
    repeat walk_at "z4"
  
    refine ⟨0, kvs, .inr w, .bool true, rfl, rfl, rfl, rfl, Nat.lt_of_le_of_lt (Nat.le_trans hk.len (by rw [List.length_map, List.length_take]; omega)) (show 1000 < sizeLine by decide), ?_⟩
    refine ⟨_, _, _, ?_, rfl⟩
    rw [take_snoc' hw, List.map_append]
    exact kn_put hk
  rintro s2 ⟨x, y, kvs, hk, rfl⟩
  refine go_next ?_
  repeat walk_at "z4"
  
  exact rfl
end
def sp_bad_move : Spc where
  I := List Mov × Nat × Nat
  args := fun (l, k, n) => [.d (.tuple (l.map movD)), .d (.int k), .d (.int n)]
  cells := fun _ => []
  pre := fun (l, k, n) => ∀ m, m ∈ l → MovOk k n m
  post := fun _ r _ => r = .val .none
section
variable {P : Program} {w : World} {K : PySem.W.Frag} {mg : Str → Option Value} {base : Heap}
theorem ok_bad_move (T : Tx P K mg) : FnOk P w K mg base CX0 4 T.a_bad_move T.d_bad_move ["moves", "places", "clocks"] (SpB K sp_bad_move) := by
  refine T.F_bad_move.ok sc_bad_move (fun vs H Q E h => spB_len h (fun _ => rfl)) (fun cdv A outer s H vs Q E hr h => ⟨_, PSs.nox ((pss_cons (ps_for PassesOwn.never rfl (pi_enumA (by rfl) T.z_enumerate (pa_cons (pv 0) pa_nil)) (pg_tup rfl (pgs_cons (pg_name (i := 3) sc_bad_move.nd rfl (.inl rfl) (.inr rfl)) (pgs_cons (pg_name (i := 4) sc_bad_move.nd rfl (.inl rfl) (.inr rfl)) pgs_nil)))
      (pss_one (ps_if (pt_not (pt_truth (pe_call (ok_is_move T) (hr.mono (by decide)) (by rfl) T.g_is_move T.F_is_move.kp (b_is_move T.F_is_move) .nil pass0 (pa_cons (pv 4) (pa_cons (pv 1) (pa_cons (pv 2) pa_nil)))) (by intro _; rfl)))
      (pss_one (ps_ret (pv 3)))
      pss_nil)))
      (pss_one (ps_ret pe_non)))), ?_⟩)
  refine go_fn (L := ["moves", "places", "clocks", "index", "move"]) h (fun b i hp hX => ?_)
  try dsimp only [cxOf, L2H.cxH, L2.Cx.nox, L2.Cx.wish]
  have kLET := cLET T
  have kNMC := cNMC T
  have kLON := cLON T
  have kSIG := T.w_SIGNS
  have kSTA := T.w_STAY_SIGNS
  have kSID := T.w_SIDES
  
  obtain ⟨l, k, n⟩ := i
  have h1 : ∀ m, m ∈ l → MovOk k n m := hp
  show GO K b _ ⟨[some (.d (.tuple (l.map movD))), some (.d (.int k)), some (.d (.int n)), none, none], []⟩ _
  refine go_seq (go_for (ei_enumA (ea_cons (ev_var rfl (ea_nil ⟨_, l.map movD, fun _ => True, false, rfl, rfl, trivial, ?_⟩)))))
  refine ⟨fun i s => ∃ x y, s = ⟨[some (.d (.tuple (l.map movD))), some (.d (.int k)), some (.d (.int n)), x, y], []⟩, ⟨_, _, rfl⟩, fun _ _ _ _ => trivial, ?_, ?_⟩
  · rintro i v s2 hx ⟨x, y, rfl⟩
    obtain ⟨m, hw, rfl⟩ := enm_get hx
    refine gt_tup (ds := [.int i, movD m]) rfl ?_
    repeat (first | (with_reducible refine gts_consD ?_) | (with_reducible refine gt_name ?_) | (with_reducible refine gts_nilD ?_))
    repeat walk_at "z4"
    refine ev_callV (E := fun _ => E0) ?_
    repeat walk_at "z4"
    refine ⟨(m, k, n), .bool true, rfl, rfl, rfl, (h1 _ (List.mem_of_getElem? hw)), fun _ _ h => h, fun _ _ h => h, ?_⟩
    repeat walk_at "z4"
  
    exact ⟨_, _, rfl⟩
  rintro s2 ⟨x, y, rfl⟩
  dsimp only
  repeat walk_at "z4"
  
  exact rfl
end
def sp_bad_rush : Spc where
  I := List Str × List Mov
  args := fun (r, ms) => [.d (.tuple (r.map .str)), .d (.tuple (ms.map movD))]
  cells := fun _ => []
  pre := fun (r, ms) => (∀ w, w ∈ r → Nm w) ∧ (r.Pairwise fun a b => a.cps.toList < b.cps.toList) ∧ (∀ m, m ∈ ms → 0 < m.guard.length → m.label ∉ r) ∧ ms.length ≤ 1000
  post := fun _ r _ => r = .val .none
section
variable {P : Program} {w : World} {K : PySem.W.Frag} {mg : Str → Option Value} {base : Heap}
theorem ok_bad_rush (T : Tx P K mg) : FnOk P w K mg base CX0 2 T.a_bad_rush T.d_bad_rush ["rush", "moves"] (SpB K sp_bad_rush) := by
  refine T.F_bad_rush.ok sc_bad_rush (fun vs H Q E h => spB_len h (fun _ => rfl)) (fun cdv A outer s H vs Q E hr h => ⟨_, PSs.nox ((pss_cons (ps_setDc (i := 2) (own := [("move", 6)]) rfl sc_bad_rush.nd rfl rfl (sw_trueD rfl rfl rfl (by decide +kernel)) (pi_any (pv 1)) (blkOk_by (own := [("move", 6)]) (N := ["rush", "moves", "guarded", "before", "index", "word", "move"]) (sc := defScope s_bad_rush) (by decide +kernel)) (fun _ _ _ _ _ => (pg_name (i := 6) sc_bad_rush.nd rfl (.inl rfl) (.inr rfl))) (fun _ _ _ _ _ => (pts_one (pt_cmpR op_gtA (pe_callB (call_lenK (K := K) rfl) (by rfl) T.z_len (by decide +kernel) (pa_cons (pe_ix (ix_seqK (K := K) rfl) (pv 6) pe_int (fun _ _ => rfl)) pa_nil)) pe_int (nomark _)))) (fun _ _ _ _ _ => (pe_ix (ix_seqK (K := K) rfl) (pv 6) pe_int (fun _ _ => rfl))) (fun _ _ _ _ _ => pe_bl))
      (pss_cons (ps_set (i := 3) sc_bad_rush.nd rfl (.inl rfl) pe_str)
      (pss_cons (ps_for PassesOwn.never rfl (pi_enumA (by rfl) T.z_enumerate (pa_cons (pv 0) pa_nil)) (pg_tup rfl (pgs_cons (pg_name (i := 4) sc_bad_rush.nd rfl (.inl rfl) (.inr rfl)) (pgs_cons (pg_name (i := 5) sc_bad_rush.nd rfl (.inl rfl) (.inr rfl)) pgs_nil)))
      (pss_cons (ps_if (PW.pt (pw_or (pt_not (pt_truth (pe_call (ok_is_name T) (hr.mono (by decide)) (by rfl) T.g_is_name T.F_is_name.kp (b_is_name T.F_is_name) .nil pass0 (pa_cons (pv 5) pa_nil)) (by intro _; rfl))) (pw_or (pt_cmpR op_leA (pv 5) (pv 3) (nomark _)) (pw_or1 (pt_cmp (pc_din (hu_of hr) (pv 5) (pv 2)))))))
      (pss_one (ps_ret (pv 4)))
      pss_nil)
      (pss_one (ps_set (i := 3) sc_bad_rush.nd rfl (.inl rfl) (pv 5)))))
      (pss_one (ps_ret pe_non)))))), ?_⟩)
  refine go_fn (L := ["rush", "moves", "guarded", "before", "index", "word", "move"]) h (fun b i hp hX => ?_)
  try dsimp only [cxOf, L2H.cxH, L2.Cx.nox, L2.Cx.wish]
  have kLET := cLET T
  have kNMC := cNMC T
  have kLON := cLON T
  have kSIG := T.w_SIGNS
  have kSTA := T.w_STAY_SIGNS
  have kSID := T.w_SIDES
  
  obtain ⟨r, ms⟩ := i
  obtain ⟨h1, h2, h3, h4⟩ := hp
  show GO K b _ ⟨[some (.d (.tuple (r.map .str))), some (.d (.tuple (ms.map movD))), none, none, none, none, none], []⟩ _
  refine go_seq (go_asg (ev_dc (tg_name (.head _)) mg_name (ei_anyT (ei_tup (ev_var rfl ⟨ms.map movD, rfl, ?_⟩)))))
  refine ⟨fun m js s => KN (glab (ms.take m)) js ∧ s = ⟨[some (.d (.tuple (r.map .str))), some (.d (.tuple (ms.map movD))), none, none, none, none, none], [.dK js]⟩, ⟨kn_nil, rfl⟩, ?_, ?_, ?_⟩
  · rintro m js s3 _ ⟨_, rfl⟩
    exact ⟨trivial, rfl⟩
  · rintro m v js s3 hx ⟨hk, rfl⟩
    obtain ⟨⟨sr, tg, lb, gd, rs, sd⟩, hc, rfl⟩ := map_get hx
    show GT K b _ (.d (.tuple [.int sr, .int tg, .str lb, .tuple (gd.map cndD), .tuple (inN' rs), .str sd])) _ _
    refine gt_name ?_
    repeat walk_at "z4"
  
    rw [List.length_map]
    refine ⟨fun z => ?_, fun z => ?_⟩
    · have z : (0 : Int) < gd.length := of_decide_eq_true z
      repeat walk_at "z4"
  
      refine ⟨.inr lb, .bool true, rfl, rfl, rfl, Nat.lt_of_le_of_lt (Nat.le_trans hk.len (Nat.le_trans glab_len (by rw [List.length_take]; omega))) (show 1000 < sizeLine by decide), ?_, rfl⟩
      rw [glab_yes hc (show 0 < gd.length by omega)]
      exact kn_put hk
    · have z : ¬ (0 : Int) < gd.length := of_decide_eq_false z
      refine ⟨?_, rfl⟩
      rw [glab_no hc (show ¬ 0 < gd.length by omega)]
      exact hk
  rintro kvs s3 ⟨hk, rfl⟩
  rw [List.length_map, List.take_length] at hk
  refine gt_name ?_
  repeat walk_at "z4"
  refine go_seq (go_for (ei_enumA (ea_cons (ev_var rfl (ea_nil ⟨_, r.map .str, fun _ => True, false, rfl, rfl, trivial, ?_⟩)))))
  refine ⟨fun i s => ∃ x y, s = ⟨[some (.d (.tuple (r.map .str))), some (.d (.tuple (ms.map movD))), some (.o 0), some (.d (.str (bfS r i))), x, y, none], [.dK kvs]⟩, ⟨_, _, rfl⟩, fun _ _ _ _ => trivial, ?_, ?_⟩
  · rintro i v s2 hx ⟨x, y, rfl⟩
    obtain ⟨w, hw, rfl⟩ := enm_get hx
    have hm := List.mem_of_getElem? hw
    have hng : w ∉ glab ms := fun h => by
      obtain ⟨m, h5, h6, h7⟩ := glab_mem h
      exact h3 m h5 h6 (h7 ▸ hm)
    refine gt_tup (ds := [.int i, .str w]) rfl ?_
    repeat (first | (with_reducible refine gts_consD ?_) | (with_reducible refine gt_name ?_) | (with_reducible refine gts_nilD ?_))
    repeat walk_at "z4"
    refine ev_callV (E := fun _ => E0) ?_
    repeat walk_at "z4"
    refine ⟨w, .bool true, rfl, rfl, rfl, (h1 w hm), fun _ _ h => h, fun _ _ h => h, ?_⟩
    repeat walk_at "z4"
  
    refine v2_leS ?_
    rw [decide_eq_true (bfS_lt h2 h1 hw)]
    repeat walk_at "z4"
  
    refine ⟨0, kvs, .inr w, rfl, rfl, rfl, ?_⟩
    rw [hk.has, decide_eq_false hng]
    repeat walk_at "z4"
  
    show ∃ x y, _ = S.mk [_, _, _, some (.d (.str (bfS r (i + 1)))), x, y, none] _
    rw [bfS_succ hw]
    exact ⟨_, _, rfl⟩
  rintro s2 ⟨x, y, rfl⟩
  refine go_next ?_
  repeat walk_at "z4"
  
  exact rfl
end
def sp_place_tuple : Spc where
  I := Plc
  args := fun p => [.d (plcD p)]
  cells := fun _ => []
  pre := fun p => p.stays.length ≤ 1000
  post := fun p r _ => r = .val (plcD p)
section
variable {P : Program} {w : World} {K : PySem.W.Frag} {mg : Str → Option Value} {base : Heap}
theorem ok_place_tuple (T : Tx P K mg) : FnOk P w K mg base CX0 2 T.a_place_tuple T.d_place_tuple ["place"] (SpB K sp_place_tuple) := by
  refine T.F_place_tuple.ok sc_place_tuple (fun vs H Q E h => spB_len h (fun _ => rfl)) (fun cdv A outer s H vs Q E hr h => ⟨_, PSs.nox ((pss_cons (ps_asg (pv 0) (pg_tup rfl (pgs_cons (pg_name (i := 1) sc_place_tuple.nd rfl (.inl rfl) (.inr rfl)) (pgs_cons (pg_name (i := 2) sc_place_tuple.nd rfl (.inl rfl) (.inr rfl)) (pgs_cons (pg_name (i := 3) sc_place_tuple.nd rfl (.inl rfl) (.inr rfl)) pgs_nil)))))
      (pss_one (ps_ret (pe_tup (pa_cons (pv 1) (pa_cons (pe_call (ok_condition_tuples T) (hr.mono (by decide)) (by rfl) T.g_condition_tuples T.F_condition_tuples.kp (b_condition_tuples T.F_condition_tuples) .nil pass0 (pa_cons (pv 2) pa_nil)) (pa_cons (pv 3) pa_nil)))))))), ?_⟩)
  refine go_fn (L := ["place", "name", "stays", "pressing"]) h (fun b i hp hX => ?_)
  try dsimp only [cxOf, L2H.cxH, L2.Cx.nox, L2.Cx.wish]
  have kLET := cLET T
  have kNMC := cNMC T
  have kLON := cLON T
  have kSIG := T.w_SIGNS
  have kSTA := T.w_STAY_SIGNS
  have kSID := T.w_SIDES
  
  obtain ⟨w0, sts, pr⟩ := i
  have hl : sts.length ≤ 1000 := hp
  show GO K b _ ⟨[some (.d (.tuple [.str w0, cndsD sts, .bool pr])), none, none, none], []⟩ _
  refine go_seq (go_asg (ev_var rfl (gt_tup (ds := [.str w0, cndsD sts, .bool pr]) rfl ?_)))
  repeat walk_at "z4"
  refine ev_callV (E := fun _ => E0) ?_
  repeat walk_at "z4"
  refine ⟨sts, cndsD sts, rfl, rfl, rfl, hl, fun _ _ h => h, fun _ _ h => h, ?_⟩
  repeat walk_at "z4"
  
  exact rfl
end
def sp_move_tuple : Spc where
  I := Mov
  args := fun m => [.d (movD m)]
  cells := fun _ => []
  pre := fun m => m.guard.length ≤ 1000
  post := fun m r _ => r = .val (movD m)
section
variable {P : Program} {w : World} {K : PySem.W.Frag} {mg : Str → Option Value} {base : Heap}
theorem ok_move_tuple (T : Tx P K mg) : FnOk P w K mg base CX0 2 T.a_move_tuple T.d_move_tuple ["move"] (SpB K sp_move_tuple) := by
  refine T.F_move_tuple.ok sc_move_tuple (fun vs H Q E h => spB_len h (fun _ => rfl)) (fun cdv A outer s H vs Q E hr h => ⟨_, PSs.nox ((pss_cons (ps_asg (pv 0) (pg_tup rfl (pgs_cons (pg_name (i := 1) sc_move_tuple.nd rfl (.inl rfl) (.inr rfl)) (pgs_cons (pg_name (i := 2) sc_move_tuple.nd rfl (.inl rfl) (.inr rfl)) (pgs_cons (pg_name (i := 3) sc_move_tuple.nd rfl (.inl rfl) (.inr rfl)) (pgs_cons (pg_name (i := 4) sc_move_tuple.nd rfl (.inl rfl) (.inr rfl)) (pgs_cons (pg_name (i := 5) sc_move_tuple.nd rfl (.inl rfl) (.inr rfl)) (pgs_cons (pg_name (i := 6) sc_move_tuple.nd rfl (.inl rfl) (.inr rfl)) pgs_nil))))))))
      (pss_one (ps_ret (pe_tup (pa_cons (pv 1) (pa_cons (pv 2) (pa_cons (pv 3) (pa_cons (pe_call (ok_condition_tuples T) (hr.mono (by decide)) (by rfl) T.g_condition_tuples T.F_condition_tuples.kp (b_condition_tuples T.F_condition_tuples) .nil pass0 (pa_cons (pv 4) pa_nil)) (pa_cons (pe_callTy (call_tupA (K := K) rfl) (by rfl) T.z_tuple (by decide +kernel) (pa_cons (pv 5) pa_nil)) (pa_cons (pv 6) pa_nil))))))))))), ?_⟩)
  refine go_fn (L := ["move", "source", "target", "label", "guard", "resets", "side"]) h (fun b i hp hX => ?_)
  try dsimp only [cxOf, L2H.cxH, L2.Cx.nox, L2.Cx.wish]
  have kLET := cLET T
  have kNMC := cNMC T
  have kLON := cLON T
  have kSIG := T.w_SIGNS
  have kSTA := T.w_STAY_SIGNS
  have kSID := T.w_SIDES
  
  obtain ⟨sr, tg, lb, gd, rs, sd⟩ := i
  have hl : gd.length ≤ 1000 := hp
  show GO K b _ ⟨[some (.d (.tuple [.int sr, .int tg, .str lb, cndsD gd, .tuple (inN' rs), .str sd])), none, none, none, none, none, none], []⟩ _
  refine go_seq (go_asg (ev_var rfl (gt_tup (ds := [.int sr, .int tg, .str lb, cndsD gd, .tuple (inN' rs), .str sd]) rfl ?_)))
  repeat (first | (with_reducible refine gts_consD ?_) | (with_reducible refine gt_name ?_) | (with_reducible refine gts_nilD ?_))
  repeat walk_at "z4"
  refine ev_callV (E := fun _ => E0) ?_
  repeat walk_at "z4"
  refine ⟨gd, cndsD gd, rfl, rfl, rfl, hl, fun _ _ h => h, fun _ _ h => h, ?_⟩
  repeat walk_at "z4"
  
  refine vc_tupT ?_
  repeat walk_at "z4"
  
  exact rfl
end
def sp_moves_by_source : Spc where
  I := List Mov × Nat
  args := fun (ms, k) => [.d (.tuple (ms.map movD)), .d (.int k)]
  cells := fun _ => []
  pre := fun (ms, k) => (∀ m, m ∈ ms → m.src < k) ∧ k ≤ 1000 ∧ ms.length ≤ 1000
  post := fun (ms, k) r _ => r = .val (.list ((List.range k).map fun p => .list (lvs ms p)))
section
variable {P : Program} {w : World} {K : PySem.W.Frag} {mg : Str → Option Value} {base : Heap}
theorem ok_moves_by_source (T : Tx P K mg) : FnOk P w K mg base CX0 1 T.a_moves_by_source T.d_moves_by_source ["moves", "places"] (SpB K sp_moves_by_source) := by
  refine T.F_moves_by_source.ok sc_moves_by_source (fun vs H Q E h => spB_len h (fun _ => rfl)) (fun cdv A outer s H vs Q E hr h => ⟨_, PSs.nox ((pss_cons (ps_setLc (i := 2) (own := [("_", 5)]) rfl sc_moves_by_source.nd rfl rfl (sw_true rfl rfl rfl (by decide +kernel)) (pi_range1 (by rfl) T.z_range (pa_cons (pv 1) pa_nil)) (blkOk_by (own := [("_", 5)]) (N := ["moves", "places", "found", "index", "move", "_"]) (sc := defScope s_moves_by_source) (by decide +kernel)) (fun _ _ _ _ _ => (pg_name (i := 5) sc_moves_by_source.nd rfl (.inl rfl) (.inr rfl))) (fun _ _ _ _ _ => pts_nil) (fun _ _ _ _ _ => (pe_lst pa_nil)))
      (pss_cons (ps_for PassesOwn.never rfl (pi_enumA (by rfl) T.z_enumerate (pa_cons (pv 0) pa_nil)) (pg_tup rfl (pgs_cons (pg_name (i := 3) sc_moves_by_source.nd rfl (.inl rfl) (.inr rfl)) (pgs_cons (pg_name (i := 4) sc_moves_by_source.nd rfl (.inl rfl) (.inr rfl)) pgs_nil)))
      (pss_one (ps_expr (pe_bm PySem.F.plainAttrs_list PySem.F.slot_list_append PySem.F.type_list_append mt_append (pe_ix ix_seq (pv 2) (pe_ix ix_seq (pv 4) pe_int (fun _ _ => rfl)) (fun _ _ => rfl)) (pa_cons (pv 3) pa_nil)))))
      (pss_one (ps_ret (pv 2)))))), ?_⟩)
  refine go_fn (L := ["moves", "places", "found", "index", "move", "_"]) h (fun b i hp hX => ?_)
  try dsimp only [cxOf, L2H.cxH, L2.Cx.nox, L2.Cx.wish]
  have kLET := cLET T
  have kNMC := cNMC T
  have kLON := cLON T
  have kSIG := T.w_SIGNS
  have kSTA := T.w_STAY_SIGNS
  have kSID := T.w_SIDES
  
  obtain ⟨ms, k⟩ := i
  obtain ⟨h1, h2, h3⟩ := hp
  have h2 : k ≤ 1000 := h2
  have h3 : ms.length ≤ 1000 := h3
  show GO K b _ ⟨[some (.d (.tuple (ms.map movD))), some (.d (.int k)), none, none, none, none], []⟩ _
  refine go_seq (go_asg (ev_lcA (tg_name (.head _)) mg_name (ei_r1 (ea_cons (ev_var rfl (ea_nil ⟨k, rfl, by omega, by omega, ?_⟩))))))
  rw [show ((k : Int)).toNat = k from rfl]
  refine ⟨fun m js s => js = (List.range m).map (fun p => Dw.A.o (1 + p)) ∧ s = ⟨[some (.d (.tuple (ms.map movD))), some (.d (.int k)), none, none, none, none], .la ((List.range m).map (fun p => Dw.A.o (1 + p))) :: (List.range m).map fun _ => C.lst []⟩, ⟨rfl, rfl⟩, ?_, ?_, ?_⟩
  · rintro m js s3 _ ⟨rfl, rfl⟩
    exact ⟨trivial, rfl⟩
  · rintro m v js s3 hx ⟨rfl, rfl⟩
    have hm : m < k := by
      have := (List.getElem?_eq_some_iff.mp hx).1
      rw [rngD_len] at this
      exact this
    refine gt_name ?_
    refine fun σ H tv ta Hd ps R Q kk => kk true H _ Hd ps ⟨fun _ => ?_, fun h => (nomatch h)⟩ R
    refine ev_lstO (ea_nil ⟨[], rfl, rfl, ?_⟩)
    refine ⟨rfl, Nat.lt_of_le_of_lt (show _ ≤ 1000 by rw [List.length_map, List.length_range]; omega) (by decide), ?_⟩
    have e1 : (C.la ((List.range m).map (fun p => Dw.A.o (1 + p))) :: (List.range m).map fun _ => C.lst []).length = 1 + m := by simp; omega
    show _ ++ [Dw.A.o (C.la ((List.range m).map (fun p => Dw.A.o (1 + p))) :: (List.range m).map fun _ => C.lst []).length] = _ ∧ S.mk [_, _, _, _, _, _] (C.la (_ ++ [Dw.A.o (C.la ((List.range m).map (fun p => Dw.A.o (1 + p))) :: (List.range m).map fun _ => C.lst []).length]) :: ((List.range m).map (fun _ => C.lst []) ++ [C.lst []])) = _
    rw [e1, List.range_succ, List.map_append, List.map_append]
    exact ⟨rfl, rfl⟩
  rintro js s3 ⟨rfl, rfl⟩
  rw [rngD_len]
  refine gt_name ?_
  dsimp only
  refine go_seq (go_for (ei_enumA (ea_cons (ev_var rfl (ea_nil ⟨_, ms.map movD, fun _ => True, false, rfl, rfl, trivial, ?_⟩)))))
  refine ⟨fun i s => ∃ x y, s = ⟨[some (.d (.tuple (ms.map movD))), some (.d (.int k)), some (.o 0), x, y, none], .la ((List.range k).map (fun p => Dw.A.o (1 + p))) :: (List.range k).map fun p => C.lst (lvs (ms.take i) p)⟩, ⟨none, none, rfl⟩, fun _ _ _ _ => trivial, ?_, ?_⟩
  · rintro i v s2 hx ⟨x, y, rfl⟩
    obtain ⟨⟨sr, tg, lb, gd, rs, sd⟩, hw, rfl⟩ := enm_get hx
    have hsr : sr < k := h1 _ (List.mem_of_getElem? hw)
    have hil := (List.getElem?_eq_some_iff.mp hw).1
    refine gt_tup (ds := [.int i, .tuple [.int sr, .int tg, .str lb, .tuple (gd.map cndD), .tuple (inN' rs), .str sd]]) rfl ?_
    repeat (first | (with_reducible refine gts_consD ?_) | (with_reducible refine gt_name ?_) | (with_reducible refine gts_nilD ?_))
  
    have hcell : (C.la ((List.range k).map (fun p => Dw.A.o (1 + p))) :: (List.range k).map fun p => C.lst (lvs (ms.take i) p))[1 + sr]? = some (C.lst (lvs (ms.take i) sr)) := by
      rw [Nat.add_comm, List.getElem?_cons_succ, List.getElem?_map, List.getElem?_range hsr]; rfl
    repeat walk_at "z4"
  
    refine ev_bmL ?_
    repeat walk_at "z4"
  
    refine v2_ixA (n := 0) rfl (a := .o (1 + sr)) (atI_n (by rw [List.getElem?_map, List.getElem?_range hsr]; rfl)) ?_
    refine ⟨⟨1 + sr, lvs (ms.take i) sr, rfl, hcell⟩, ?_⟩
    repeat walk_at "z4"
  
    refine vm_append (n := 1 + sr) hcell (Nat.lt_of_le_of_lt (show _ ≤ 1000 from Nat.le_trans lvs_len (by rw [List.length_take]; omega)) (by decide)) ?_
    repeat walk_at "z4"
  
    refine ⟨some (.d (.int i)), some (.d (.tuple [.int sr, .int tg, .str lb, .tuple (gd.map cndD), .tuple (inN' rs), .str sd])), congrArg (S.mk _) ?_⟩
    show List.set (C.la _ :: _) (1 + sr) _ = _
    rw [Nat.add_comm 1 sr, List.set_cons_succ, set_rng]
    congr 1
    refine List.map_congr_left fun p _ => ?_
    rw [lvs_snoc hw p]
    show (if p = sr then _ else _) = C.lst (_ ++ if sr = p then _ else _)
    by_cases z : p = sr
    · subst z
      rw [if_pos rfl, if_pos rfl]
    · rw [if_neg z, if_neg (Ne.symm z), List.append_nil]
  rintro s2 ⟨x, y, rfl⟩
  rw [enm_len, List.take_length]
  dsimp only
  refine go_ret (ev_deep (ev_var rfl ⟨0, (List.range k).map (1 + ·), (List.range k).map (lvs ms), rfl, by simp, ?_, ?_, ?_, ?_, ?_⟩))
  · exact List.pairwise_map.mpr (List.Pairwise.imp (fun h e => h (by omega)) (List.nodup_range (n := k)))
  · simp
  · rw [List.map_map]; rfl
  · intro j a xs ha hxs
    rw [List.getElem?_map] at ha hxs
    cases e : (List.range k)[j]? with
    | none => rw [e] at ha; cases ha
    | some p =>
      rw [e] at ha hxs
      cases ha
      cases hxs
      show (C.la _ :: _)[1 + p]? = _
      rw [Nat.add_comm, List.getElem?_cons_succ, List.getElem?_map]
      have hp2 : p < k := by have := List.mem_of_getElem? e; exact List.mem_range.mp this
      rw [List.getElem?_range hp2]
      rfl
  rw [List.map_map]
  exact rfl
end
def sp_pressing_places : Spc where
  I := List Plc × List Mov × List Str
  args := fun (ps, ms, r) => [.d (.tuple (ps.map plcD)), .d (.tuple (ms.map movD)), .d (.tuple (r.map .str))]
  cells := fun _ => []
  pre := fun (ps, ms, r) => (∀ m, m ∈ ms → m.src < ps.length) ∧ ps.length ≤ 1000 ∧ r.length ≤ 1000
  post := fun (ps, ms, r) z _ => z = .val (.list ((List.range ps.length).map fun p => .bool (prsB ps ms r p)))
section
variable {P : Program} {w : World} {K : PySem.W.Frag} {mg : Str → Option Value} {base : Heap}
theorem ok_pressing_places (T : Tx P K mg) : FnOk P w K mg base CX0 1 T.a_pressing_places T.d_pressing_places ["places", "moves", "rush"] (SpB K sp_pressing_places) := by
  refine T.F_pressing_places.ok sc_pressing_places (fun vs H Q E h => spB_len h (fun _ => rfl)) (fun cdv A outer s H vs Q E hr h => ⟨_, PSs.nox ((pss_cons (ps_setDc (i := 3) (own := [("word", 6)]) rfl sc_pressing_places.nd rfl rfl (sw_trueD rfl rfl rfl (by decide +kernel)) (pi_any (pv 2)) (blkOk_by (own := [("word", 6)]) (N := ["places", "moves", "rush", "hurried", "found", "move", "word", "place"]) (sc := defScope s_pressing_places) (by decide +kernel)) (fun _ _ _ _ _ => (pg_name (i := 6) sc_pressing_places.nd rfl (.inl rfl) (.inr rfl))) (fun _ _ _ _ _ => pts_nil) (fun _ _ _ _ _ => (pv 6)) (fun _ _ _ _ _ => pe_bl))
      (pss_cons (ps_setLc (i := 4) (own := [("place", 7)]) rfl sc_pressing_places.nd rfl rfl (sw_true rfl rfl rfl (by decide +kernel)) (pi_any (pv 0)) (blkOk_by (own := [("place", 7)]) (N := ["places", "moves", "rush", "hurried", "found", "move", "word", "place"]) (sc := defScope s_pressing_places) (by decide +kernel)) (fun _ _ _ _ _ => (pg_name (i := 7) sc_pressing_places.nd rfl (.inl rfl) (.inr rfl))) (fun _ _ _ _ _ => pts_nil) (fun _ _ _ _ _ => (pe_ix (ix_seqK (K := K) rfl) (pv 7) pe_int (fun _ _ => rfl))))
      (pss_cons (ps_for PassesOwn.never rfl (pi_any (pv 1)) (pg_name (i := 5) sc_pressing_places.nd rfl (.inl rfl) (.inr rfl))
      (pss_one (ps_if (pt_cmp (pc_din (hu_of hr) (pe_ix ix_seq (pv 5) pe_int (fun _ _ => rfl)) (pv 3)))
      (pss_one (ps_asg pe_bl (pg_sub (pv 4) (pe_ix ix_seq (pv 5) pe_int (fun _ _ => rfl)) set_list)))
      pss_nil)))
      (pss_one (ps_ret (pv 4))))))), ?_⟩)
  refine go_fn (L := ["places", "moves", "rush", "hurried", "found", "move", "word", "place"]) h (fun b i hp hX => ?_)
  try dsimp only [cxOf, L2H.cxH, L2.Cx.nox, L2.Cx.wish]
  have kLET := cLET T
  have kNMC := cNMC T
  have kLON := cLON T
  have kSIG := T.w_SIGNS
  have kSTA := T.w_STAY_SIGNS
  have kSID := T.w_SIDES
  
  obtain ⟨ps, ms, r⟩ := i
  obtain ⟨h1, h2, h3⟩ := hp
  have h2 : ps.length ≤ 1000 := h2
  have h3 : r.length ≤ 1000 := h3
  show GO K b _ ⟨[some (.d (.tuple (ps.map plcD))), some (.d (.tuple (ms.map movD))), some (.d (.tuple (r.map .str))), none, none, none, none, none], []⟩ _
  refine go_seq (go_asg (ev_dc (tg_name (.head _)) mg_name (ei_anyT (ei_tup (ev_var rfl ⟨r.map .str, rfl, ?_⟩)))))
  refine ⟨fun m js s => KN (r.take m) js ∧ s = ⟨[some (.d (.tuple (ps.map plcD))), some (.d (.tuple (ms.map movD))), some (.d (.tuple (r.map .str))), none, none, none, none, none], [.dK js]⟩, ⟨kn_nil, rfl⟩, ?_, ?_, ?_⟩
  · rintro m js s3 _ ⟨_, rfl⟩
    exact ⟨trivial, rfl⟩
  · rintro m v js s3 hx ⟨hk, rfl⟩
    obtain ⟨w, hc, rfl⟩ := map_get hx
    refine gt_name ?_
    refine fun σ H tv ta Hd ps R Q kk => kk true H _ Hd ps ⟨fun _ => ?_, fun h => (nomatch h)⟩ R
    repeat walk_at "z1"
  
    refine ⟨.inr w, .bool true, rfl, rfl, rfl, Nat.lt_of_le_of_lt (Nat.le_trans hk.len (by rw [List.length_take]; omega)) (show 1000 < sizeLine by decide), ?_, rfl⟩
    rw [take_snoc' hc]
    exact kn_put hk
  rintro kvs s3 ⟨hk, rfl⟩
  rw [List.length_map, List.take_length] at hk
  refine gt_name ?_
  dsimp only
  refine go_seq (go_asg (ev_lc (tg_name (.head _)) mg_name (ei_anyT (ei_tup (ev_var rfl ⟨ps.map plcD, rfl, ?_⟩)))))
  refine ⟨fun m js s => js = ((ps.take m).map (·.press)).map PyData.bool ∧ s = ⟨[some (.d (.tuple (ps.map plcD))), some (.d (.tuple (ms.map movD))), some (.d (.tuple (r.map .str))), some (.o 0), none, none, none, none], [.dK kvs, .lst js]⟩, ⟨rfl, rfl⟩, ?_, ?_, ?_⟩
  · rintro m js s3 _ ⟨rfl, rfl⟩
    exact ⟨trivial, rfl⟩
  · rintro m v js s3 hx ⟨rfl, rfl⟩
    obtain ⟨⟨w, sts, pr⟩, hc, rfl⟩ := map_get hx
    show GT K b _ (.d (.tuple [.str w, cndsD sts, .bool pr])) _ _
    refine gt_name ?_
    refine fun σ H tv ta Hd ps R Q kk => kk true H _ Hd ps ⟨fun _ => ?_, fun h => (nomatch h)⟩ R
    repeat walk_at "z1"
  
    refine ⟨rfl, Nat.lt_of_le_of_lt (show _ ≤ 1000 by rw [List.length_map, List.length_map, List.length_take]; omega) (by decide), ?_, rfl⟩
    rw [take_snoc' hc, List.map_append, List.map_append]
    rfl
  rintro js s3 ⟨rfl, rfl⟩
  rw [List.length_map, List.take_length]
  refine gt_name ?_
  dsimp only
  refine go_seq (go_for (ei_anyT (ei_tup (ev_var rfl ⟨ms.map movD, rfl, ?_⟩))))
  have ini : (ps.map (·.press)).map PyData.bool = (List.range ps.length).map fun p => .bool (prsB ps (ms.take 0) r p) := by
    refine List.ext_getElem? fun i => ?_
    rw [List.getElem?_map, List.getElem?_map, List.getElem?_map]
    by_cases hi : i < ps.length
    · rw [List.getElem?_range hi, List.getElem?_eq_getElem hi]
      show some (PyData.bool _) = some (PyData.bool _)
      unfold prsB
      rw [List.getElem?_eq_getElem hi]
      simp
    · rw [List.getElem?_eq_none (by omega), List.getElem?_eq_none (by rw [List.length_range]; omega)]
      rfl
  refine ⟨fun i s => ∃ x, s = ⟨[some (.d (.tuple (ps.map plcD))), some (.d (.tuple (ms.map movD))), some (.d (.tuple (r.map .str))), some (.o 0), some (.o 1), x, none, none], [.dK kvs, .lst ((List.range ps.length).map fun p => .bool (prsB ps (ms.take i) r p))]⟩, ⟨none, by rw [← ini]; rfl⟩, fun _ _ _ _ => trivial, ?_, ?_⟩
  · rintro i v s2 hx ⟨x, rfl⟩
    obtain ⟨⟨sr, tg, lb, gd, rs, sd⟩, hw, rfl⟩ := map_get hx
    have hsr : sr < ps.length := h1 _ (List.mem_of_getElem? hw)
    show GT K b _ (.d (.tuple [.int sr, .int tg, .str lb, .tuple (gd.map cndD), .tuple (inN' rs), .str sd])) _ _
    refine gt_name ?_
    repeat walk_at "z4"
  
    refine ⟨0, kvs, .inr lb, rfl, rfl, rfl, ?_⟩
    rw [hk.has]
    repeat walk_at "z4"
  
    refine ⟨fun z => ?_, fun z => ?_⟩
    · have z := of_decide_eq_true z
      repeat walk_at "z4"
  
      refine ⟨1, _, sr, sr, .bool true, rfl, rfl, rfl, rfl, ?_, ?_⟩
      · rw [List.length_map, List.length_range]; unfold ixN; simp; omega
      refine ⟨some (.d (.tuple [.int sr, .int tg, .str lb, .tuple (gd.map cndD), .tuple (inN' rs), .str sd])), ?_⟩
      show S.mk _ [_, C.lst (List.set _ _ _)] = S.mk _ [_, C.lst _]
      rw [set_rng]
      congr 4
      refine List.map_congr_left fun p _ => ?_
      rw [prs_snoc hw p]
      show (if p = sr then _ else _) = PyData.bool (_ || (decide (sr = p) && decide (lb ∈ r)))
      by_cases y : p = sr
      · subst y
        rw [if_pos rfl, decide_eq_true rfl, decide_eq_true z, Bool.and_self, Bool.or_true]
      · rw [if_neg y, decide_eq_false (Ne.symm y), Bool.false_and, Bool.or_false]
    · have z := of_decide_eq_false z
      refine go_next ?_
      refine ⟨some (.d (.tuple [.int sr, .int tg, .str lb, .tuple (gd.map cndD), .tuple (inN' rs), .str sd])), ?_⟩
      show S.mk _ [_, C.lst _] = S.mk _ [_, C.lst _]
      congr 4
      refine List.map_congr_left fun p _ => ?_
      rw [prs_snoc hw p]
      show PyData.bool _ = PyData.bool (_ || (decide (sr = p) && decide (lb ∈ r)))
      rw [decide_eq_false z, Bool.and_false, Bool.or_false]
  rintro s2 ⟨x, rfl⟩
  rw [List.length_map, List.take_length]
  dsimp only
  refine go_ret (ev_dat (ev_var rfl ⟨1, _, rfl, rfl, ?_⟩))
  exact rfl
end
def sp_check_parts : Spc where
  I := Mch
  args := fun m => [.d (strsT m.clocks), .d (plcsT m.places), .d (movsT m.moves), .d (.int m.start), .d (strsT m.rush)]
  cells := fun _ => []
  pre := fun m => m.Ok
  post := fun _ r _ => r = .val .none
section
variable {P : Program} {w : World} {K : PySem.W.Frag} {mg : Str → Option Value} {base : Heap}
theorem ok_check_parts (T : Tx P K mg) : FnOk P w K mg base (L2N.CX P w) 5 T.a_check_parts T.d_check_parts ["clocks", "places", "moves", "start", "rush"] (SpB K sp_check_parts) := by
  refine T.F_check_parts.ok sc_check_parts (fun vs H Q E h => spB_len h (fun _ => rfl)) (fun cdv A outer s H vs Q E hr h => ⟨_, ((pss_cons (ps_set (i := 5) sc_check_parts.nd rfl (.inl rfl) (pe_call (ok_bad_clock T) (hr.mono (by decide)) (by rfl) T.g_bad_clock T.F_bad_clock.kp (b_bad_clock T.F_bad_clock) .nil pass0 (pa_cons (pv 0) pa_nil)))
      (pss_cons (ps_if (pt_cmpR op_notA (pv 5) pe_non (nomark _))
      (pss_one (L2N.ps_raise rfl (L2N.takes_of rfl rfl rfl rfl) (pmk_oexN T.e_BadMachine.o T.e_BadMachine.i T.e_BadMachine.t (ok_BadMachine___init__ T) (hr.mono (by decide)) (b_BadMachine___init__ T.e_BadMachine.F) .nil pass0 rfl T.gc_BadMachine (pa_cons pe_str (pa_cons (pv 5) pa_nil)))))
      pss_nil)
      (pss_cons (ps_set (i := 5) sc_check_parts.nd rfl (.inl rfl) (pe_call (ok_bad_place T) (hr.mono (by decide)) (by rfl) T.g_bad_place T.F_bad_place.kp (b_bad_place T.F_bad_place) .nil pass0 (pa_cons (pv 1) (pa_cons (pe_callB call_len (by rfl) T.z_len (by decide +kernel) (pa_cons (pv 0) pa_nil)) pa_nil))))
      (pss_cons (ps_if (pt_cmpR op_notA (pv 5) pe_non (nomark _))
      (pss_one (L2N.ps_raise rfl (L2N.takes_of rfl rfl rfl rfl) (pmk_oexN T.e_BadMachine.o T.e_BadMachine.i T.e_BadMachine.t (ok_BadMachine___init__ T) (hr.mono (by decide)) (b_BadMachine___init__ T.e_BadMachine.F) .nil pass0 rfl T.gc_BadMachine (pa_cons pe_str (pa_cons (pv 5) pa_nil)))))
      pss_nil)
      (pss_cons (ps_set (i := 5) sc_check_parts.nd rfl (.inl rfl) (pe_call (ok_bad_move T) (hr.mono (by decide)) (by rfl) T.g_bad_move T.F_bad_move.kp (b_bad_move T.F_bad_move) .nil pass0 (pa_cons (pv 2) (pa_cons (pe_callB call_len (by rfl) T.z_len (by decide +kernel) (pa_cons (pv 1) pa_nil)) (pa_cons (pe_callB call_len (by rfl) T.z_len (by decide +kernel) (pa_cons (pv 0) pa_nil)) pa_nil)))))
      (pss_cons (ps_if (pt_cmpR op_notA (pv 5) pe_non (nomark _))
      (pss_one (L2N.ps_raise rfl (L2N.takes_of rfl rfl rfl rfl) (pmk_oexN T.e_BadMachine.o T.e_BadMachine.i T.e_BadMachine.t (ok_BadMachine___init__ T) (hr.mono (by decide)) (b_BadMachine___init__ T.e_BadMachine.F) .nil pass0 rfl T.gc_BadMachine (pa_cons pe_str (pa_cons (pv 5) pa_nil)))))
      pss_nil)
      (pss_cons (ps_if (pt_not (pt_truth (pe_call (ok_exists T) (hr.mono (by decide)) (by rfl) T.g_exists T.F_exists.kp (b_exists T.F_exists) .nil pass0 (pa_cons (pv 3) (pa_cons (pe_callB call_len (by rfl) T.z_len (by decide +kernel) (pa_cons (pv 1) pa_nil)) pa_nil))) (by intro _; rfl)))
      (pss_one (L2N.ps_raise rfl (L2N.takes_of rfl rfl rfl rfl) (pmk_oexN T.e_BadMachine.o T.e_BadMachine.i T.e_BadMachine.t (ok_BadMachine___init__ T) (hr.mono (by decide)) (b_BadMachine___init__ T.e_BadMachine.F) .nil pass0 rfl T.gc_BadMachine (pa_cons pe_str (pa_cons pe_int pa_nil)))))
      pss_nil)
      (pss_cons (ps_set (i := 5) sc_check_parts.nd rfl (.inl rfl) (pe_call (ok_bad_rush T) (hr.mono (by decide)) (by rfl) T.g_bad_rush T.F_bad_rush.kp (b_bad_rush T.F_bad_rush) .nil pass0 (pa_cons (pv 4) (pa_cons (pv 2) pa_nil))))
      (pss_one (ps_if (pt_cmpR op_notA (pv 5) pe_non (nomark _))
      (pss_one (L2N.ps_raise rfl (L2N.takes_of rfl rfl rfl rfl) (pmk_oexN T.e_BadMachine.o T.e_BadMachine.i T.e_BadMachine.t (ok_BadMachine___init__ T) (hr.mono (by decide)) (b_BadMachine___init__ T.e_BadMachine.F) .nil pass0 rfl T.gc_BadMachine (pa_cons pe_str (pa_cons (pv 5) pa_nil)))))
      pss_nil))))))))))), ?_⟩)
  refine go_fn (L := ["clocks", "places", "moves", "start", "rush", "index"]) h (fun b i hp hX => ?_)
  try dsimp only [cxOf, L2H.cxH, L2.Cx.nox, L2.Cx.wish]
  have kLET := cLET T
  have kNMC := cNMC T
  have kLON := cLON T
  have kSIG := T.w_SIGNS
  have kSTA := T.w_STAY_SIGNS
  have kSID := T.w_SIDES
  
  obtain ⟨cl, pl, mv, st, ru⟩ := i
  have hp : Mch.Ok ⟨cl, pl, mv, st, ru⟩ := hp
  have hst : st < pl.length := hp.st
  show GO K b _ ⟨[some (.d (strsT cl)), some (.d (plcsT pl)), some (.d (movsT mv)), some (.d (.int st)), some (.d (strsT ru)), none], []⟩ _
  repeat walk_at "z4"
  refine ev_callV (E := fun _ => E0) ?_
  repeat walk_at "z4"
  refine ⟨cl, .none, rfl, rfl, rfl, ⟨hp.cl, hp.cn, Nat.le_trans hp.c8 (by decide)⟩, fun _ _ h => h, fun _ _ h => h, ?_⟩
  repeat walk_at "z4"
  refine ev_callV (E := fun _ => E0) ?_
  repeat walk_at "z4"
  simp only [List.length_map]
  refine ⟨(pl, cl.length), .none, rfl, rfl, rfl, ⟨hp.p0, hp.pl, hp.pn, Nat.le_trans hp.p2 (by decide)⟩, fun _ _ h => h, fun _ _ h => h, ?_⟩
  repeat walk_at "z4"
  refine ev_callV (E := fun _ => E0) ?_
  repeat walk_at "z4"
  simp only [List.length_map]
  refine ⟨(mv, pl.length, cl.length), .none, rfl, rfl, rfl, hp.mv, fun _ _ h => h, fun _ _ h => h, ?_⟩
  repeat walk_at "z4"
  refine ev_callV (E := fun _ => E0) ?_
  repeat walk_at "z4"
  simp only [List.length_map]
  refine ⟨((st : Int), (pl.length : Int)), .bool true, rfl, rfl, rfl, trivial, fun _ _ h => h.trans (by rw [show decide (0 ≤ ((st : Int)) ∧ ((st : Int)) < ((pl.length : Int))) = true from decide_eq_true (by omega)]), fun _ _ h => h, ?_⟩
  repeat walk_at "z4"
  refine ev_callV (E := fun _ => E0) ?_
  repeat walk_at "z4"
  refine ⟨(ru, mv), .none, rfl, rfl, rfl, ⟨hp.rn, hp.rs, hp.rg, hp.m1⟩, fun _ _ h => h, fun _ _ h => h, ?_⟩
  repeat walk_at "z4"
  
  exact rfl
end
def sp_Machine___init__ (c : Addr) : Spc where
  I := Mch
  args := fun m => [.o 0, .d (strsT m.clocks), .d (plcsT m.places), .d (movsT m.moves), .d (.int m.start), .d (strsT m.rush)]
  cells := fun _ => [.ins c []]
  pre := fun m => m.Ok
  post := fun m r os => r = .val .none ∧ os = [.ins c (mF m)]
section
variable {P : Program} {w : World} {K : PySem.W.Frag} {mg : Str → Option Value} {base : Heap}
theorem ok_Machine___init__ (T : Tx P K mg) : FnOk P w K mg base (L2N.CX P w) 6 T.a_Machine___init__ T.d_Machine___init__ ["self", "clocks", "places", "moves", "start", "rush"] (SpB K (sp_Machine___init__ T.c_Machine)) := by
  refine T.F_Machine___init__.ok sc_Machine___init__ (fun vs H Q E h => spB_len h (fun _ => rfl)) (fun cdv A outer s H vs Q E hr h => ⟨_, ((pss_cons (ps_fld (pv 0) (pe_callTy (call_tupA (K := K) rfl) (by rfl) T.z_tuple (by decide +kernel) (pa_cons (pv 1) pa_nil)) rfl)
      (pss_cons (ps_fld (pv 0) (pe_callTy (call_tupA (K := K) rfl) (by rfl) T.z_tuple (by decide +kernel) (pa_cons (pe_lc (own := [("place", 9)]) rfl sc_Machine___init__.nd (pi_any (pv 2)) (blkOk_by (own := [("place", 9)]) (N := ["self", "clocks", "places", "moves", "start", "rush", "sizes", "size", "most", "place", "move"]) (sc := defScope s_Machine___init__) (by decide +kernel)) (fun _ _ _ _ _ => (pg_name (i := 9) sc_Machine___init__.nd rfl (.inl rfl) (.inr rfl))) (fun _ _ _ _ _ => pts_nil) (fun _ _ _ _ _ => (pe_call (ok_place_tuple T) (hr.mono (by decide)) (by rfl) T.g_place_tuple T.F_place_tuple.kp (b_place_tuple T.F_place_tuple) .nil pass0 (pa_cons (pv 9) pa_nil)))) pa_nil)) rfl)
      (pss_cons (ps_fld (pv 0) (pe_callTy (call_tupA (K := K) rfl) (by rfl) T.z_tuple (by decide +kernel) (pa_cons (pe_lc (own := [("move", 10)]) rfl sc_Machine___init__.nd (pi_any (pv 3)) (blkOk_by (own := [("move", 10)]) (N := ["self", "clocks", "places", "moves", "start", "rush", "sizes", "size", "most", "place", "move"]) (sc := defScope s_Machine___init__) (by decide +kernel)) (fun _ _ _ _ _ => (pg_name (i := 10) sc_Machine___init__.nd rfl (.inl rfl) (.inr rfl))) (fun _ _ _ _ _ => pts_nil) (fun _ _ _ _ _ => (pe_call (ok_move_tuple T) (hr.mono (by decide)) (by rfl) T.g_move_tuple T.F_move_tuple.kp (b_move_tuple T.F_move_tuple) .nil pass0 (pa_cons (pv 10) pa_nil)))) pa_nil)) rfl)
      (pss_cons (ps_fld (pv 0) (pv 4) rfl)
      (pss_cons (ps_fld (pv 0) (pe_callTy (call_tupA (K := K) rfl) (by rfl) T.z_tuple (by decide +kernel) (pa_cons (pv 5) pa_nil)) rfl)
      (pss_cons (ps_set (i := 6) sc_Machine___init__.nd rfl (.inl rfl) (pe_lst (pa_cons (pe_callB call_len (by rfl) T.z_len (by decide +kernel) (pa_cons (pe_fld (pv 0) rfl) pa_nil)) (pa_cons (pe_callB call_len (by rfl) T.z_len (by decide +kernel) (pa_cons (pe_fld (pv 0) rfl) pa_nil)) (pa_cons (pe_callB call_len (by rfl) T.z_len (by decide +kernel) (pa_cons (pe_fld (pv 0) rfl) pa_nil)) pa_nil)))))
      (pss_cons (ps_for (passes_of rfl) rfl (pi_zipX (by rfl) T.z_zip (pa_cons (pv 6) (pa_cons (ClX.pe_cval (pe_glob (v := .ref T.c_Machine) rfl T.gc_Machine rfl)) pa_nil))) (pg_tup rfl (pgs_cons (pg_name (i := 7) sc_Machine___init__.nd rfl (.inl rfl) (.inr rfl)) (pgs_cons (pg_name (i := 8) sc_Machine___init__.nd rfl (.inl rfl) (.inr rfl)) pgs_nil)))
      (pss_one (ps_if (pt_cmpR op_gtA (pv 7) (pv 8) (nomark _))
      (pss_one (L2N.ps_raise rfl (L2N.takes_of rfl rfl rfl rfl) (pmk_oexN T.e_TooLarge.o T.e_TooLarge.i T.e_TooLarge.t (ok_TooLarge___init__ T) (hr.mono (by decide)) (b_TooLarge___init__ T.e_TooLarge.F) .nil pass0 rfl T.gc_TooLarge (pa_cons (pv 8) pa_nil))))
      pss_nil)))
      (pss_cons (ps_expr (pe_call (ok_check_parts T) (hr.mono (by decide)) (by rfl) T.g_check_parts T.F_check_parts.kp (b_check_parts T.F_check_parts) .nil (L2N.passes_call (L2N.takes_of rfl rfl rfl rfl) (fun _ _ _ _ h => h)) (pa_cons (pe_fld (pv 0) rfl) (pa_cons (pe_fld (pv 0) rfl) (pa_cons (pe_fld (pv 0) rfl) (pa_cons (pe_fld (pv 0) rfl) (pa_cons (pe_fld (pv 0) rfl) pa_nil)))))))
      (pss_cons (ps_fld (pv 0) (pe_call (ok_moves_by_source T) (hr.mono (by decide)) (by rfl) T.g_moves_by_source T.F_moves_by_source.kp (b_moves_by_source T.F_moves_by_source) .nil pass0 (pa_cons (pe_fld (pv 0) rfl) (pa_cons (pe_callB call_len (by rfl) T.z_len (by decide +kernel) (pa_cons (pe_fld (pv 0) rfl) pa_nil)) pa_nil))) rfl)
      (pss_one (ps_fld (pv 0) (pe_call (ok_pressing_places T) (hr.mono (by decide)) (by rfl) T.g_pressing_places T.F_pressing_places.kp (b_pressing_places T.F_pressing_places) .nil pass0 (pa_cons (pe_fld (pv 0) rfl) (pa_cons (pe_fld (pv 0) rfl) (pa_cons (pe_fld (pv 0) rfl) pa_nil)))) rfl)))))))))))), ?_⟩)
  refine go_fn (L := ["self", "clocks", "places", "moves", "start", "rush", "sizes", "size", "most", "place", "move"]) h (fun b i hp hX => ?_)
  try dsimp only [cxOf, L2H.cxH, L2.Cx.nox, L2.Cx.wish]
  have kLET := cLET T
  have kNMC := cNMC T
  have kLON := cLON T
  have kSIG := T.w_SIGNS
  have kSTA := T.w_STAY_SIGNS
  have kSID := T.w_SIDES
  
  obtain ⟨cl, pl, mv, st, ru⟩ := i
  have hp : Mch.Ok ⟨cl, pl, mv, st, ru⟩ := hp
  have c8 : cl.length ≤ 8 := hp.c8
  have p2 : pl.length ≤ 200 := hp.p2
  have m1 : mv.length ≤ 1000 := hp.m1
  show GO K b _ ⟨[some (.o 0), some (.d (strsT cl)), some (.d (plcsT pl)), some (.d (movsT mv)), some (.d (.int st)), some (.d (strsT ru)), none, none, none, none, none], [.ins T.c_Machine []]⟩ _
  repeat walk_at "z4"
  
  refine vc_tupT ?_
  repeat walk_at "z4"
  refine ⟨_, 0, _, _, rfl, rfl, rfl, T.cl_Machine, T.nf_Machine_clocks, (by with_unfolding_all exact Nat.le_of_ble_eq_true rfl), ?_⟩
  show GO K b _ ⟨[some (.o 0), some (.d (strsT cl)), some (.d (plcsT pl)), some (.d (movsT mv)), some (.d (.int st)), some (.d (strsT ru)), none, none, none, none, none], [.ins T.c_Machine [("clocks", strsT cl)]]⟩ _
  repeat walk_at "z4"
  
  refine ev_lc (tg_name (.head _)) mg_name (ei_anyT (ei_tup (ev_var rfl ⟨pl.map plcD, rfl, ?_⟩)))
  refine ⟨fun m js s => js = (pl.take m).map plcD ∧ s = ⟨[some (.o 0), some (.d (strsT cl)), some (.d (plcsT pl)), some (.d (movsT mv)), some (.d (.int st)), some (.d (strsT ru)), none, none, none, none, none], [.ins T.c_Machine [("clocks", strsT cl)], .lst js]⟩, ⟨rfl, rfl⟩, ?_, ?_, ?_⟩
  · rintro m js s3 _ ⟨_, rfl⟩
    exact ⟨trivial, rfl⟩
  · rintro m v js s3 hx ⟨rfl, rfl⟩
    obtain ⟨p, hc, rfl⟩ := map_get hx
    refine gt_name ?_
    refine fun σ H tv ta Hd ps R Q kk => kk true H _ Hd ps ⟨fun _ => ?_, fun h => (nomatch h)⟩ R
    refine ev_callV (E := fun _ => E0) ?_
    repeat walk_at "z4"
  
    refine ⟨p, plcD p, rfl, rfl, rfl, hp.ps p (List.mem_of_getElem? hc), fun _ _ h => h, fun _ _ h => h, ?_⟩
    exact ⟨plcD p, rfl, rfl, Nat.lt_of_le_of_lt (show _ ≤ 1000 by rw [List.length_map, List.length_take]; omega) (by decide), take_snoc hc, rfl⟩
  rintro js s3 ⟨rfl, rfl⟩
  rw [List.length_map, List.take_length]
  repeat walk_at "z4"
  
  refine vc_tupL ⟨_, rfl, rfl⟩ ?_
  repeat walk_at "z4"
  refine ⟨_, 0, _, _, rfl, rfl, rfl, T.cl_Machine, T.nf_Machine_places, (by with_unfolding_all exact Nat.le_of_ble_eq_true rfl), ?_⟩
  show GO K b _ ⟨[some (.o 0), some (.d (strsT cl)), some (.d (plcsT pl)), some (.d (movsT mv)), some (.d (.int st)), some (.d (strsT ru)), none, none, none, none, none], [.ins T.c_Machine [("clocks", strsT cl), ("places", plcsT pl)], .lst (pl.map plcD)]⟩ _
  repeat walk_at "z4"
  
  refine ev_lc (tg_name (.head _)) mg_name (ei_anyT (ei_tup (ev_var rfl ⟨mv.map movD, rfl, ?_⟩)))
  refine ⟨fun m js s => js = (mv.take m).map movD ∧ s = ⟨[some (.o 0), some (.d (strsT cl)), some (.d (plcsT pl)), some (.d (movsT mv)), some (.d (.int st)), some (.d (strsT ru)), none, none, none, none, none], [.ins T.c_Machine [("clocks", strsT cl), ("places", plcsT pl)], .lst (pl.map plcD), .lst js]⟩, ⟨rfl, rfl⟩, ?_, ?_, ?_⟩
  · rintro m js s3 _ ⟨_, rfl⟩
    exact ⟨trivial, rfl⟩
  · rintro m v js s3 hx ⟨rfl, rfl⟩
    obtain ⟨p, hc, rfl⟩ := map_get hx
    refine gt_name ?_
    refine fun σ H tv ta Hd ps R Q kk => kk true H _ Hd ps ⟨fun _ => ?_, fun h => (nomatch h)⟩ R
    refine ev_callV (E := fun _ => E0) ?_
    repeat walk_at "z4"
  
    refine ⟨p, movD p, rfl, rfl, rfl, hp.mg p (List.mem_of_getElem? hc), fun _ _ h => h, fun _ _ h => h, ?_⟩
    exact ⟨movD p, rfl, rfl, Nat.lt_of_le_of_lt (show _ ≤ 1000 by rw [List.length_map, List.length_take]; omega) (by decide), take_snoc hc, rfl⟩
  rintro js s3 ⟨rfl, rfl⟩
  rw [List.length_map, List.take_length]
  repeat walk_at "z4"
  
  refine vc_tupL ⟨_, rfl, rfl⟩ ?_
  repeat walk_at "z4"
  refine ⟨_, 0, _, _, rfl, rfl, rfl, T.cl_Machine, T.nf_Machine_moves, (by with_unfolding_all exact Nat.le_of_ble_eq_true rfl), ?_⟩
  show GO K b _ ⟨[some (.o 0), some (.d (strsT cl)), some (.d (plcsT pl)), some (.d (movsT mv)), some (.d (.int st)), some (.d (strsT ru)), none, none, none, none, none], [.ins T.c_Machine [("clocks", strsT cl), ("places", plcsT pl), ("moves", movsT mv)], .lst (pl.map plcD), .lst (mv.map movD)]⟩ _
  repeat walk_at "z4"
  refine ⟨_, 0, _, _, rfl, rfl, rfl, T.cl_Machine, T.nf_Machine_start, (by with_unfolding_all exact Nat.le_of_ble_eq_true rfl), ?_⟩
  show GO K b _ ⟨[some (.o 0), some (.d (strsT cl)), some (.d (plcsT pl)), some (.d (movsT mv)), some (.d (.int st)), some (.d (strsT ru)), none, none, none, none, none], [.ins T.c_Machine [("clocks", strsT cl), ("places", plcsT pl), ("moves", movsT mv), ("start", .int st)], .lst (pl.map plcD), .lst (mv.map movD)]⟩ _
  repeat walk_at "z4"
  
  refine vc_tupT ?_
  repeat walk_at "z4"
  refine ⟨_, 0, _, _, rfl, rfl, rfl, T.cl_Machine, T.nf_Machine_rush, (by with_unfolding_all exact Nat.le_of_ble_eq_true rfl), ?_⟩
  show GO K b _ ⟨[some (.o 0), some (.d (strsT cl)), some (.d (plcsT pl)), some (.d (movsT mv)), some (.d (.int st)), some (.d (strsT ru)), none, none, none, none, none], [.ins T.c_Machine [("clocks", strsT cl), ("places", plcsT pl), ("moves", movsT mv), ("start", .int st), ("rush", strsT ru)], .lst (pl.map plcD), .lst (mv.map movD)]⟩ _
  
  refine go_seq (go_asg (ev_lst ?_))
  repeat walk_at "z4"
  refine ⟨0, _, _, _, rfl, rfl, T.cl_Machine, T.nf_Machine_clocks, (by with_unfolding_all exact rfl), ?_⟩
  repeat walk_at "z4"
  refine ⟨0, _, _, _, rfl, rfl, T.cl_Machine, T.nf_Machine_places, (by with_unfolding_all exact rfl), ?_⟩
  repeat walk_at "z4"
  refine ⟨0, _, _, _, rfl, rfl, T.cl_Machine, T.nf_Machine_moves, (by with_unfolding_all exact rfl), ?_⟩
  repeat walk_at "z4"
  
  simp only [List.length_map]
  refine go_seq (go_for (ei_zipX ?_))
  repeat walk_at "z4"
  
  refine ev_cval T.cr_Machine T.cv_MOST T.w_MOST rfl ?_
  repeat walk_at "z4"
  
  refine ⟨_, _, [.int cl.length, .int pl.length, .int mv.length], [.int 8, .int 200, .int 1000], true, false, rfl, rfl, rfl, rfl, ?_⟩
  refine ⟨fun _ s => ∃ x y, s = ⟨[some (.o 0), some (.d (strsT cl)), some (.d (plcsT pl)), some (.d (movsT mv)), some (.d (.int st)), some (.d (strsT ru)), some (.d (.list [.int cl.length, .int pl.length, .int mv.length])), x, y, none, none], [.ins T.c_Machine [("clocks", strsT cl), ("places", plcsT pl), ("moves", movsT mv), ("start", .int st), ("rush", strsT ru)], .lst (pl.map plcD), .lst (mv.map movD)]⟩, ⟨none, none, rfl⟩, fun _ _ _ _ => trivial, ?_, ?_⟩
  · rintro j v s2 hx ⟨x, y, rfl⟩
    obtain ⟨a, c, rfl, hac⟩ : ∃ a c : Int, v = .tuple [.int a, .int c] ∧ a ≤ c := by
      match j, hx with
      | 0, hx => cases hx; exact ⟨_, _, rfl, by omega⟩
      | 1, hx => cases hx; exact ⟨_, _, rfl, by omega⟩
      | 2, hx => cases hx; exact ⟨_, _, rfl, by omega⟩
      | j + 3, hx => cases hx
    refine gt_tup (ds := [.int a, .int c]) rfl ?_
    repeat (first | (with_reducible refine gts_consD ?_) | (with_reducible refine gt_name ?_) | (with_reducible refine gts_nilD ?_))
    repeat walk_at "z4"
  
    refine ⟨fun z => absurd (of_decide_eq_true z) (by omega), fun _ => ?_⟩
    refine go_next ?_
    exact ⟨_, _, rfl⟩
  rintro s2 ⟨x, y, rfl⟩
  refine go_next ?_
  repeat walk_at "z4"
  
  refine ev_callV (E := fun _ => E) ?_
  repeat walk_at "z4"
  refine ⟨0, _, _, _, rfl, rfl, T.cl_Machine, T.nf_Machine_clocks, (by with_unfolding_all exact rfl), ?_⟩
  repeat walk_at "z4"
  refine ⟨0, _, _, _, rfl, rfl, T.cl_Machine, T.nf_Machine_places, (by with_unfolding_all exact rfl), ?_⟩
  repeat walk_at "z4"
  refine ⟨0, _, _, _, rfl, rfl, T.cl_Machine, T.nf_Machine_moves, (by with_unfolding_all exact rfl), ?_⟩
  repeat walk_at "z4"
  refine ⟨0, _, _, _, rfl, rfl, T.cl_Machine, T.nf_Machine_start, (by with_unfolding_all exact rfl), ?_⟩
  repeat walk_at "z4"
  refine ⟨0, _, _, _, rfl, rfl, T.cl_Machine, T.nf_Machine_rush, (by with_unfolding_all exact rfl), ?_⟩
  repeat walk_at "z4"
  
  refine ⟨⟨cl, pl, mv, st, ru⟩, .none, rfl, rfl, rfl, hp, fun _ _ h => h, fun _ _ h => h, ?_⟩
  repeat walk_at "z4"
  
  refine ev_callV (E := fun _ => E0) ?_
  repeat walk_at "z4"
  refine ⟨0, _, _, _, rfl, rfl, T.cl_Machine, T.nf_Machine_moves, (by with_unfolding_all exact rfl), ?_⟩
  repeat walk_at "z4"
  refine ⟨0, _, _, _, rfl, rfl, T.cl_Machine, T.nf_Machine_places, (by with_unfolding_all exact rfl), ?_⟩
  repeat walk_at "z4"
  
  simp only [List.length_map]
  refine ⟨(mv, pl.length), _, rfl, rfl, rfl, ⟨fun m hm => (hp.mv m hm).src, by omega, m1⟩, fun _ _ h => h, fun _ _ h => h, ?_⟩
  repeat walk_at "z4"
  refine ⟨_, 0, _, _, rfl, rfl, rfl, T.cl_Machine, T.nf_Machine__leaving, (by with_unfolding_all exact Nat.le_of_ble_eq_true rfl), ?_⟩
  show GO K b _ ⟨[some (.o 0), some (.d (strsT cl)), some (.d (plcsT pl)), some (.d (movsT mv)), some (.d (.int st)), some (.d (strsT ru)), some (.d (.list [.int cl.length, .int pl.length, .int mv.length])), x, y, none, none], [.ins T.c_Machine [("clocks", strsT cl), ("places", plcsT pl), ("moves", movsT mv), ("start", .int st), ("rush", strsT ru), ("_leaving", .list ((List.range pl.length).map fun p => .list (lvs mv p)))], .lst (pl.map plcD), .lst (mv.map movD)]⟩ _
  repeat walk_at "z4"
  
  refine ev_callV (E := fun _ => E0) ?_
  repeat walk_at "z4"
  refine ⟨0, _, _, _, rfl, rfl, T.cl_Machine, T.nf_Machine_places, (by with_unfolding_all exact rfl), ?_⟩
  repeat walk_at "z4"
  refine ⟨0, _, _, _, rfl, rfl, T.cl_Machine, T.nf_Machine_moves, (by with_unfolding_all exact rfl), ?_⟩
  repeat walk_at "z4"
  refine ⟨0, _, _, _, rfl, rfl, T.cl_Machine, T.nf_Machine_rush, (by with_unfolding_all exact rfl), ?_⟩
  repeat walk_at "z4"
  
  refine ⟨(pl, mv, ru), _, rfl, rfl, rfl, ⟨fun m hm => (hp.mv m hm).src, by omega, hp.r1⟩, fun _ _ h => h, fun _ _ h => h, ?_⟩
  repeat walk_at "z4"
  refine ⟨_, 0, _, _, rfl, rfl, rfl, T.cl_Machine, T.nf_Machine__pressing, (by with_unfolding_all exact Nat.le_of_ble_eq_true rfl), ?_⟩
  
  exact ⟨rfl, rfl⟩
end
local macro_rules | `(tactic| walk_at "z1") => `(tactic| (first
  | (with_reducible refine ev_fldPV (by with_unfolding_all exact rfl) (by assumption) (by assumption) (by with_unfolding_all exact rfl) ?_)
  | (with_reducible refine v2_ixL (by assumption) ?_)
  | (with_reducible refine v2_ixT (by assumption) ?_)
  | (with_reducible refine v2_ixO (by with_unfolding_all exact rfl) (by assumption) ?_)
  | (with_reducible refine v2_ixA (by with_unfolding_all exact rfl) (by with_unfolding_all exact rfl) ?_)
  | (with_reducible refine gt_setAV (by with_unfolding_all exact rfl) (by with_unfolding_all exact rfl) (by with_unfolding_all exact rfl) ?_)))
def sp_Machine_is_pressing (K : PySem.W.Frag) (c : Addr) : Spc where
  I := Mch × Nat
  args := fun (m, k) => [insP K c (mF m), .d (.int k)]
  cells := fun _ => []
  pre := fun (m, k) => k < m.places.length
  post := fun (m, k) r _ => r = .val (.bool (prsB m.places m.moves m.rush k))
section
variable {P : Program} {w : World} {K : PySem.W.Frag} {mg : Str → Option Value} {base : Heap}
theorem ok_Machine_is_pressing (T : Tx P K mg) : FnOk P w K mg base (L2N.CX P w) 3 T.a_Machine_is_pressing T.d_Machine_is_pressing ["self", "place"] (SpB K (sp_Machine_is_pressing K T.c_Machine)) := by
  refine T.F_Machine_is_pressing.ok sc_Machine_is_pressing (fun vs H Q E h => spB_len h (fun _ => rfl)) (fun cdv A outer s H vs Q E hr h => ⟨_, ((pss_cons (ps_if (pt_not (pt_truth (pe_call (ok_exists T) (hr.mono (by decide)) (by rfl) T.g_exists T.F_exists.kp (b_exists T.F_exists) .nil pass0 (pa_cons (pv 1) (pa_cons (pe_callB call_len (by rfl) T.z_len (by decide +kernel) (pa_cons (pe_fld (pv 0) rfl) pa_nil)) pa_nil))) (by intro _; rfl)))
      (pss_one (L2N.ps_raise rfl (L2N.takes_of rfl rfl rfl rfl) (pmk_oexN T.e_BadPlace.o T.e_BadPlace.i T.e_BadPlace.t (ok_BadPlace___init__ T) (hr.mono (by decide)) (b_BadPlace___init__ T.e_BadPlace.F) .nil pass0 rfl T.gc_BadPlace (pa_cons (pv 1) pa_nil))))
      pss_nil)
      (pss_one (ps_ret (pe_ix ix_seq (pe_fld (pv 0) rfl) (pv 1) (fun _ _ => rfl)))))), ?_⟩)
  refine go_fn (L := ["self", "place"]) h (fun b i hp hX => ?_)
  try dsimp only [cxOf, L2H.cxH, L2.Cx.nox, L2.Cx.wish]
  have kLET := cLET T
  have kNMC := cNMC T
  have kLON := cLON T
  have kSIG := T.w_SIGNS
  have kSTA := T.w_STAY_SIGNS
  have kSID := T.w_SIDES
  have clM := T.cl_Machine
  have nfc := T.nf_Machine_clocks
  have nfp := T.nf_Machine_places
  have nfm := T.nf_Machine_moves
  have nfs := T.nf_Machine_start
  have nfr := T.nf_Machine_rush
  have nfe := T.nf_Machine__pressing
  
  obtain ⟨m, k⟩ := i
  have hk : k < m.places.length := hp
  show GO K b _ ⟨[some (insP K T.c_Machine (mF m)), some (.d (.int k))], []⟩ _
  repeat walk_at "z4"
  refine ev_callV (E := fun _ => E0) ?_
  repeat walk_at "z4"
  simp only [List.length_map]
  refine ⟨((k : Int), (m.places.length : Int)), .bool true, rfl, rfl, rfl, trivial, fun _ _ h => h.trans (by rw [show decide (0 ≤ ((k : Int)) ∧ ((k : Int)) < ((m.places.length : Int))) = true from decide_eq_true (by omega)]), fun _ _ h => h, ?_⟩
  repeat walk_at "z4"
  
  have e : atI ((List.range m.places.length).map fun p => PyData.bool (prsB m.places m.moves m.rush p)) (k : Int) = some (.bool (prsB m.places m.moves m.rush k)) := atI_n (by rw [List.getElem?_map, List.getElem?_range hk]; rfl)
  repeat walk_at "z4"
  
  exact rfl
end
def sp_has_move (K : PySem.W.Frag) (c : Addr) : Spc where
  I := Mch × Int
  args := fun (m, k) => [insP K c (mF m), .d (.int k)]
  cells := fun _ => []
  pre := fun _ => True
  post := fun (m, k) r _ => r = .val (.bool (decide (0 ≤ k ∧ k < (m.moves.length : Int))))
section
variable {P : Program} {w : World} {K : PySem.W.Frag} {mg : Str → Option Value} {base : Heap}
theorem ok_has_move (T : Tx P K mg) : FnOk P w K mg base CX0 1 T.a_has_move T.d_has_move ["machine", "move"] (SpB K (sp_has_move K T.c_Machine)) := by
  refine T.F_has_move.ok sc_has_move (fun vs H Q E h => spB_len h (fun _ => rfl)) (fun cdv A outer s H vs Q E hr h => ⟨_, PSs.nox ((pss_one (ps_ret (pe_chain op_leA op_ltA pe_int (pv 1) (pe_callB call_len (by rfl) T.z_len (by decide +kernel) (pa_cons (pe_fld (pv 0) rfl) pa_nil)))))), ?_⟩)
  refine go_fn (L := ["machine", "move"]) h (fun b i hp hX => ?_)
  try dsimp only [cxOf, L2H.cxH, L2.Cx.nox, L2.Cx.wish]
  have kLET := cLET T
  have kNMC := cNMC T
  have kLON := cLON T
  have kSIG := T.w_SIGNS
  have kSTA := T.w_STAY_SIGNS
  have kSID := T.w_SIDES
  have clM := T.cl_Machine
  have nfc := T.nf_Machine_clocks
  have nfp := T.nf_Machine_places
  have nfm := T.nf_Machine_moves
  have nfs := T.nf_Machine_start
  have nfr := T.nf_Machine_rush
  have nfe := T.nf_Machine__pressing
  
  obtain ⟨m, k⟩ := i
  show GO K b _ ⟨[some (insP K T.c_Machine (mF m)), some (.d (.int k))], []⟩ _
  repeat walk_at "z4"
  
  refine ⟨fun z => ?_, fun z => ?_⟩
  · have z := of_decide_eq_true z
    repeat walk_at "z4"
  
    rw [List.length_map]
    show Rv.val (.bool (decide (k < (m.moves.length : Int)))) = Rv.val (.bool (decide (0 ≤ k ∧ k < (m.moves.length : Int))))
    rw [show decide (0 ≤ k ∧ k < (m.moves.length : Int)) = decide (k < (m.moves.length : Int)) by simp [z]]
  · have z := of_decide_eq_false z
    show Rv.val (.bool false) = Rv.val (.bool (decide (0 ≤ k ∧ k < (m.moves.length : Int))))
    rw [show decide (0 ≤ k ∧ k < (m.moves.length : Int)) = false by simp [z]]
end
def sp_sign_limits : Spc where
  I := Int × Str × Int
  args := fun (k, sg, v) => [.d (.int k), .d (.str sg), .d (.int v)]
  cells := fun _ => []
  pre := fun (_, sg, _) => sg ∈ sgns
  post := fun (k, sg, v) r _ => r = .val (.list ((sgL k sg v).map l4D))
section
variable {P : Program} {w : World} {K : PySem.W.Frag} {mg : Str → Option Value} {base : Heap}
theorem ok_sign_limits (T : Tx P K mg) : FnOk P w K mg base CX0 1 T.a_sign_limits T.d_sign_limits ["clock", "sign", "c"] (SpB K sp_sign_limits) := by
  refine T.F_sign_limits.ok sc_sign_limits (fun vs H Q E h => spB_len h (fun _ => rfl)) (fun cdv A outer s H vs Q E hr h => ⟨_, PSs.nox ((pss_cons (ps_set (i := 3) sc_sign_limits.nd rfl (.inl rfl) (pe_op op_addA (pv 0) pe_int))
      (pss_cons (ps_if (pt_cmpR (op_eqD hr.units) (pv 1) pe_str (nomark _))
      (pss_one (ps_ret (pe_lst (pa_cons (pe_tup (pa_cons (pv 3) (pa_cons pe_int (pa_cons (pv 2) (pa_cons pe_int pa_nil))))) pa_nil))))
      pss_nil)
      (pss_cons (ps_if (pt_cmpR (op_eqD hr.units) (pv 1) pe_str (nomark _))
      (pss_one (ps_ret (pe_lst (pa_cons (pe_tup (pa_cons (pv 3) (pa_cons pe_int (pa_cons (pv 2) (pa_cons pe_int pa_nil))))) pa_nil))))
      pss_nil)
      (pss_cons (ps_if (pt_cmpR (op_eqD hr.units) (pv 1) pe_str (nomark _))
      (pss_one (ps_ret (pe_lst (pa_cons (pe_tup (pa_cons (pv 3) (pa_cons pe_int (pa_cons (pv 2) (pa_cons pe_int pa_nil))))) (pa_cons (pe_tup (pa_cons pe_int (pa_cons (pv 3) (pa_cons (pe_un un_neg (pv 2)) (pa_cons pe_int pa_nil))))) pa_nil)))))
      pss_nil)
      (pss_cons (ps_if (pt_cmpR (op_eqD hr.units) (pv 1) pe_str (nomark _))
      (pss_one (ps_ret (pe_lst (pa_cons (pe_tup (pa_cons pe_int (pa_cons (pv 3) (pa_cons (pe_un un_neg (pv 2)) (pa_cons pe_int pa_nil))))) pa_nil))))
      pss_nil)
      (pss_one (ps_ret (pe_lst (pa_cons (pe_tup (pa_cons pe_int (pa_cons (pv 3) (pa_cons (pe_un un_neg (pv 2)) (pa_cons pe_int pa_nil))))) pa_nil)))))))))), ?_⟩)
  refine go_fn (L := ["clock", "sign", "c", "variable"]) h (fun b i hp hX => ?_)
  try dsimp only [cxOf, L2H.cxH, L2.Cx.nox, L2.Cx.wish]
  have kLET := cLET T
  have kNMC := cNMC T
  have kLON := cLON T
  have kSIG := T.w_SIGNS
  have kSTA := T.w_STAY_SIGNS
  have kSID := T.w_SIDES
  
  obtain ⟨k, sg, v⟩ := i
  have hs : sg ∈ sgns := hp
  show GO K b _ ⟨[some (.d (.int k)), some (.d (.str sg)), some (.d (.int v)), none], []⟩ _
  simp only [sgns, List.mem_cons, List.not_mem_nil, or_false] at hs
  rcases hs with rfl | rfl | rfl | rfl | rfl
  · repeat walk_at "z4"
    refine ev_lst ?_
    repeat walk_at "z4"
  
    exact rfl
  · repeat walk_at "z4"
    refine ev_lst ?_
    repeat walk_at "z4"
  
    exact rfl
  · repeat walk_at "z4"
    refine ev_lst ?_
    repeat walk_at "z4"
  
    exact rfl
  · repeat walk_at "z4"
    refine ev_lst ?_
    repeat walk_at "z4"
  
    exact rfl
  · repeat walk_at "z4"
    refine ev_lst ?_
    repeat walk_at "z4"
  
    exact rfl
end
def sp_check_goal (K : PySem.W.Frag) (c cG : Addr) : Spc where
  I := Mch × Gl
  args := fun (m, g) => [insP K c (mF m), .d (glD g)]
  cells := fun _ => []
  pre := fun _ => True
  post := fun (m, g) r _ => goalB m g = true ∧ r = .val .none
  xpost := fun (m, g) x _ => goalB m g = false ∧ x = ⟨.ref cG, none⟩
section
variable {P : Program} {w : World} {K : PySem.W.Frag} {mg : Str → Option Value} {base : Heap}
theorem ok_check_goal (T : Tx P K mg) : FnOk P w K mg base (L2N.CX P w) 3 T.a_check_goal T.d_check_goal ["machine", "goal"] (SpB K (sp_check_goal K T.c_Machine T.c_BadGoal)) := by
  refine T.F_check_goal.ok sc_check_goal (fun vs H Q E h => spB_len h (fun _ => rfl)) (fun cdv A outer s H vs Q E hr h => ⟨_, ((pss_cons (ps_asg (pv 1) (pg_tup rfl (pgs_cons (pg_name (i := 2) sc_check_goal.nd rfl (.inl rfl) (.inr rfl)) (pgs_cons (pg_name (i := 3) sc_check_goal.nd rfl (.inl rfl) (.inr rfl)) pgs_nil))))
      (pss_cons (ps_for (passes_of rfl) rfl (pi_any (pv 2)) (pg_name (i := 4) sc_check_goal.nd rfl (.inl rfl) (.inr rfl))
      (pss_one (ps_if (pt_not (pt_truth (pe_call (ok_exists T) (hr.mono (by decide)) (by rfl) T.g_exists T.F_exists.kp (b_exists T.F_exists) .nil pass0 (pa_cons (pv 4) (pa_cons (pe_callB call_len (by rfl) T.z_len (by decide +kernel) (pa_cons (pe_fld (pv 0) rfl) pa_nil)) pa_nil))) (by intro _; rfl)))
      (pss_one (L2N.ps_raise rfl (L2N.takes_of rfl rfl rfl rfl) (L2N.pmk_own0 PySem.F.excBase_ValueError T.p_BadGoal.x T.gc_BadGoal T.p_BadGoal.k (raises_own T.p_BadGoal.s T.p_BadGoal.t) rfl)))
      pss_nil)))
      (pss_one (ps_for (passes_of rfl) rfl (pi_any (pv 3)) (pg_name (i := 5) sc_check_goal.nd rfl (.inl rfl) (.inr rfl))
      (pss_one (ps_if (pt_not (pt_truth (pe_call (ok_is_guard T) (hr.mono (by decide)) (by rfl) T.g_is_guard T.F_is_guard.kp (b_is_guard T.F_is_guard) .nil pass0 (pa_cons (pv 5) (pa_cons (pe_callB call_len (by rfl) T.z_len (by decide +kernel) (pa_cons (pe_fld (pv 0) rfl) pa_nil)) pa_nil))) (by intro _; rfl)))
      (pss_one (L2N.ps_raise rfl (L2N.takes_of rfl rfl rfl rfl) (L2N.pmk_own0 PySem.F.excBase_ValueError T.p_BadGoal.x T.gc_BadGoal T.p_BadGoal.k (raises_own T.p_BadGoal.s T.p_BadGoal.t) rfl)))
      pss_nil))))))), ?_⟩)
  refine go_fn (L := ["machine", "goal", "places", "conditions", "place", "condition"]) h (fun b i hp hX => ?_)
  try dsimp only [cxOf, L2H.cxH, L2.Cx.nox, L2.Cx.wish]
  have kLET := cLET T
  have kNMC := cNMC T
  have kLON := cLON T
  have kSIG := T.w_SIGNS
  have kSTA := T.w_STAY_SIGNS
  have kSID := T.w_SIDES
  have clM := T.cl_Machine
  have nfc := T.nf_Machine_clocks
  have nfp := T.nf_Machine_places
  have nfm := T.nf_Machine_moves
  have nfs := T.nf_Machine_start
  have nfr := T.nf_Machine_rush
  have nfe := T.nf_Machine__pressing
  
  obtain ⟨m, g1, g2⟩ := i
  show GO K b _ ⟨[some (insP K T.c_Machine (mF m)), some (.d (.tuple [.tuple (inL g1), .tuple (g2.map gcD)])), none, none, none, none], []⟩ _
  refine go_seq (go_asg (ev_var rfl (gt_tup (ds := [.tuple (inL g1), .tuple (g2.map gcD)]) rfl ?_)))
  repeat (first | (with_reducible refine gts_consD ?_) | (with_reducible refine gt_name ?_) | (with_reducible refine gts_nilD ?_))
  
  refine go_seq (go_for (ei_anyT (ei_tup (ev_var rfl ⟨inL g1, rfl, ?_⟩))))
  refine ⟨fun i s => ∃ x, (∀ k, k ∈ g1.take i → 0 ≤ k ∧ k < (m.places.length : Int)) ∧ s = ⟨[some (insP K T.c_Machine (mF m)), some (.d (.tuple [.tuple (inL g1), .tuple (g2.map gcD)])), some (.d (.tuple (inL g1))), some (.d (.tuple (g2.map gcD))), x, none], []⟩, ⟨none, (fun k h => by simp at h), rfl⟩, fun _ _ _ _ => trivial, ?_, ?_⟩
  · rintro i v s2 hx ⟨x, hall, rfl⟩
    obtain ⟨k, hk, rfl⟩ := inL_get hx
    refine gt_name ?_
    repeat walk_at "z4"
    refine ev_callV (E := fun _ => E0) ?_
    repeat walk_at "z4"
    simp only [List.length_map]
    refine ⟨(k, (m.places.length : Int)), _, rfl, rfl, rfl, trivial, fun _ _ h => h, fun _ _ h => h, ?_⟩
    repeat walk_at "z4"
  
    by_cases z : 0 ≤ k ∧ k < (m.places.length : Int)
    · rw [decide_eq_true z]
      repeat walk_at "z4"
  
      refine ⟨_, fun y hy => ?_, rfl⟩
      rw [take_snoc' hk] at hy
      rcases List.mem_append.mp hy with h | h
      · exact hall y h
      · rw [List.mem_singleton.mp h]; exact z
    · rw [decide_eq_false z]
      repeat walk_at "z4"
  
      refine go_raise0 (W := fun cls d _ H' => E cls d H') fun σ H' tv ta Hd' ps' R => hX ⟨.ref T.c_BadGoal, none⟩ none σ H' _ tv ta Hd' ps' ⟨?_, rfl⟩ R rfl
      show (g1.all _ && _) = false
      rw [Bool.and_eq_false_iff]
      refine .inl (List.all_eq_false.mpr ⟨k, List.mem_of_getElem? hk, ?_⟩)
      rw [decide_eq_false z]
      decide
  rintro s2 ⟨x, hall, rfl⟩
  rw [inL_len, List.take_length] at hall
  dsimp only
  refine go_for (ei_anyT (ei_tup (ev_var rfl ⟨g2.map gcD, rfl, ?_⟩)))
  refine ⟨fun i s => ∃ y, (∀ k, k ∈ g2.take i → grdB m.clocks.length k = true) ∧ s = ⟨[some (insP K T.c_Machine (mF m)), some (.d (.tuple [.tuple (inL g1), .tuple (g2.map gcD)])), some (.d (.tuple (inL g1))), some (.d (.tuple (g2.map gcD))), x, y], []⟩, ⟨none, (fun k h => by simp at h), rfl⟩, fun _ _ _ _ => trivial, ?_, ?_⟩
  · rintro i v s2 hx ⟨y, hall2, rfl⟩
    obtain ⟨k, hk, rfl⟩ := map_get hx
    refine gt_name ?_
    repeat walk_at "z4"
    refine ev_callV (E := fun _ => E0) ?_
    repeat walk_at "z4"
    simp only [List.length_map]
    refine ⟨(k, m.clocks.length), _, rfl, rfl, rfl, trivial, fun _ _ h => h, fun _ _ h => h, ?_⟩
    repeat walk_at "z4"
  
    cases z : grdB m.clocks.length k with
    | true =>
      repeat walk_at "z4"
  
      refine ⟨_, fun y hy => ?_, rfl⟩
      rw [take_snoc' hk] at hy
      rcases List.mem_append.mp hy with h | h
      · exact hall2 y h
      · rw [List.mem_singleton.mp h]; exact z
    | false =>
      repeat walk_at "z4"
  
      refine go_raise0 (W := fun cls d _ H' => E cls d H') fun σ H' tv ta Hd' ps' R => hX ⟨.ref T.c_BadGoal, none⟩ none σ H' _ tv ta Hd' ps' ⟨?_, rfl⟩ R rfl
      show (_ && g2.all _) = false
      rw [Bool.and_eq_false_iff]
      refine .inr (List.all_eq_false.mpr ⟨k, List.mem_of_getElem? hk, ?_⟩)
      rw [z]
      decide
  rintro s2 ⟨y, hall2, rfl⟩
  rw [List.length_map, List.take_length] at hall2
  refine ⟨?_, rfl⟩
  show (g1.all _ && g2.all _) = true
  rw [Bool.and_eq_true_iff]
  exact ⟨List.all_eq_true.mpr fun k hk => decide_eq_true (hall k hk), List.all_eq_true.mpr hall2⟩
end
def sp_moment_limits : Spc where
  I := List Gc × Int × List Int
  args := fun (cs, t, o) => [.d (gcsD cs), .d (.int t), .o 0]
  cells := fun (_, _, o) => [.lst (inL o)]
  pre := fun (cs, t, o) => (∀ c, c ∈ cs → grdB o.length c = true) ∧ cs.length ≤ 1000
  post := fun (cs, t, o) r os => r = .val (.list ((rowsL t o cs).map l4D)) ∧ os = [.lst (inL o)]
section
variable {P : Program} {w : World} {K : PySem.W.Frag} {mg : Str → Option Value} {base : Heap}
theorem ok_moment_limits (T : Tx P K mg) : FnOk P w K mg base CX0 2 T.a_moment_limits T.d_moment_limits ["conditions", "moment", "zeros"] (SpB K sp_moment_limits) := by
  refine T.F_moment_limits.ok sc_moment_limits (fun vs H Q E h => spB_len h (fun _ => rfl)) (fun cdv A outer s H vs Q E hr h => ⟨_, PSs.nox ((pss_cons (ps_set (i := 3) sc_moment_limits.nd rfl (.inl rfl) (pe_lst pa_nil))
      (pss_cons (ps_for PassesOwn.never rfl (pi_any (pv 0)) (pg_tup rfl (pgs_cons (pg_name (i := 4) sc_moment_limits.nd rfl (.inl rfl) (.inr rfl)) (pgs_cons (pg_name (i := 5) sc_moment_limits.nd rfl (.inl rfl) (.inr rfl)) (pgs_cons (pg_name (i := 6) sc_moment_limits.nd rfl (.inl rfl) (.inr rfl)) pgs_nil))))
      (pss_one (ps_for PassesOwn.never rfl (pi_any (pe_call (ok_sign_limits T) (hr.mono (by decide)) (by rfl) T.g_sign_limits T.F_sign_limits.kp (b_sign_limits T.F_sign_limits) .nil pass0 (pa_cons (pv 4) (pa_cons (pv 5) (pa_cons (pv 6) pa_nil))))) (pg_tup rfl (pgs_cons (pg_name (i := 7) sc_moment_limits.nd rfl (.inl rfl) (.inr rfl)) (pgs_cons (pg_name (i := 8) sc_moment_limits.nd rfl (.inl rfl) (.inr rfl)) (pgs_cons (pg_name (i := 9) sc_moment_limits.nd rfl (.inl rfl) (.inr rfl)) (pgs_cons (pg_name (i := 10) sc_moment_limits.nd rfl (.inl rfl) (.inr rfl)) pgs_nil)))))
      (pss_one (ps_if (pt_cmpR (op_eqD hr.units) (pv 7) pe_int (nomark _))
      (pss_one (ps_expr (pe_bm PySem.F.plainAttrs_list PySem.F.slot_list_append PySem.F.type_list_append mt_append (pv 3) (pa_cons (pe_tup (pa_cons (pe_ix ix_seq (pv 2) (pv 4) (fun _ _ => rfl)) (pa_cons (pv 1) (pa_cons (pv 9) (pa_cons (pv 10) pa_nil))))) pa_nil))))
      (pss_one (ps_expr (pe_bm PySem.F.plainAttrs_list PySem.F.slot_list_append PySem.F.type_list_append mt_append (pv 3) (pa_cons (pe_tup (pa_cons (pv 1) (pa_cons (pe_ix ix_seq (pv 2) (pv 4) (fun _ _ => rfl)) (pa_cons (pv 9) (pa_cons (pv 10) pa_nil))))) pa_nil)))))))))
      (pss_one (ps_ret (pv 3)))))), ?_⟩)
  refine go_fn (L := ["conditions", "moment", "zeros", "limits", "clock", "sign", "c", "left", "_", "number", "w"]) h (fun b i hp hX => ?_)
  try dsimp only [cxOf, L2H.cxH, L2.Cx.nox, L2.Cx.wish]
  have kLET := cLET T
  have kNMC := cNMC T
  have kLON := cLON T
  have kSIG := T.w_SIGNS
  have kSTA := T.w_STAY_SIGNS
  have kSID := T.w_SIDES
  
  obtain ⟨cs, t, o⟩ := i
  obtain ⟨h1, h2⟩ := hp
  have h2 : cs.length ≤ 1000 := h2
  show GO K b _ ⟨[some (.d (.tuple (cs.map gcD))), some (.d (.int t)), some (.o 0), none, none, none, none, none, none, none, none], [.lst (inL o)]⟩ _
  refine go_sAsg (ev_lstO (ea_nil ⟨[], rfl, rfl, gt_name ?_⟩))
  refine go_seq (go_for (ei_anyT (ei_tup (ev_var rfl ⟨cs.map gcD, rfl, ?_⟩))))
  refine ⟨fun i s => ∃ x4 x5 x6 x7 x8 x9 xa, s = ⟨[some (.d (.tuple (cs.map gcD))), some (.d (.int t)), some (.o 0), some (.o 1), x4, x5, x6, x7, x8, x9, xa], [.lst (inL o), .lst ((rowsL t o (cs.take i)).map l4D)]⟩, ⟨none, none, none, none, none, none, none, rfl⟩, fun _ _ _ _ => trivial, ?_, ?_⟩
  · rintro i v s2 hx ⟨x4, x5, x6, x7, x8, x9, xa, rfl⟩
    obtain ⟨⟨k, sg, v⟩, hc, rfl⟩ := map_get hx
    have hg := h1 _ (List.mem_of_getElem? hc)
    have hs : sg ∈ sgns := grdB_sg hg
    obtain ⟨k0, k1⟩ := grdB_ge hg
    have k0 : 0 ≤ k := k0
    have k1 : k < o.length := k1
    have hz : atI (inL o) k = some (.int (o.getD k.toNat 0)) := by
      have e : k = ((k.toNat : Nat) : Int) := by omega
      rw [e]
      refine atI_n ?_
      have hl : k.toNat < o.length := by omega
      rw [inL, List.getElem?_map, List.getElem?_eq_getElem hl, Int.toNat_natCast, List.getD_eq_getElem?_getD, List.getElem?_eq_getElem hl]
      rfl
    have hlen := rows_len (t := t) (o := o) (cs := cs.take i)
    have hlt := sgL_len (k := k) (sg := sg) (c := v)
    rw [List.length_take] at hlen
    show GT K b _ (.d (.tuple [.int k, .str sg, .int v])) _ _
    refine gt_tup (ds := [.int k, .str sg, .int v]) rfl ?_
    repeat (first | (with_reducible refine gts_consD ?_) | (with_reducible refine gt_name ?_) | (with_reducible refine gts_nilD ?_))
  
    refine go_for (ei_anyL (ei_list (ev_callV (E := fun _ => E0) ?_)))
    repeat walk_at "z4"
  
    refine ⟨(k, sg, v), _, rfl, rfl, rfl, hs, fun _ _ h => h, fun _ _ h => h, ?_⟩
    refine ⟨(sgL k sg v).map l4D, fun _ => True, .inl rfl, trivial, ?_⟩
    refine ⟨fun j s => ∃ x7 x8 x9 xa, s = ⟨[some (.d (.tuple (cs.map gcD))), some (.d (.int t)), some (.o 0), some (.o 1), some (.d (.int k)), some (.d (.str sg)), some (.d (.int v)), x7, x8, x9, xa], [.lst (inL o), .lst ((rowsL t o (cs.take i) ++ ((sgL k sg v).take j).map (cvL t (o.getD k.toNat 0))).map l4D)]⟩, ⟨x7, x8, x9, xa, by rw [List.take_zero, List.map_nil, List.append_nil]; rfl⟩, fun _ _ _ _ => trivial, ?_, ?_⟩
    · rintro j v2 s3 hx2 ⟨x7, x8, x9, xa, rfl⟩
      obtain ⟨⟨la, lb, ln, lw⟩, hl, rfl⟩ := map_get hx2
      show GT K b _ (.d (.tuple [.int la, .int lb, .int ln, .int lw])) _ _
      refine gt_tup (ds := [.int la, .int lb, .int ln, .int lw]) rfl ?_
      repeat (first | (with_reducible refine gts_consD ?_) | (with_reducible refine gt_name ?_) | (with_reducible refine gts_nilD ?_))
      repeat walk_at "z4"
  
      have hsh : Nat.lt ((rowsL t o (cs.take i) ++ ((sgL k sg v).take j).map (cvL t (o.getD k.toNat 0))).map l4D).length sizeLine := Nat.lt_of_le_of_lt (show _ ≤ 100000 by rw [List.length_map, List.length_append, List.length_map, List.length_take]; omega) (by decide)
      have fin : ∀ y, cvL t (o.getD k.toNat 0) (la, lb, ln, lw) = y → (rowsL t o (cs.take i) ++ ((sgL k sg v).take (j + 1)).map (cvL t (o.getD k.toNat 0))).map l4D = (rowsL t o (cs.take i) ++ ((sgL k sg v).take j).map (cvL t (o.getD k.toNat 0))).map l4D ++ [l4D y] := fun y hy => by
        simp only [take_snoc' hl, List.map_append, List.map_cons, List.map_nil, hy, List.append_assoc]
      refine ⟨fun z => ?_, fun z => ?_⟩
      · have z := of_decide_eq_true z
        repeat walk_at "z4"
        refine ev_bmL (ev_var (a := .o 1) rfl ⟨⟨1, _, rfl, rfl⟩, ?_⟩)
        repeat walk_at "z4"
        refine vm_append (n := 1) rfl hsh ?_
        repeat walk_at "z4"
  
        dsimp only
        rw [fin (o.getD k.toNat 0, t, ln, lw) (if_pos z)]
        exact ⟨_, _, _, _, rfl⟩
      · have z := of_decide_eq_false z
        repeat walk_at "z4"
        refine ev_bmL (ev_var (a := .o 1) rfl ⟨⟨1, _, rfl, rfl⟩, ?_⟩)
        repeat walk_at "z4"
        refine vm_append (n := 1) rfl hsh ?_
        repeat walk_at "z4"
  
        dsimp only
        rw [fin (t, o.getD k.toNat 0, ln, lw) (if_neg z)]
        exact ⟨_, _, _, _, rfl⟩
    rintro s3 ⟨x7, x8, x9, xa, rfl⟩
    rw [List.length_map, List.take_length, row_sg k0, ← rows_snoc hc]
    exact ⟨_, _, _, _, _, _, _, rfl⟩
  rintro s2 ⟨x4, x5, x6, x7, x8, x9, xa, rfl⟩
  rw [List.length_map, List.take_length]
  dsimp only
  refine go_ret (ev_dat (ev_var rfl ⟨1, _, rfl, rfl, ?_⟩))
  exact ⟨rfl, rfl⟩
end
def sp_path_places (K : PySem.W.Frag) (c cP : Addr) : Spc where
  I := Mch × List Int
  args := fun (m, p) => [insP K c (mF m), .o 0]
  cells := fun (_, p) => [.lst (inL p)]
  pre := fun (m, p) => m.Ok ∧ p.length ≤ 1000
  post := fun (m, p) r os => (∀ j, j < p.length → FitA m p j) ∧ r = .val (.list (inN' ((List.range (p.length + 1)).map (plA m p)))) ∧ os = [.lst (inL p)]
  xpost := fun (m, p) x os => ∃ a, a < p.length ∧ Mis m p a ∧ x = ⟨.ref cP, some [("place", .int (a : Nat))]⟩ ∧ os = [.lst (inL p)]
section
variable {P : Program} {w : World} {K : PySem.W.Frag} {mg : Str → Option Value} {base : Heap}
theorem ok_path_places (T : Tx P K mg) : FnOk P w K mg base (L2N.CX P w) 3 T.a_path_places T.d_path_places ["machine", "path"] (SpB K (sp_path_places K T.c_Machine T.c_BadPath)) := by
  refine T.F_path_places.ok sc_path_places (fun vs H Q E h => spB_len h (fun _ => rfl)) (fun cdv A outer s H vs Q E hr h => ⟨_, ((pss_cons (ps_set (i := 2) sc_path_places.nd rfl (.inl rfl) (pe_lst (pa_cons (pe_fld (pv 0) rfl) pa_nil)))
      (pss_cons (ps_for (passes_of rfl) rfl (pi_enumA (by rfl) T.z_enumerate (pa_cons (pv 1) pa_nil)) (pg_tup rfl (pgs_cons (pg_name (i := 3) sc_path_places.nd rfl (.inl rfl) (.inr rfl)) (pgs_cons (pg_name (i := 4) sc_path_places.nd rfl (.inl rfl) (.inr rfl)) pgs_nil)))
      (pss_cons (ps_if (PW.pt (pw_or (pt_not (pt_truth (pe_call (ok_has_move T) (hr.mono (by decide)) (by rfl) T.g_has_move T.F_has_move.kp (b_has_move T.F_has_move) .nil pass0 (pa_cons (pv 0) (pa_cons (pv 4) pa_nil))) (by intro _; rfl))) (pw_or1 (pt_cmpR (op_neD hr.units) (pe_ix ix_seq (pe_ix ix_seq (pe_fld (pv 0) rfl) (pv 4) (fun _ _ => rfl)) pe_int (fun _ _ => rfl)) (pe_ix ix_seq (pv 2) (pe_un un_neg pe_int) (fun _ _ => rfl)) (nomark _)))))
      (pss_one (L2N.ps_raise rfl (L2N.takes_of rfl rfl rfl rfl) (pmk_oexN T.e_BadPath.o T.e_BadPath.i T.e_BadPath.t (ok_BadPath___init__ T) (hr.mono (by decide)) (b_BadPath___init__ T.e_BadPath.F) .nil pass0 rfl T.gc_BadPath (pa_cons (pv 3) pa_nil))))
      pss_nil)
      (pss_one (ps_expr (pe_bm PySem.F.plainAttrs_list PySem.F.slot_list_append PySem.F.type_list_append mt_append (pv 2) (pa_cons (pe_ix ix_seq (pe_ix ix_seq (pe_fld (pv 0) rfl) (pv 4) (fun _ _ => rfl)) pe_int (fun _ _ => rfl)) pa_nil))))))
      (pss_one (ps_ret (pv 2)))))), ?_⟩)
  refine go_fn (L := ["machine", "path", "places", "index", "move"]) h (fun b i hp hX => ?_)
  try dsimp only [cxOf, L2H.cxH, L2.Cx.nox, L2.Cx.wish]
  have kLET := cLET T
  have kNMC := cNMC T
  have kLON := cLON T
  have kSIG := T.w_SIGNS
  have kSTA := T.w_STAY_SIGNS
  have kSID := T.w_SIDES
  have clM := T.cl_Machine
  have nfc := T.nf_Machine_clocks
  have nfp := T.nf_Machine_places
  have nfm := T.nf_Machine_moves
  have nfs := T.nf_Machine_start
  have nfr := T.nf_Machine_rush
  have nfe := T.nf_Machine__pressing
  
  obtain ⟨m, p⟩ := i
  obtain ⟨ok, h2⟩ := hp
  have h2 : p.length ≤ 1000 := h2
  show GO K b _ ⟨[some (insP K T.c_Machine (mF m)), some (.o 0), none, none, none], [.lst (inL p)]⟩ _
  refine go_sAsg (ev_lstO ?_)
  repeat walk_at "z4"
  
  refine go_seq (go_for (ei_enumA (ea_cons (ev_var rfl (ea_nil ⟨_, inL p, fun os => os[0]? = some (.lst (inL p)), true, rfl, .inr ⟨0, rfl, fun _ h => h⟩, rfl, ?_⟩)))))
  refine ⟨fun j s => ∃ x3 x4, (∀ i, i < j → FitA m p i) ∧ s = ⟨[some (insP K T.c_Machine (mF m)), some (.o 0), some (.o 1), x3, x4], [.lst (inL p), .lst (inN' ((List.range (j + 1)).map (plA m p)))]⟩, ⟨none, none, (fun i h => absurd h (Nat.not_lt_zero i)), rfl⟩, (fun j s hj ⟨_, _, _, e⟩ => by rw [e]; rfl), ?_, ?_⟩
  · rintro j v s2 hx ⟨x3, x4, hall, rfl⟩
    obtain ⟨k, hk, rfl⟩ := enm_get (f := PyData.int) hx
    have hjl := (List.getElem?_eq_some_iff.mp hk).1
    have hlast : atI (inN' ((List.range (j + 1)).map (plA m p))) (-1) = some (.int (plA m p j : Nat)) := at_last'
    have rz : ¬ FitA m p j → ∀ (x4 : Option Dw.A) (N : EE), GO K b (fun _ σ H => tMkO T.c_BadPath (spE K T.c_BadPath ["place"]) [] (tCons (tVar 3) tNil) σ H fun cls d H' => E cls d H') ⟨[some (insP K T.c_Machine (mF m)), some (.o 0), some (.o 1), some (.d (.int (j : Nat))), x4], [.lst (inL p), .lst (inN' ((List.range (j + 1)).map (plA m p)))]⟩ N := fun hno x4 N => by
      refine go_raiseE (W := fun cls d _ H' => E cls d H') (ea_cons (ev_var rfl (ea_nil ⟨[.int (j : Nat)], rfl, rfl, (show 1 ≤ 1000 by decide), (fun x hx => by rw [List.mem_singleton.mp hx]; exact fmN (by omega)), fun d σ H' tv ta Hd' ps' R hd => hX ⟨.ref T.c_BadPath, some [("place", .int (j : Nat))]⟩ d σ H' _ tv ta Hd' ps' ⟨j, hjl, ⟨by omega, hall, fun _ => hno⟩, rfl, rfl⟩ R hd⟩)))
    refine gt_tup (ds := [.int j, .int k]) rfl ?_
    repeat (first | (with_reducible refine gts_consD ?_) | (with_reducible refine gt_name ?_) | (with_reducible refine gts_nilD ?_))
    repeat walk_at "z4"
    refine ev_callV (E := fun _ => E0) ?_
    repeat walk_at "z4"
    refine ⟨(m, k), _, rfl, rfl, rfl, trivial, fun _ _ h => h, fun _ _ h => h, ?_⟩
    repeat walk_at "z4"
  
    by_cases z : 0 ≤ k ∧ k < (m.moves.length : Int)
    · rw [decide_eq_true z]
      obtain ⟨⟨sr, tg, lb, gd, rs, sd⟩, hm⟩ : ∃ x, m.moves[k.toNat]? = some x := ⟨_, List.getElem?_eq_getElem (by omega)⟩
      have hix : atI (m.moves.map movD) k = some (.tuple [.int sr, .int tg, .str lb, cndsD gd, .tuple (inN' rs), .str sd]) := at_map z.1 hm
      repeat walk_at "z4"
  
      refine ⟨fun y => ?_, fun y => ?_⟩
      · have hno : ¬ FitA m p j := by
          rintro ⟨_, x', e1, e2⟩
          rw [getD_of hk, hm] at e1
          cases e1
          have e2 : sr = plA m p j := e2
          simp [e2] at y
        exact rz hno _ _
      · have hfit : FitA m p j := ⟨by rw [getD_of hk]; exact z.1, _, by rw [getD_of hk]; exact hm, by simp at y; show sr = _; omega⟩
        repeat walk_at "z4"
        refine ev_bmL (ev_var (a := .o 1) rfl ⟨⟨1, _, rfl, rfl⟩, ?_⟩)
        repeat walk_at "z4"
        refine vm_append (n := 1) rfl (Nat.lt_of_le_of_lt (show _ ≤ 1001 by rw [inN_len, List.length_map, List.length_range]; omega) (by decide)) ?_
        repeat walk_at "z4"
  
        dsimp only
        refine ⟨some (.d (.int (j : Nat))), some (.d (.int k)), fun i hi => ?_, ?_⟩
        · by_cases e : i = j
          · rw [e]; exact hfit
          · exact hall i (by omega)
        · rw [show inN' ((List.range (j + 1 + 1)).map (plA m p)) = inN' ((List.range (j + 1)).map (plA m p)) ++ [.int (tg : Nat)] by rw [List.range_succ (n := j + 1), List.map_append, List.map_singleton, plA_succ hk hm]; exact List.map_append ..]
          rfl
    · rw [decide_eq_false z]
      repeat walk_at "z4"
  
      refine rz ?_ _ _
      rintro ⟨e0, x', e1, e2⟩
      rw [getD_of hk] at e0 e1
      have := (List.getElem?_eq_some_iff.mp e1).1
      exact z ⟨e0, by omega⟩
  rintro s2 ⟨x3, x4, hall, rfl⟩
  rw [show (enumD (inL p)).length = p.length from enm_len] at hall ⊢
  refine go_next ?_
  refine go_ret (ev_dat (ev_var rfl ⟨1, _, rfl, rfl, ?_⟩))
  exact ⟨hall, rfl, rfl⟩
end
def sp_path_limits (K : PySem.W.Frag) (c cG cP : Addr) : Spc where
  I := Mch × List Int × Option Gl
  args := fun (m, p, g) => [insP K c (mF m), .o 0, .d (ogD g)]
  cells := fun (_, p, _) => [.lst (inL p)]
  pre := fun (m, p, g) => m.Ok ∧ p.length ≤ 1000 ∧ ∀ gg, g = some gg → gg.2.length ≤ 1000
  post := fun (m, p, g) r os => (∀ gg, g = some gg → goalB m gg = true) ∧ (∀ j, j < p.length → FitA m p j) ∧ r = .nw (.t [.d (.int ((p.length : Int) + 2)), .o 0]) [.lst ((limA m p g).map l4D)] ∧ os = [.lst (inL p)]
  xpost := fun (m, p, g) x os => os = [.lst (inL p)] ∧ ((∃ gg, g = some gg ∧ goalB m gg = false ∧ x = ⟨.ref cG, none⟩) ∨ ((∀ gg, g = some gg → goalB m gg = true) ∧ ∃ a, a < p.length ∧ Mis m p a ∧ x = ⟨.ref cP, some [("place", .int (a : Nat))]⟩))
section
variable {P : Program} {w : World} {K : PySem.W.Frag} {mg : Str → Option Value} {base : Heap}
theorem ok_path_limits (T : Tx P K mg) : FnOk P w K mg base (L2N.CX P w) 4 T.a_path_limits T.d_path_limits ["machine", "path", "goal"] (SpB K (sp_path_limits K T.c_Machine T.c_BadGoal T.c_BadPath)) := by
  refine T.F_path_limits.ok sc_path_limits (fun vs H Q E h => spB_len h (fun _ => rfl)) (fun cdv A outer s H vs Q E hr h => ⟨_, ((pss_cons (ps_if (pt_cmpR op_notA (pv 2) pe_non (nomark _))
      (pss_one (ps_expr (pe_call (ok_check_goal T) (hr.mono (by decide)) (by rfl) T.g_check_goal T.F_check_goal.kp (b_check_goal T.F_check_goal) .nil (L2N.passes_call (L2N.takes_of rfl rfl rfl rfl) (fun _ _ _ _ h => h)) (pa_cons (pv 0) (pa_cons (pv 2) pa_nil)))))
      pss_nil)
      (pss_cons (ps_set (i := 3) sc_path_limits.nd rfl (.inl rfl) (pe_call (ok_path_places T) (hr.mono (by decide)) (by rfl) T.g_path_places T.F_path_places.kp (b_path_places T.F_path_places) .nil (L2N.passes_call (L2N.takes_of rfl rfl rfl rfl) (fun _ _ _ _ h => h)) (pa_cons (pv 0) (pa_cons (pv 1) pa_nil))))
      (pss_cons (ps_set (i := 4) sc_path_limits.nd rfl (.inl rfl) (pe_op op_mulA (pe_lst (pa_cons pe_int pa_nil)) (pe_callB call_len (by rfl) T.z_len (by decide +kernel) (pa_cons (pe_fld (pv 0) rfl) pa_nil))))
      (pss_cons (ps_set (i := 5) sc_path_limits.nd rfl (.inl rfl) (pe_lst pa_nil))
      (pss_cons (ps_for (passes_of rfl) rfl (pi_enumA (by rfl) T.z_enumerate (pa_cons (pv 3) pa_nil)) (pg_tup rfl (pgs_cons (pg_name (i := 6) sc_path_limits.nd rfl (.inl rfl) (.inr rfl)) (pgs_cons (pg_name (i := 7) sc_path_limits.nd rfl (.inl rfl) (.inr rfl)) pgs_nil)))
      (pss_cons (ps_set (i := 8) sc_path_limits.nd rfl (.inl rfl) (pe_op op_addA (pv 6) pe_int))
      (pss_cons (ps_expr (pe_bm PySem.F.plainAttrs_list PySem.F.slot_list_append PySem.F.type_list_append mt_append (pv 5) (pa_cons (pe_tup (pa_cons (pv 6) (pa_cons (pv 8) (pa_cons pe_int (pa_cons pe_int pa_nil))))) pa_nil)))
      (pss_cons (ps_if (pt_truth (pe_meth (pv 0) T.cl_Machine T.mt_Machine_is_pressing (ok_Machine_is_pressing T) (hr.mono (by decide)) (b_Machine_is_pressing T.F_Machine_is_pressing) .nil passN (pa_cons (pv 7) pa_nil)) (by intro _; rfl))
      (pss_one (ps_expr (pe_bm PySem.F.plainAttrs_list PySem.F.slot_list_append PySem.F.type_list_append mt_append (pv 5) (pa_cons (pe_tup (pa_cons (pv 8) (pa_cons (pv 6) (pa_cons pe_int (pa_cons pe_int pa_nil))))) pa_nil))))
      pss_nil)
      (pss_cons (ps_expr (pe_bm PySem.F.plainAttrs_list PySem.F.slot_list_extend PySem.F.type_list_extend mt_extend (pv 5) (pa_cons (pe_call (ok_moment_limits T) (hr.mono (by decide)) (by rfl) T.g_moment_limits T.F_moment_limits.kp (b_moment_limits T.F_moment_limits) .nil pass0 (pa_cons (pe_ix ix_seq (pe_ix ix_seq (pe_fld (pv 0) rfl) (pv 7) (fun _ _ => rfl)) pe_int (fun _ _ => rfl)) (pa_cons (pv 8) (pa_cons (pv 4) pa_nil)))) pa_nil)))
      (pss_one (ps_if (pt_cmpR op_ltA (pv 6) (pe_callB call_len (by rfl) T.z_len (by decide +kernel) (pa_cons (pv 1) pa_nil)) (nomark _))
      (pss_cons (ps_set (i := 9) sc_path_limits.nd rfl (.inl rfl) (pe_ix ix_seq (pe_ix ix_seq (pe_fld (pv 0) rfl) (pe_ix ix_seq (pv 1) (pv 6) (fun _ _ => rfl)) (fun _ _ => rfl)) pe_int (fun _ _ => rfl)))
      (pss_cons (ps_expr (pe_bm PySem.F.plainAttrs_list PySem.F.slot_list_extend PySem.F.type_list_extend mt_extend (pv 5) (pa_cons (pe_call (ok_moment_limits T) (hr.mono (by decide)) (by rfl) T.g_moment_limits T.F_moment_limits.kp (b_moment_limits T.F_moment_limits) .nil pass0 (pa_cons (pv 9) (pa_cons (pv 8) (pa_cons (pv 4) pa_nil)))) pa_nil)))
      (pss_one (ps_for (passes_of rfl) rfl (pi_any (pe_ix ix_seq (pe_ix ix_seq (pe_fld (pv 0) rfl) (pe_ix ix_seq (pv 1) (pv 6) (fun _ _ => rfl)) (fun _ _ => rfl)) pe_int (fun _ _ => rfl))) (pg_name (i := 10) sc_path_limits.nd rfl (.inl rfl) (.inr rfl))
      (pss_one (ps_asg (pv 8) (pg_sub (pv 4) (pv 10) set_list)))))))
      (pss_one (ps_if (pt_cmpR op_notA (pv 2) pe_non (nomark _))
      (pss_one (ps_expr (pe_bm PySem.F.plainAttrs_list PySem.F.slot_list_extend PySem.F.type_list_extend mt_extend (pv 5) (pa_cons (pe_call (ok_moment_limits T) (hr.mono (by decide)) (by rfl) T.g_moment_limits T.F_moment_limits.kp (b_moment_limits T.F_moment_limits) .nil pass0 (pa_cons (pe_ix ix_seq (pv 2) pe_int (fun _ _ => rfl)) (pa_cons (pv 8) (pa_cons (pv 4) pa_nil)))) pa_nil))))
      pss_nil)))))))))
      (pss_cons (ps_if (PW.pt (pw_and (pt_cmpR op_notA (pv 2) pe_non (nomark _)) (pw_and1 (pt_cmpR op_niA (pe_ix ix_seq (pv 3) (pe_un un_neg pe_int) (fun _ _ => rfl)) (pe_ix ix_seq (pv 2) pe_int (fun _ _ => rfl)) (by rfl)))))
      (pss_one (ps_expr (pe_bm PySem.F.plainAttrs_list PySem.F.slot_list_append PySem.F.type_list_append mt_append (pv 5) (pa_cons (pe_tup (pa_cons pe_int (pa_cons pe_int (pa_cons pe_int (pa_cons pe_int pa_nil))))) pa_nil))))
      pss_nil)
      (pss_one (ps_ret (pe_tup (pa_cons (pe_op op_addA (pe_callB call_len (by rfl) T.z_len (by decide +kernel) (pa_cons (pv 1) pa_nil)) pe_int) (pa_cons (pv 5) pa_nil)))))))))))), ?_⟩)
  refine go_fn (L := ["machine", "path", "goal", "places", "zeros", "limits", "before", "place", "moment", "guard", "clock"]) h (fun b i hp hX => ?_)
  try dsimp only [cxOf, L2H.cxH, L2.Cx.nox, L2.Cx.wish]
  have kLET := cLET T
  have kNMC := cNMC T
  have kLON := cLON T
  have kSIG := T.w_SIGNS
  have kSTA := T.w_STAY_SIGNS
  have kSID := T.w_SIDES
  have clM := T.cl_Machine
  have nfc := T.nf_Machine_clocks
  have nfp := T.nf_Machine_places
  have nfm := T.nf_Machine_moves
  have nfs := T.nf_Machine_start
  have nfr := T.nf_Machine_rush
  have nfe := T.nf_Machine__pressing
  
  obtain ⟨m, p, g⟩ := i
  obtain ⟨ok, h2, h3⟩ := hp
  have h2 : p.length ≤ 1000 := h2
  have c8 : m.clocks.length ≤ 8 := ok.c8
  show GO K b _ ⟨[some (insP K T.c_Machine (mF m)), some (.o 0), some (.d (ogD g)), none, none, none, none, none, none, none, none], [.lst (inL p)]⟩ _
  refine go_mid (fun s => (∀ gg, g = some gg → goalB m gg = true) ∧ s = ⟨[some (insP K T.c_Machine (mF m)), some (.o 0), some (.d (ogD g)), none, none, none, none, none, none, none, none], [.lst (inL p)]⟩) ?_ ?_
  · cases g with
    | none =>
      show GO K b _ ⟨[some (insP K T.c_Machine (mF m)), some (.o 0), some (.d .none), none, none, none, none, none, none, none, none], [.lst (inL p)]⟩ _
      repeat walk_at "z4"
  
      exact ⟨fun gg h => (nomatch h), rfl⟩
    | some gg =>
      show GO K b _ ⟨[some (insP K T.c_Machine (mF m)), some (.o 0), some (.d (.tuple [.tuple (inL gg.1), .tuple (gg.2.map gcD)])), none, none, none, none, none, none, none, none], [.lst (inL p)]⟩ _
      repeat walk_at "z4"
  
      refine ev_call0 (E := fun _ => E) ?_
      repeat walk_at "z4"
  
      refine ⟨(m, gg), rfl, rfl, rfl, trivial, fun r os' hr => ?_, fun x os' hx d σ H' tv ta Hd' ps' R hd => hX x d σ H' _ tv ta Hd' ps' ⟨rfl, .inl ⟨gg, rfl, hx.1, hx.2⟩⟩ R hd⟩
      obtain ⟨hg, rfl⟩ := hr
      exact ⟨fun g' h => by cases h; exact hg, rfl⟩
  rintro s1 ⟨hgo, rfl⟩
  refine go_sAsg (ev_callX (E := fun _ => E) [0] (by decide) ?_)
  repeat walk_at "z4"
  
  refine ⟨(m, p), rfl, ⟨trivial, List.mem_singleton_self _, trivial⟩, rfl, fun j hj => by rw [List.mem_singleton.mp hj]; exact ⟨_, rfl, (fun z => nomatch z), trivial⟩, ⟨ok, h2⟩, fun r os' hr _ => ?_, fun x os' hx _ => ?_⟩
  rotate_left
  · obtain ⟨a, ha, hm, rfl, rfl⟩ := hx
    exact ⟨rfl, fun d σ H' tv ta Hd' ps' R hd => hX _ d σ H' _ tv ta Hd' ps' ⟨rfl, .inr ⟨hgo, a, ha, hm, rfl⟩⟩ R hd⟩
  obtain ⟨hfit, rfl, rfl⟩ := hr
  refine ⟨rfl, ?_⟩
  refine gt_name ?_
  show GO K b _ ⟨[some (insP K T.c_Machine (mF m)), some (.o 0), some (.d (ogD g)), some (.d (.list (inN' ((List.range (p.length + 1)).map (plA m p))))), none, none, none, none, none, none, none], [.lst (inL p)]⟩ _
  refine go_sAsg (ev_op (ev_lst ?_))
  repeat walk_at "z4"
  
  rw [List.length_map]
  refine v2_mulL (xs := [.int 0]) rfl (by omega) (by omega) (Nat.le_trans (show _ ≤ 1000 by rw [Int.toNat_natCast]; simp; omega) (by decide)) ?_
  rw [Int.toNat_natCast, rep_one, inL_rep]
  refine gt_name ?_
  refine go_sAsg (ev_lstO (ea_nil ⟨[], rfl, rfl, gt_name ?_⟩))
  refine go_seq (go_for (ei_enumA (ea_cons (ev_var rfl (ea_nil ⟨_, inN' ((List.range (p.length + 1)).map (plA m p)), fun _ => True, true, rfl, .inl rfl, trivial, ?_⟩)))))
  refine ⟨fun i s => ∃ x6 x7 x8 x9 xa, s = ⟨[some (insP K T.c_Machine (mF m)), some (.o 0), some (.d (ogD g)), some (.d (.list (inN' ((List.range (p.length + 1)).map (plA m p))))), some (.o 1), some (.o 2), x6, x7, x8, x9, xa], [.lst (inL p), .lst (inL (orI m p i)), .lst ((lmI m p g i).map l4D)]⟩, ⟨none, none, none, none, none, by rw [lmI_le (Nat.zero_le _), orI_le (Nat.zero_le _)]; rfl⟩, fun _ _ _ _ => trivial, ?_, ?_⟩
  · rintro j v s2 hx ⟨x6, x7, x8, x9, xa, rfl⟩
    obtain ⟨q, hq, rfl⟩ := enm_get (f := fun n : Nat => PyData.int n) hx
    have hj : j < p.length + 1 := by have := (List.getElem?_eq_some_iff.mp hq).1; simpa using this
    obtain rfl : plA m p j = q := by rw [List.getElem?_map, List.getElem?_range hj] at hq; exact Option.some.inj hq
    have hpl := plA_lt ok (p := p) (j := j) fun i hi => hfit i (by omega)
    obtain ⟨⟨pw, sts, pr⟩, hp2⟩ : ∃ x, m.places[plA m p j]? = some x := ⟨_, List.getElem?_eq_getElem hpl⟩
    have hpix : atI (m.places.map plcD) ((plA m p j : Nat) : Int) = some (.tuple [.str pw, cndsD sts, .bool pr]) := atI_n (by rw [List.getElem?_map, hp2]; rfl)
    have hst : stA m p j = sts := by unfold stA; rw [hp2]; rfl
    have lU := lmU_len ok (p := p) (i := j)
    have l1 := lm1_len ok (p := p) (j := j)
    have l2 := lm2_len ok (p := p) (j := j)
    rw [lmI_le (by omega), orI_le (by omega)]
    refine gt_tup (ds := [.int j, .int (plA m p j : Nat)]) rfl ?_
    repeat (first | (with_reducible refine gts_consD ?_) | (with_reducible refine gt_name ?_) | (with_reducible refine gts_nilD ?_))
    repeat walk_at "z4"
    refine ev_bmL (ev_var (a := .o 2) rfl ⟨⟨2, _, rfl, rfl⟩, ?_⟩)
    repeat walk_at "z4"
    refine vm_append (n := 2) rfl (Nat.lt_of_le_of_lt (show _ ≤ 6000000 by rw [List.length_map]; omega) (by rw [sizeLine_eq]; decide)) ?_
  
    refine go_mid (fun s => s = ⟨[some (insP K T.c_Machine (mF m)), some (.o 0), some (.d (ogD g)), some (.d (.list (inN' ((List.range (p.length + 1)).map (plA m p))))), some (.o 1), some (.o 2), some (.d (.int (j : Nat))), some (.d (.int (plA m p j : Nat))), some (.d (.int ((j : Int) + 1))), x9, xa], [.lst (inL p), .lst (inL (orA m p j)), .lst ((lmU m p j ++ (((j : Int), (j : Int) + 1, 0, 1) :: (if prA m p j then [((j : Int) + 1, (j : Int), 0, 1)] else []))).map l4D)]⟩) ?_ ?_
    · refine go_if (et_truth (ev_meth (E := E0) rfl rfl (ev_callV (E := fun _ => E0) ?_)))
      repeat walk_at "z4"
  
      refine ⟨(m, plA m p j), .bool (prA m p j), rfl, rfl, rfl, hpl, fun _ _ h => h, fun _ _ h => h, ?_⟩
      refine ⟨prA m p j, rfl, fun z => ?_, fun z => ?_⟩
      · repeat walk_at "z4"
        refine ev_bmL (ev_var (a := .o 2) rfl ⟨⟨2, _, rfl, rfl⟩, ?_⟩)
        repeat walk_at "z4"
        refine vm_append (n := 2) rfl (Nat.lt_of_le_of_lt (show _ ≤ 6000000 by rw [List.length_append, List.length_map]; simp; omega) (by rw [sizeLine_eq]; decide)) ?_
        repeat walk_at "z4"
  
        show S.mk _ [_, _, C.lst _] = S.mk _ [_, _, C.lst _]
        rw [if_pos z, List.map_append, List.append_assoc]
        rfl
      · refine go_next ?_
        show S.mk _ [_, _, C.lst _] = S.mk _ [_, _, C.lst _]
        rw [if_neg (by rw [z]; decide), List.map_append]
        rfl
    rintro s3 rfl
    refine go_mid (fun s => s = ⟨[some (insP K T.c_Machine (mF m)), some (.o 0), some (.d (ogD g)), some (.d (.list (inN' ((List.range (p.length + 1)).map (plA m p))))), some (.o 1), some (.o 2), some (.d (.int (j : Nat))), some (.d (.int (plA m p j : Nat))), some (.d (.int ((j : Int) + 1))), x9, xa], [.lst (inL p), .lst (inL (orA m p j)), .lst ((lmU m p j ++ lm1 m p j).map l4D)]⟩) ?_ ?_
    · have hbig : ((lmU m p j ++ (((j : Int), (j : Int) + 1, 0, 1) :: (if prA m p j then [((j : Int) + 1, (j : Int), 0, 1)] else []))).map l4D).length + ((rowsL ((j : Int) + 1) (orA m p j) (sts.map gC)).map l4D).length ≤ sizeLine := Nat.le_trans (show _ ≤ 6000000 by
        have h5 : (lmU m p j ++ (((j : Int), (j : Int) + 1, 0, 1) :: (if prA m p j then [((j : Int) + 1, (j : Int), 0, 1)] else [])) ++ rowsL ((j : Int) + 1) (orA m p j) (sts.map gC)).length ≤ 6000000 := by
          rw [← hst]
          have e : lmU m p j ++ (((j : Int), (j : Int) + 1, 0, 1) :: (if prA m p j then [((j : Int) + 1, (j : Int), 0, 1)] else [])) ++ rowsL ((j : Int) + 1) (orA m p j) ((stA m p j).map gC) = lmU m p j ++ lm1 m p j := by unfold lm1; simp
          rw [e, List.length_append]; omega
        rw [List.length_append] at h5
        rw [List.length_map, List.length_map]; exact h5) (by rw [sizeLine_eq]; decide)
      refine go_drop (ev_bmL (ev_var (a := .o 2) rfl ⟨⟨2, _, rfl, rfl⟩, ?_⟩))
      refine ea_cons (ev_callM (E := fun _ => E0) [1] (by decide) ?_)
      repeat walk_at "z4"
      refine ⟨(sts.map gC, (j : Int) + 1, orA m p j), by show [Dw.A.d (.tuple ((sts.map gC).map gcD)), _, _] = _; rw [← cnds_gC]; rfl, ⟨trivial, trivial, List.mem_singleton_self _, trivial⟩, rfl, fun q hq => by rw [List.mem_singleton.mp hq]; exact ⟨_, rfl, (fun z => nomatch z), trivial⟩, ⟨by rw [orA_len]; exact (hst ▸ sts_ok ok), (by rw [List.length_map]; exact hst ▸ stA_len ok)⟩, fun r os' hr _ => ?_, fun _ _ h => h⟩
      obtain ⟨rfl, rfl⟩ := hr
      refine ⟨rfl, ?_⟩
      refine ea_nil ?_
      refine vm_extend (n := 2) rfl rfl hbig ?_
  
      show S.mk _ [_, _, C.lst _] = S.mk _ [_, _, C.lst _]
      rw [show (lmU m p j ++ lm1 m p j).map l4D = (lmU m p j ++ (((j : Int), (j : Int) + 1, 0, 1) :: (if prA m p j then [((j : Int) + 1, (j : Int), 0, 1)] else []))).map l4D ++ (rowsL ((j : Int) + 1) (orA m p j) (sts.map gC)).map l4D by rw [← List.map_append, ← hst]; unfold lm1; simp]
      rfl
    rintro s3 rfl
    repeat walk_at "z4"
  
    refine vc_lenV (ds := inL p) ⟨_, rfl, rfl⟩ ?_
    rw [inL_len]
    repeat walk_at "z4"
  
    refine ⟨fun z => ?_, fun z => ?_⟩
    · have hjl : j < p.length := by have := of_decide_eq_true z; omega
      obtain ⟨k, hk⟩ : ∃ k, p[j]? = some k := ⟨_, List.getElem?_eq_getElem hjl⟩
      obtain ⟨k0, ⟨sr, tg, lb, gd, rs, sd⟩, hm, _⟩ := hfit j hjl
      rw [getD_of hk] at k0 hm
      have hpj : atI (inL p) (j : Int) = some (.int k) := atI_n (by rw [inL, List.getElem?_map, hk]; rfl)
      have hmix : atI (m.moves.map movD) k = some (.tuple [.int sr, .int tg, .str lb, cndsD gd, .tuple (inN' rs), .str sd]) := at_map k0 hm
      have hgd : gdA m p j = gd := by unfold gdA; rw [getD_of hk, hm]; rfl
      have hrs : rsA m p j = rs := by unfold rsA; rw [getD_of hk, hm]; rfl
      have hrlt : ∀ x, x ∈ rs → x < m.clocks.length := (ok.mv _ (List.mem_of_getElem? hm)).rlt
      have e2 : lm2 m p j = rowsL ((j : Int) + 1) (orA m p j) (gd.map gC) := by unfold lm2; rw [if_pos hjl, hgd]
      refine go_mid (fun s => s = ⟨[some (insP K T.c_Machine (mF m)), some (.o 0), some (.d (ogD g)), some (.d (.list (inN' ((List.range (p.length + 1)).map (plA m p))))), some (.o 1), some (.o 2), some (.d (.int (j : Nat))), some (.d (.int (plA m p j : Nat))), some (.d (.int ((j : Int) + 1))), some (.d (cndsD gd)), xa], [.lst (inL p), .lst (inL (orA m p j)), .lst ((lmU m p j ++ lm1 m p j).map l4D)]⟩) ?_ ?_
      · repeat walk_at "z4"
  
        exact rfl
      rintro s3 rfl
      refine go_mid (fun s => s = ⟨[some (insP K T.c_Machine (mF m)), some (.o 0), some (.d (ogD g)), some (.d (.list (inN' ((List.range (p.length + 1)).map (plA m p))))), some (.o 1), some (.o 2), some (.d (.int (j : Nat))), some (.d (.int (plA m p j : Nat))), some (.d (.int ((j : Int) + 1))), some (.d (cndsD gd)), xa], [.lst (inL p), .lst (inL (orA m p j)), .lst ((lmU m p j ++ lm1 m p j ++ lm2 m p j).map l4D)]⟩) ?_ ?_
      · have hbig : ((lmU m p j ++ lm1 m p j).map l4D).length + ((rowsL ((j : Int) + 1) (orA m p j) (gd.map gC)).map l4D).length ≤ sizeLine := Nat.le_trans (show _ ≤ 6000000 by
          rw [← e2, List.length_map, List.length_map, List.length_append]; omega) (by rw [sizeLine_eq]; decide)
        refine go_drop (ev_bmL (ev_var (a := .o 2) rfl ⟨⟨2, _, rfl, rfl⟩, ?_⟩))
        refine ea_cons (ev_callM (E := fun _ => E0) [1] (by decide) ?_)
        repeat walk_at "z4"
        refine ⟨(gd.map gC, (j : Int) + 1, orA m p j), by show [Dw.A.d (.tuple ((gd.map gC).map gcD)), _, _] = _; rw [← cnds_gC]; rfl, ⟨trivial, trivial, List.mem_singleton_self _, trivial⟩, rfl, fun q hq => by rw [List.mem_singleton.mp hq]; exact ⟨_, rfl, (fun z => nomatch z), trivial⟩, ⟨by rw [orA_len]; exact (hgd ▸ gdA_ok ok), (by rw [List.length_map]; exact hgd ▸ gdA_len ok)⟩, fun r os' hr _ => ?_, fun _ _ h => h⟩
        obtain ⟨rfl, rfl⟩ := hr
        refine ⟨rfl, ?_⟩
        refine ea_nil ?_
        refine vm_extend (n := 2) rfl rfl hbig ?_
  
        show S.mk _ [_, _, C.lst _] = S.mk _ [_, _, C.lst _]
        rw [e2, List.map_append (l₂ := rowsL _ _ _)]
        rfl
      rintro s3 rfl
      refine go_for (ei_anyT (ei_tup ?_))
      repeat walk_at "z4"
  
      refine ⟨fun i s => ∃ xa, s = ⟨[some (insP K T.c_Machine (mF m)), some (.o 0), some (.d (ogD g)), some (.d (.list (inN' ((List.range (p.length + 1)).map (plA m p))))), some (.o 1), some (.o 2), some (.d (.int (j : Nat))), some (.d (.int (plA m p j : Nat))), some (.d (.int ((j : Int) + 1))), some (.d (cndsD gd)), xa], [.lst (inL p), .lst (inL (resetL ((j : Int) + 1) (rs.take i) (orA m p j))), .lst ((lmU m p j ++ lm1 m p j ++ lm2 m p j).map l4D)]⟩, ⟨xa, rfl⟩, fun _ _ _ _ => trivial, ?_, ?_⟩
      · rintro i v s4 hx ⟨xa, rfl⟩
        obtain ⟨q, hq, rfl⟩ := inN_get hx
        have hql : q < (resetL ((j : Int) + 1) (rs.take i) (orA m p j)).length := by rw [reset_len, orA_len]; exact hrlt q (List.mem_of_getElem? hq)
        refine gt_name ?_
        repeat walk_at "z4"
  
        refine ⟨1, _, (q : Int), q, .int ((j : Int) + 1), rfl, rfl, rfl, rfl, ?_, ?_⟩
        · rw [inL_len]; exact ixN_n hql
        refine ⟨some (.d (.int (q : Nat))), ?_⟩
        show S.mk _ [_, C.lst (List.set _ _ _), _] = S.mk _ [_, C.lst _, _]
        rw [inL_set, reset_snoc hq]
        rfl
      rintro s4 ⟨xa, rfl⟩
      rw [inN_len, List.take_length]
      dsimp only
      rw [lmI_le (show j + 1 ≤ p.length by omega), orI_le (show j + 1 ≤ p.length by omega), ← hrs]
      exact ⟨_, _, _, _, _, rfl⟩
    · have hjl : j = p.length := by have := of_decide_eq_false z; omega
      have e2 : lm2 m p j = [] := by unfold lm2; rw [if_neg (by omega)]
      have eo : orI m p (j + 1) = orA m p j := by unfold orI; rw [Nat.min_eq_right (by omega), hjl]
      have el : lmI m p g (j + 1) = lmU m p j ++ lm1 m p j ++ endA m p g := by
        unfold lmI
        rw [if_pos (by omega)]
        show lmU m p j ++ lm1 m p j ++ lm2 m p j ++ _ = _
        rw [e2, List.append_nil]
      dsimp only
      rw [eo, el]
      cases g with
      | none =>
        show GO K b _ ⟨[some (insP K T.c_Machine (mF m)), some (.o 0), some (.d .none), some (.d (.list (inN' ((List.range (p.length + 1)).map (plA m p))))), some (.o 1), some (.o 2), some (.d (.int (j : Nat))), some (.d (.int (plA m p j : Nat))), some (.d (.int ((j : Int) + 1))), x9, xa], [.lst (inL p), .lst (inL (orA m p j)), .lst ((lmU m p j ++ lm1 m p j).map l4D)]⟩ _
        repeat walk_at "z4"
  
        refine ⟨some (.d (.int (j : Nat))), some (.d (.int (plA m p j : Nat))), some (.d (.int ((j : Int) + 1))), x9, xa, ?_⟩
        show _ = S.mk _ [_, _, C.lst ((_ ++ []).map l4D)]
        rw [List.append_nil]
        rfl
      | some gg =>
        show GO K b _ ⟨[some (insP K T.c_Machine (mF m)), some (.o 0), some (.d (.tuple [.tuple (inL gg.1), .tuple (gg.2.map gcD)])), some (.d (.list (inN' ((List.range (p.length + 1)).map (plA m p))))), some (.o 1), some (.o 2), some (.d (.int (j : Nat))), some (.d (.int (plA m p j : Nat))), some (.d (.int ((j : Int) + 1))), x9, xa], [.lst (inL p), .lst (inL (orA m p j)), .lst ((lmU m p j ++ lm1 m p j).map l4D)]⟩ _
        have hgg := hgo gg rfl
        have h3g : gg.2.length ≤ 1000 := h3 gg rfl
        have hrl := rows_len (t := (j : Int) + 1) (o := orA m p j) (cs := gg.2)
        refine go_if ?_
        repeat walk_at "z4"
  
        have hbig : ((lmU m p j ++ lm1 m p j).map l4D).length + ((rowsL ((j : Int) + 1) (orA m p j) gg.2).map l4D).length ≤ sizeLine := Nat.le_trans (show _ ≤ 6000000 by
          rw [List.length_map, List.length_map, List.length_append]; omega) (by rw [sizeLine_eq]; decide)
        refine (ev_bmL (ev_var (a := .o 2) rfl ⟨⟨2, _, rfl, rfl⟩, ?_⟩))
        refine ea_cons (ev_callM (E := fun _ => E0) [1] (by decide) ?_)
        repeat walk_at "z4"
        refine ⟨(gg.2, (j : Int) + 1, orA m p j), rfl, ⟨trivial, trivial, List.mem_singleton_self _, trivial⟩, rfl, fun q hq => by rw [List.mem_singleton.mp hq]; exact ⟨_, rfl, (fun z => nomatch z), trivial⟩, ⟨by rw [orA_len]; exact (fun c hc => List.all_eq_true.mp (Bool.and_eq_true_iff.mp hgg).2 c hc), h3g⟩, fun r os' hr _ => ?_, fun _ _ h => h⟩
        obtain ⟨rfl, rfl⟩ := hr
        refine ⟨rfl, ?_⟩
        refine ea_nil ?_
        refine vm_extend (n := 2) rfl rfl hbig ?_
  
        refine ⟨some (.d (.int (j : Nat))), some (.d (.int (plA m p j : Nat))), some (.d (.int ((j : Int) + 1))), x9, xa, ?_⟩
        show _ = S.mk _ [_, _, C.lst ((_ ++ rowsL ((p.length : Int) + 1) (orA m p p.length) gg.2).map l4D)]
        rw [← hjl, List.map_append (l₂ := rowsL _ _ _)]
        rfl
  rintro s2 ⟨x6, x7, x8, x9, xa, rfl⟩
  rw [show (enumD (inN' ((List.range (p.length + 1)).map (plA m p)))).length = p.length + 1 by rw [enumD, List.length_mapIdx, inN_len, List.length_map, List.length_range]]
  have hlast : atI (inN' ((List.range (p.length + 1)).map (plA m p))) (-1) = some (.int (plA m p p.length : Nat)) := at_last'
  have lU := lmU_len ok (p := p) (i := p.length + 1)
  have lI : (lmI m p g (p.length + 1)).length ≤ 6000000 := by
    unfold lmI
    rw [if_pos rfl, List.length_append]
    cases g with
    | none => show _ + 0 ≤ _; omega
    | some gg =>
      have h3g : gg.2.length ≤ 1000 := h3 gg rfl
      have hrl := rows_len (t := (p.length : Int) + 1) (o := orA m p p.length) (cs := gg.2)
      show _ + (rowsL _ _ _).length ≤ _
      omega
  dsimp only
  refine go_mid (fun s => s = ⟨[some (insP K T.c_Machine (mF m)), some (.o 0), some (.d (ogD g)), some (.d (.list (inN' ((List.range (p.length + 1)).map (plA m p))))), some (.o 1), some (.o 2), x6, x7, x8, x9, xa], [.lst (inL p), .lst (inL (orI m p (p.length + 1))), .lst ((lmI m p g (p.length + 1) ++ outA m p g).map l4D)]⟩) ?_ ?_
  · cases g with
    | none =>
      show GO K b _ ⟨[some (insP K T.c_Machine (mF m)), some (.o 0), some (.d .none), some (.d (.list (inN' ((List.range (p.length + 1)).map (plA m p))))), some (.o 1), some (.o 2), x6, x7, x8, x9, xa], [.lst (inL p), .lst (inL (orI m p (p.length + 1))), .lst ((lmI m p none (p.length + 1)).map l4D)]⟩ _
      repeat walk_at "z4"
  
      show _ = S.mk _ [_, _, C.lst ((_ ++ []).map l4D)]
      rw [List.append_nil]
      rfl
    | some gg =>
      show GO K b _ ⟨[some (insP K T.c_Machine (mF m)), some (.o 0), some (.d (.tuple [.tuple (inL gg.1), .tuple (gg.2.map gcD)])), some (.d (.list (inN' ((List.range (p.length + 1)).map (plA m p))))), some (.o 1), some (.o 2), x6, x7, x8, x9, xa], [.lst (inL p), .lst (inL (orI m p (p.length + 1))), .lst ((lmI m p (some gg) (p.length + 1)).map l4D)]⟩ _
      repeat walk_at "z4"
  
      refine v2_inI (ns := gg.1) (.inr rfl) ?_
      repeat walk_at "z4"
  
      have eo : outA m p (some gg) = if (plA m p p.length : Int) ∈ gg.1 then [] else [(0, 0, 0, 0)] := rfl
      by_cases hin : (plA m p p.length : Int) ∈ gg.1
      · rw [decide_eq_true hin]
        refine ⟨fun h => absurd h (by decide), fun _ => ?_⟩
        refine go_next ?_
        show _ = S.mk _ [_, _, C.lst _]
        rw [eo, if_pos hin, List.append_nil]
        rfl
      · rw [decide_eq_false hin]
        refine ⟨fun _ => ?_, fun h => absurd h (by decide)⟩
        repeat walk_at "z4"
        refine ev_bmL (ev_var (a := .o 2) rfl ⟨⟨2, _, rfl, rfl⟩, ?_⟩)
        repeat walk_at "z4"
        refine vm_append (n := 2) rfl (Nat.lt_of_le_of_lt (show _ ≤ 6000000 by rw [List.length_map]; exact lI) (by rw [sizeLine_eq]; decide)) ?_
  
        show S.mk _ [_, _, C.lst _] = S.mk _ [_, _, C.lst _]
        rw [eo, if_neg hin, List.map_append]
        rfl
  rintro s3 rfl
  refine go_ret (ev_tupA ?_)
  repeat walk_at "z4"
  
  refine vc_lenV (ds := inL p) ⟨_, rfl, rfl⟩ ?_
  rw [inL_len]
  repeat walk_at "z4"
  
  refine ⟨rfl, ?_⟩
  refine ⟨[2], ⟨by decide, fun j hj => by rw [List.mem_singleton.mp hj]; exact (show 1 ≤ 2 by decide), ⟨trivial, List.mem_singleton_self _, trivial⟩, fun j hj => by rw [List.mem_singleton.mp hj]; exact ⟨_, rfl, (fun z => nomatch z), trivial⟩⟩, ?_⟩
  refine ⟨hgo, hfit, ?_, rfl⟩
  show Rv.nw _ [C.lst _] = Rv.nw _ [C.lst _]
  unfold limA lmI
  rw [if_pos rfl]
  rfl
end
def sp__law_is_integer : Spc where
  I := Int
  args := fun n => [.d (.int n)]
  cells := fun _ => []
  pre := fun _ => True
  post := fun _ r _ => r = .val (.bool true)
section
variable {P : Program} {w : World} {K : PySem.W.Frag} {mg : Str → Option Value} {base : Heap}
theorem ok__law_is_integer (T : Tx P K mg) : FnOk P w K mg base CX0 1 T.a__law_is_integer T.d__law_is_integer ["actual"] (SpB K sp__law_is_integer) := by
  refine T.F__law_is_integer.ok sc__law_is_integer (fun vs H Q E h => spB_len h (fun _ => rfl)) (fun cdv A outer s H vs Q E hr h => ⟨_, PSs.nox ((pss_one (ps_ret (pe_and (pe_callB call_isi (by rfl) T.z_isinstance (by decide +kernel) (pa_cons (pv 0) (pa_cons (pe_bltn (v := .ty "int") (by rfl) T.z_int (by decide +kernel) rfl) pa_nil))) (pe_one (pe_notT (pe_callB call_isi (by rfl) T.z_isinstance (by decide +kernel) (pa_cons (pv 0) (pa_cons (pe_bltn (v := .ty "bool") (by rfl) T.z_bool (by decide +kernel) rfl) pa_nil))))))))), ?_⟩)
  refine go_fn (L := ["actual"]) h (fun b i hp hX => ?_)
  try dsimp only [cxOf, L2H.cxH, L2.Cx.nox, L2.Cx.wish]
  have kLET := cLET T
  have kNMC := cNMC T
  have kLON := cLON T
  have kSIG := T.w_SIGNS
  have kSTA := T.w_STAY_SIGNS
  have kSID := T.w_SIDES
  
  repeat walk_at "z4"
  
  rfl
end
def sp__law_box (K : PySem.W.Frag) : Spc where
  I := List Int
  args := fun ns => [scrP K ns]
  cells := fun _ => []
  pre := fun _ => True
  post := fun _ r _ => ∃ x : Bx, r = .nw (.o 0) [bxA x, bxB x]
section
variable {P : Program} {w : World} {K : PySem.W.Frag} {mg : Str → Option Value} {base : Heap}
theorem ok__law_box (T : Tx P K mg) : FnOk P w K mg base CX0 1 T.a__law_box T.d__law_box ["script"] (SpB K (sp__law_box K)) := by
  refine T.F__law_box.ok sc__law_box (fun vs H Q E h => spB_len h (fun _ => rfl)) (fun cdv A outer s H vs Q E hr h => ⟨_, PSs.nox ((pss_cons (ps_setLc (i := 2) (own := [("cell", 1)]) rfl sc__law_box.nd rfl rfl (sw_true rfl rfl rfl (by decide +kernel)) (pi_any (pe_slice sl_any (pv 0) po_none (po_some pe_int))) (blkOk_by (own := [("cell", 1)]) (N := ["script", "cell", "cells", "seed"]) (sc := defScope s__law_box) (by decide +kernel)) (fun _ _ _ _ _ => (pg_name (i := 1) sc__law_box.nd rfl (.inl rfl) (.inr rfl))) (fun _ _ _ _ _ => pts_nil) (fun _ _ _ _ _ => (pe_callTy call_int1 (by rfl) T.z_int (by decide +kernel) (pa_cons (pv 1) pa_nil))))
      (pss_cons (ps_set (i := 3) sc__law_box.nd rfl (.inl rfl) pe_int)
      (pss_cons (ps_for PassesOwn.never rfl (pi_any (pv 2)) (pg_name (i := 1) sc__law_box.nd rfl (.inl rfl) (.inr rfl))
      (pss_one (ps_set (i := 3) sc__law_box.nd rfl (.inl rfl) (pe_op op_mod (pe_callTy call_int1 (by rfl) T.z_int (by decide +kernel) (pa_cons (pe_op op_addA (pe_op op_addA (pe_op op_mulA (pv 3) pe_int) (pe_op op_mod (pe_callTy call_int1 (by rfl) T.z_int (by decide +kernel) (pa_cons (pv 1) pa_nil)) pe_int)) pe_int) pa_nil)) pe_int))))
      (pss_one (ps_ret (pe_lst (pa_cons (pe_lc (own := [("cell", 1)]) rfl sc__law_box.nd (pi_any (pv 2)) (blkOk_by (own := [("cell", 1)]) (N := ["script", "cell", "cells", "seed"]) (sc := defScope s__law_box) (by decide +kernel)) (fun _ _ _ _ _ => (pg_name (i := 1) sc__law_box.nd rfl (.inl rfl) (.inr rfl))) (fun _ _ _ _ _ => (pts_one (pt_cmpR op_geA (pv 1) (pe_op op_pow pe_int pe_int) (nomark _)))) (fun _ _ _ _ _ => (pv 1))) (pa_cons pe_int (pa_cons (pv 3) (pa_cons pe_int pa_nil))))))))))), ?_⟩)
  refine go_fn (L := ["script", "cell", "cells", "seed"]) h (fun b i hp hX => ?_)
  try dsimp only [cxOf, L2H.cxH, L2.Cx.nox, L2.Cx.wish]
  have kLET := cLET T
  have kNMC := cNMC T
  have kLON := cLON T
  have kSIG := T.w_SIGNS
  have kSTA := T.w_STAY_SIGNS
  have kSID := T.w_SIDES
  
  obtain ⟨ms, hms, hlen⟩ := cut63 i
  show GO K b _ ⟨[some (scrP K i), none, none, none], []⟩ _
  refine go_seq (go_asg (ev_lc (tg_name (.head _)) mg_name (ei_anyL (ei_list ?_))))
  repeat walk_at "z1"
  
  refine vs_scr ?_
  rw [hms]
  refine ⟨inL ms, fun _ => True, .inl rfl, trivial, ?_⟩
  refine ⟨fun k js s => js = inL (ms.take k) ∧ s = ⟨[some (scrP K i), none, none, none], [.lst js]⟩, ⟨rfl, rfl⟩, ?_, ?_, ?_⟩
  · rintro k js s3 _ ⟨_, rfl⟩
    exact ⟨trivial, rfl⟩
  · rintro k v js s3 hx ⟨rfl, rfl⟩
    obtain ⟨m, hm, rfl⟩ := inL_get hx
    refine gt_name ?_
    refine fun σ H tv tl Hd ps R Q kk => kk true H _ Hd ps ⟨fun _ => ?_, fun h => (nomatch h)⟩ R
    repeat walk_at "z1"
  
    refine ⟨rfl, Nat.lt_of_le_of_lt (show _ ≤ 1000 by rw [inL_len, List.length_take]; omega) (by decide), take_snoc hm, rfl⟩
  rintro js s3 ⟨rfl, rfl⟩
  rw [inL_len, List.take_length]
  refine gt_name ?_
  dsimp only
  repeat walk_at "z4"
  
  refine go_for (ei_anyL (ei_list (ev_var rfl ⟨inL ms, fun os => os[0]? = some (.lst (inL ms)), .inr ⟨0, rfl, fun _ h => h⟩, rfl, ?_⟩)))
  refine ⟨fun k s => ∃ x1 n, s = ⟨[some (scrP K i), x1, some (.o 0), some (.d (.int n))], [.lst (inL ms)]⟩, ⟨none, 20273, rfl⟩, (fun j s hj ⟨_, _, e⟩ => by rw [e]; rfl), ?_, ?_⟩
  · rintro k v s2 hx ⟨x1, n, rfl⟩
    obtain ⟨m, hm, rfl⟩ := inL_get hx
    refine gt_name ?_
    repeat walk_at "z4"
  
    exact ⟨_, _, rfl⟩
  rintro s2 ⟨x1, n, rfl⟩
  dsimp only
  refine go_ret (ev_lstA (ea_cons (ev_lc (tg_name (.head _)) mg_name (ei_anyL (ei_list (ev_var rfl ⟨inL ms, fun os => os[0]? = some (.lst (inL ms)), .inr ⟨0, rfl, fun _ h => h⟩, rfl, ?_⟩))))))
  refine ⟨fun k js s => ∃ gs, gs.length ≤ k ∧ js = inL gs ∧ s = ⟨[some (scrP K i), none, some (.o 0), some (.d (.int n))], [.lst (inL ms), .lst (inL gs)]⟩, ⟨[], Nat.le_refl _, rfl, rfl⟩, ?_, ?_, ?_⟩
  · rintro k js s3 _ ⟨gs, _, rfl, rfl⟩
    exact ⟨rfl, rfl⟩
  · rintro k v js s3 hx ⟨gs, hg, rfl, rfl⟩
    obtain ⟨m, hm, rfl⟩ := inL_get hx
    have hk := (List.getElem?_eq_some_iff.mp hm).1
    refine gt_name ?_
    repeat walk_at "z4"
  
    refine ⟨fun z => ?_, fun z => ?_⟩
    · repeat walk_at "z4"
  
      refine ⟨rfl, Nat.lt_of_le_of_lt (show _ ≤ 1000 by rw [inL_len]; omega) (by decide), gs ++ [m], by rw [List.length_append, List.length_singleton]; omega, by rw [inL_app]; rfl, ?_⟩
      rw [inL_app]
      rfl
    · exact ⟨gs, by omega, rfl, rfl⟩
  rintro js s3 ⟨gs, _, rfl, rfl⟩
  repeat walk_at "z4"
  
  refine ⟨rfl, ?_⟩
  refine .inr ⟨[2, 1], ⟨by decide, fun j hj => Nat.zero_le _, List.mem_cons_self, fun j hj => ?_⟩, ⟨⟨gs, 1, n, 0⟩, rfl⟩⟩
  rcases List.mem_cons.mp hj with rfl | hj
  · exact ⟨_, rfl, (fun z => nomatch z), ⟨show 1 ∈ [2, 1] by decide, trivial, trivial, trivial, trivial⟩⟩
  · rw [List.mem_singleton.mp hj]
    exact ⟨_, rfl, (fun z => nomatch z), trivial⟩
end
def sp__law_take : Spc where
  I := Bx × Int
  args := fun (x, n) => [.o 0, .d (.int n)]
  cells := fun (x, _) => [bxA x, bxB x]
  pre := fun (_, n) => n < 2 ^ 60
  post := fun (_, n) r os => ∃ (m : Int) (y : Bx), r = .val (.int m) ∧ os = [bxA y, bxB y] ∧ 0 ≤ m ∧ (1 ≤ n → m < n)
section
variable {P : Program} {w : World} {K : PySem.W.Frag} {mg : Str → Option Value} {base : Heap}
theorem ok__law_take (T : Tx P K mg) : FnOk P w K mg base CX0 1 T.a__law_take T.d__law_take ["box", "size"] (SpB K sp__law_take) := by
  refine T.F__law_take.ok sc__law_take (fun vs H Q E h => spB_len h (fun _ => rfl)) (fun cdv A outer s H vs Q E hr h => ⟨_, PSs.nox ((pss_cons (ps_if (pt_cmpR op_ltA (pv 1) pe_int (nomark _))
      (pss_one (ps_ret pe_int))
      pss_nil)
      (pss_cons (ps_if (PW.pt (pw_and (pt_cmpR op_ltA (pe_ix ix_seq (pv 0) pe_int (fun _ _ => rfl)) pe_int (nomark _)) (pw_and1 (pt_cmpR (op_neD hr.units) (pe_ix ix_seq (pv 0) pe_int (fun _ _ => rfl)) (pe_lst pa_nil) (nomark _)))))
      (pss_cons (ps_set (i := 2) sc__law_take.nd rfl (.inl rfl) (pe_ix ix_seq (pv 0) pe_int (fun _ _ => rfl)))
      (pss_one (ps_asg (pe_bm PySem.F.plainAttrs_list PySem.F.slot_list_pop PySem.F.type_list_pop mt_popAt (pv 2) (pa_cons pe_int pa_nil)) (pg_sub (pv 0) pe_int set_list))))
      pss_nil)
      (pss_cons (ps_if (pt_cmpR op_gtA (pe_ix ix_seq (pv 0) pe_int (fun _ _ => rfl)) pe_int (nomark _))
      (pss_cons (ps_set (i := 3) sc__law_take.nd rfl (.inl rfl) (pe_ix ix_seq (pv 0) pe_int (fun _ _ => rfl)))
      (pss_cons (ps_asg (pe_op op_fdivW (pv 3) (pv 1)) (pg_sub (pv 0) pe_int set_list))
      (pss_one (ps_ret (pe_op op_mod (pe_callTy call_int1 (by rfl) T.z_int (by decide +kernel) (pa_cons (pv 3) pa_nil)) (pv 1))))))
      pss_nil)
      (pss_cons (ps_asg (pe_op op_addA (pe_ix ix_seq (pv 0) pe_int (fun _ _ => rfl)) pe_int) (pg_sub (pv 0) pe_int set_list))
      (pss_cons (ps_asg (pe_op op_mod (pe_callTy call_int1 (by rfl) T.z_int (by decide +kernel) (pa_cons (pe_op op_addA (pe_op op_addA (pe_op op_mulA (pe_ix ix_seq (pv 0) pe_int (fun _ _ => rfl)) pe_int) (pe_op op_mulA (pe_ix ix_seq (pv 0) pe_int (fun _ _ => rfl)) pe_int)) pe_int) pa_nil)) pe_int) (pg_sub (pv 0) pe_int set_list))
      (pss_one (ps_ret (pe_op op_mod (pe_callTy call_int1 (by rfl) T.z_int (by decide +kernel) (pa_cons (pe_op op_mod (pe_callTy call_int1 (by rfl) T.z_int (by decide +kernel) (pa_cons (pe_op op_addA (pe_op op_mulA (pe_op op_fdivW (pe_ix ix_seq (pv 0) pe_int (fun _ _ => rfl)) pe_int) pe_int) (pe_op op_mulA (pe_op op_mod (pe_callTy call_int1 (by rfl) T.z_int (by decide +kernel) (pa_cons (pe_ix ix_seq (pv 0) pe_int (fun _ _ => rfl)) pa_nil)) pe_int) pe_int)) pa_nil)) pe_int) pa_nil)) (pv 1)))))))))), ?_⟩)
  refine go_fn (L := ["box", "size", "great", "rest"]) h (fun b i hp hX => ?_)
  try dsimp only [cxOf, L2H.cxH, L2.Cx.nox, L2.Cx.wish]
  have kLET := cLET T
  have kNMC := cNMC T
  have kLON := cLON T
  have kSIG := T.w_SIGNS
  have kSTA := T.w_STAY_SIGNS
  have kSID := T.w_SIDES
  
  obtain ⟨x, n⟩ := i
  have hn : n < 2 ^ 60 := hp
  show GO K b _ ⟨[some (.o 0), some (.d (.int n)), none, none], [bxA x, bxB x]⟩ _
  repeat walk_at "z4"
  
  refine ⟨fun z => ?_, fun z => ?_⟩
  · repeat walk_at "z4"
  
    exact ⟨0, x, rfl, rfl, Int.le_refl 0, fun h => by omega⟩
  have n2 : 2 ≤ n := by have := of_decide_eq_false z; omega
  refine go_next ?_
  refine go_mid (fun s => ∃ (y : Bx) (x2 : Option Dw.A), s = ⟨[some (.o 0), some (.d (.int n)), x2, none], [bxA y, bxB y]⟩) ?_ ?_
  · repeat walk_at "z4"
  
    refine ⟨fun z => ?_, fun z => ?_⟩
    · repeat walk_at "z4"
  
      refine ev_lst ?_
      repeat walk_at "z4"
  
      refine v2_neLn ⟨_, rfl, rfl⟩ rfl ?_
      repeat walk_at "z4"
  
      obtain ⟨g, xa, xb, xc⟩ := x
      cases g with
      | nil =>
        refine ⟨fun z => absurd z (by simp), fun _ => ?_⟩
        refine go_next ?_
        exact ⟨⟨[], xa, xb, xc⟩, _, rfl⟩
      | cons d gs =>
        refine ⟨fun _ => ?_, fun z => absurd z (by simp)⟩
        repeat walk_at "z4"
  
        refine ev_bmL (ev_var (a := .o 1) rfl ⟨⟨1, .int d :: inL gs, rfl, rfl⟩, ?_⟩)
        repeat walk_at "z4"
  
        refine vm_popAt (n := 1) (ds := .int d :: inL gs) (m := 0) (z := .int d) rfl (by decide) (by decide) (seq_ix (Int.le_refl 0) (by rw [List.length_cons]; omega)) rfl ?_
        repeat walk_at "z4"
  
        exact ⟨⟨gs, d, xb, xc⟩, some (.o 1), rfl⟩
    · repeat walk_at "z4"
  
      exact ⟨x, _, rfl⟩
  rintro s2 ⟨y, x2, rfl⟩
  repeat walk_at "z4"
  
  refine ⟨fun z => ?_, fun z => ?_⟩
  · repeat walk_at "z4"
  
    exact ⟨_, ⟨y.g, _, y.b, y.c⟩, rfl, rfl, Int.emod_nonneg _ (by omega), fun _ => Int.emod_lt_of_pos _ (by omega)⟩
  · repeat walk_at "z4"
  
    exact ⟨_, ⟨y.g, y.a, (y.b * 16807 + (y.c + 1) * 69621 + 12289) % 2147483647, y.c + 1⟩, rfl, rfl, Int.emod_nonneg _ (by omega), fun _ => Int.emod_lt_of_pos _ (by omega)⟩
end
section
variable {K : PySem.W.Frag} {b : B} {s : S} {t : TA} {Φ : Dw.A → S → Prop}
theorem ev_tk {E : L2.St → XK} (h : EA K b t s fun as s1 => ∃ (x : Bx) (n : Int) (ss : List (Option Dw.A)) (cs : List C), as = [.o 0, .d (.int n)] ∧ s1 = ⟨ss, bxA x :: bxB x :: cs⟩ ∧ n < 2 ^ 60 ∧ ∀ (m : Int) (y : Bx), 0 ≤ m → (1 ≤ n → m < n) → Φ (.d (.int m)) ⟨ss, bxA y :: bxB y :: cs⟩) : EV K b (tCallG (SpB K sp__law_take) E t) s Φ := by
  refine ev_box fun σ H tv tl Hd ps R Q k => h σ H tv tl Hd ps R Q fun vs H1 as s1 Hd1 ps1 h1 R1 a1 => k vs H1 as s1 Hd1 ps1 ?_ R1 a1
  obtain ⟨x, n, ss, cs, rfl, rfl, hn, q⟩ := h1
  refine ⟨(x, n), x, ss, cs, [.d (.int n)], rfl, rfl, rfl, rfl, rfl, hn, fun r os' hr => ?_, fun _ _ h => h⟩
  obtain ⟨m, y, rfl, rfl, m0, m1⟩ := hr
  exact ⟨y, rfl, q m y m0 m1⟩
end
def sp__law_names : Spc where
  I := Bx × Nat
  args := fun (x, n) => [.o 0, .d (.int n)]
  cells := fun (x, _) => [bxA x, bxB x]
  pre := fun (_, n) => n ≤ 8
  post := fun (_, n) r os => ∃ (ns : List Str) (y : Bx), r = .val (.list (ns.map .str)) ∧ os = [bxA y, bxB y] ∧ ns.length = n ∧ ns.Nodup ∧ ∀ w, w ∈ ns → Nw 198 w
section
variable {P : Program} {w : World} {K : PySem.W.Frag} {mg : Str → Option Value} {base : Heap}
theorem ok__law_names (T : Tx P K mg) : FnOk P w K mg base CX0 2 T.a__law_names T.d__law_names ["box", "count"] (SpB K sp__law_names) := by
  refine T.F__law_names.ok sc__law_names (fun vs H Q E h => spB_len h (fun _ => rfl)) (fun cdv A outer s H vs Q E hr h => ⟨_, PSs.nox ((pss_cons (ps_set (i := 2) sc__law_names.nd rfl (.inl rfl) pe_str)
      (pss_cons (ps_set (i := 3) sc__law_names.nd rfl (.inl rfl) (pe_lst pa_nil))
      (pss_cons (ps_for PassesOwn.never rfl (pi_range1 (by rfl) T.z_range (pa_cons (pv 1) pa_nil)) (pg_name (i := 4) sc__law_names.nd rfl (.inl rfl) (.inr rfl))
      (pss_cons (ps_set (i := 5) sc__law_names.nd rfl (.inl rfl) (pe_ix ix_seq (pv 2) (pe_call (ok__law_take T) (hr.mono (by decide)) (by rfl) T.g__law_take T.F__law_take.kp (b__law_take T.F__law_take) .nil pass0 (pa_cons (pv 0) (pa_cons pe_int pa_nil))) (fun _ _ => rfl)))
      (pss_cons (ps_for PassesOwn.never rfl (pi_range1 (by rfl) T.z_range (pa_cons (pe_call (ok__law_take T) (hr.mono (by decide)) (by rfl) T.g__law_take T.F__law_take.kp (b__law_take T.F__law_take) .nil pass0 (pa_cons (pv 0) (pa_cons pe_int pa_nil))) pa_nil)) (pg_name (i := 6) sc__law_names.nd rfl (.inl rfl) (.inr rfl))
      (pss_one (ps_set (i := 5) sc__law_names.nd rfl (.inl rfl) (pe_op op_addA (pv 5) (pe_ix ix_seq (pv 2) (pe_call (ok__law_take T) (hr.mono (by decide)) (by rfl) T.g__law_take T.F__law_take.kp (b__law_take T.F__law_take) .nil pass0 (pa_cons (pv 0) (pa_cons pe_int pa_nil))) (fun _ _ => rfl))))))
      (pss_cons (ps_if (pt_cmpR (op_eqD hr.units) (pe_call (ok__law_take T) (hr.mono (by decide)) (by rfl) T.g__law_take T.F__law_take.kp (b__law_take T.F__law_take) .nil pass0 (pa_cons (pv 0) (pa_cons pe_int pa_nil))) pe_int (nomark _))
      (pss_one (ps_set (i := 5) sc__law_names.nd rfl (.inl rfl) (pe_slice sl_any (pe_op op_addA (pv 5) (pe_op op_mulSt pe_str pe_int)) po_none (po_some pe_int))))
      pss_nil)
      (pss_cons (ps_for PassesOwn.never rfl (pi_range1 (by rfl) T.z_range (pa_cons (pv 1) pa_nil)) (pg_name (i := 6) sc__law_names.nd rfl (.inl rfl) (.inr rfl))
      (pss_cons (ps_if (pt_cmpR op_niA (pv 5) (pv 3) (by rfl))
      (pss_one ps_break)
      pss_nil)
      (pss_one (ps_set (i := 5) sc__law_names.nd rfl (.inl rfl) (pe_op op_addA (pv 5) pe_str)))))
      (pss_one (ps_expr (pe_bm PySem.F.plainAttrs_list PySem.F.slot_list_append PySem.F.type_list_append mt_append (pv 3) (pa_cons (pv 5) pa_nil)))))))))
      (pss_one (ps_ret (pv 3))))))), ?_⟩)
  refine go_fn (L := ["box", "count", "letters", "names", "k", "name", "turn"]) h (fun b i hp hX => ?_)
  try dsimp only [cxOf, L2H.cxH, L2.Cx.nox, L2.Cx.wish]
  have kLET := cLET T
  have kNMC := cNMC T
  have kLON := cLON T
  have kSIG := T.w_SIGNS
  have kSTA := T.w_STAY_SIGNS
  have kSID := T.w_SIDES
  
  obtain ⟨x, n⟩ := i
  have hn : n ≤ 8 := hp
  show GO K b _ ⟨[some (.o 0), some (.d (.int n)), none, none, none, none, none], [bxA x, bxB x]⟩ _
  refine go_sAsg (ev_str (gt_name ?_))
  refine go_sAsg (ev_lstO (ea_nil ⟨[], rfl, rfl, gt_name ?_⟩))
  refine go_seq (go_for (ei_r1 (ea_cons (ev_var rfl (ea_nil ⟨_, rfl, by omega, by omega, ?_⟩)))))
  rw [Int.toNat_natCast]
  refine ⟨fun k s => ∃ (y : Bx) (ns : List Str) (x4 x5 x6 : Option Dw.A), ns.length = k ∧ ns.Nodup ∧ (∀ w, w ∈ ns → Nw 198 w) ∧ s = ⟨[some (.o 0), some (.d (.int n)), some (.d (.str l40)), some (.o 2), x4, x5, x6], [bxA y, bxB y, .lst (ns.map .str)]⟩, ⟨x, [], none, none, none, rfl, List.nodup_nil, (fun w h => nomatch h), rfl⟩, fun _ _ _ _ => trivial, ?_, ?_⟩
  · rintro k v s2 hx ⟨y, ns, x4, x5, x6, hk, hnd, hnm, rfl⟩
    obtain ⟨hkn, rfl⟩ := rngD_get hx
    refine gt_name ?_
    repeat walk_at "z4"
    refine ev_tk (E := fun _ => E0) ?_
    repeat walk_at "z4"
    refine ⟨y, 27, _, _, rfl, rfl, by decide, fun m y1 m0 m1 => ?_⟩
    have m1 := m1 (by decide)
  
    obtain ⟨c, hc, hcn, hcf⟩ := l40_at m0 (by omega)
    refine v2_ixS (Nat.le_trans (show _ ≤ 1000 by decide +kernel) (by decide)) hc ?_
    have w1 : Nw 1 ⟨#[c]⟩ := nw_one (hcf m1) hcn
    refine gt_name ?_
    refine go_mid (fun s => ∃ (y : Bx) (w : Str) (x6 : Option Dw.A), Nw 4 w ∧ s = ⟨[some (.o 0), some (.d (.int n)), some (.d (.str l40)), some (.o 2), some (.d (.int (0 + (k : Int)))), some (.d (.str w)), x6], [bxA y, bxB y, .lst (ns.map .str)]⟩) ?_ ?_
    · refine go_for (ei_r1 ?_)
      repeat walk_at "z4"
      refine ev_tk (E := fun _ => E0) ?_
      repeat walk_at "z4"
      refine ⟨y1, 4, _, _, rfl, rfl, by decide, fun p y2 p0 p1 => ?_⟩
      have p1 := p1 (by decide)
  
      refine ea_nil ⟨p, rfl, by omega, by omega, ?_⟩
      refine ⟨fun j s => ∃ (y : Bx) (w : Str) (x6 : Option Dw.A), Nw (1 + j) w ∧ s = ⟨[some (.o 0), some (.d (.int n)), some (.d (.str l40)), some (.o 2), some (.d (.int (0 + (k : Int)))), some (.d (.str w)), x6], [bxA y, bxB y, .lst (ns.map .str)]⟩, ⟨y2, _, x6, w1, rfl⟩, fun _ _ _ _ => trivial, ?_, ?_⟩
      · rintro j v s2 hx ⟨y3, w, x6, hw, rfl⟩
        obtain ⟨hj, rfl⟩ := rngD_get hx
        have wl := hw.len
        refine gt_name ?_
        repeat walk_at "z4"
        refine ev_tk (E := fun _ => E0) ?_
        repeat walk_at "z4"
        refine ⟨y3, 40, _, _, rfl, rfl, by decide, fun q y4 q0 q1 => ?_⟩
        have q1 := q1 (by decide)
  
        obtain ⟨d, hd, hdn, _⟩ := l40_at q0 q1
        refine v2_ixS (Nat.le_trans (show _ ≤ 1000 by decide +kernel) (by decide)) hd ?_
        refine v2_addT (Nat.le_trans (show _ + 1 ≤ 1000 by omega) (by decide)) ?_
        refine gt_name ?_
        exact ⟨_, _, _, (show Nw (1 + j + 1) _ from nw_app hw (fun d => nw_ch hdn) (Nat.le_refl 1)), rfl⟩
      rintro s2 ⟨y3, w, x6, hw, rfl⟩
      rw [rngD_len] at hw
      exact ⟨_, _, _, nw_up hw (by omega), rfl⟩
    rintro s2 ⟨y3, w, x6, hw, rfl⟩
    refine go_mid (fun s => ∃ (y : Bx) (w : Str) (x6 : Option Dw.A), Nw 190 w ∧ s = ⟨[some (.o 0), some (.d (.int n)), some (.d (.str l40)), some (.o 2), some (.d (.int (0 + (k : Int)))), some (.d (.str w)), x6], [bxA y, bxB y, .lst (ns.map .str)]⟩) ?_ ?_
    · repeat walk_at "z4"
      refine ev_tk (E := fun _ => E0) ?_
      repeat walk_at "z4"
      refine ⟨y3, 40, _, _, rfl, rfl, by decide, fun p y4 p0 p1 => ?_⟩
      have p1 := p1 (by decide)
  
      repeat walk_at "z4"
  
      refine ⟨fun z => ?_, fun z => ?_⟩
      · repeat walk_at "z4"
  
        refine v2_mulSt (n := 48) (by decide) (by decide) (Nat.le_trans (show _ ≤ 1000 by decide) (by decide)) ?_
        repeat walk_at "z4"
  
        have wl := hw.len
        have rl : (repSt "x.9_" 48).length = 192 := by rw [repS_len]; rfl
        refine v2_addT (Nat.le_trans (show _ ≤ 1000 by omega) (by decide)) ?_
        repeat walk_at "z4"
  
        refine vs_str (Nat.le_trans (show _ ≤ 1000 by rw [app_len]; omega) (by decide)) ?_
        refine gt_name ?_
        exact ⟨_, _, _, nw_cut (nw_app (j := 192) hw (fun c => nw_rep) (by rw [rl]; decide)), rfl⟩
      · refine go_next ?_
        exact ⟨_, _, _, nw_up hw (by decide), rfl⟩
    rintro s2 ⟨y4, w, x6, hw, rfl⟩
    refine go_mid (fun s => ∃ (w : Str) (x6 : Option Dw.A), Nw 198 w ∧ w ∉ ns ∧ s = ⟨[some (.o 0), some (.d (.int n)), some (.d (.str l40)), some (.o 2), some (.d (.int (0 + (k : Int)))), some (.d (.str w)), x6], [bxA y4, bxB y4, .lst (ns.map .str)]⟩) ?_ ?_
    · refine go_for (ei_r1 (ea_cons (ev_var rfl (ea_nil ⟨_, rfl, by omega, by omega, ?_⟩))))
      rw [Int.toNat_natCast]
      refine ⟨fun j s => ∃ (x6 : Option Dw.A), (∀ i, i < j → qs w i ∈ ns) ∧ s = ⟨[some (.o 0), some (.d (.int n)), some (.d (.str l40)), some (.o 2), some (.d (.int (0 + (k : Int)))), some (.d (.str (qs w j))), x6], [bxA y4, bxB y4, .lst (ns.map .str)]⟩, ⟨x6, (fun i h => absurd h (Nat.not_lt_zero i)), rfl⟩, fun _ _ _ _ => trivial, ?_, ?_⟩
      · rintro j v s2 hx ⟨x6, hall, rfl⟩
        obtain ⟨hj, rfl⟩ := rngD_get hx
        have wl := hw.len
        refine gt_name ?_
        repeat walk_at "z4"
  
        refine v2_inS (ns := ns) (.inl ⟨_, rfl, rfl⟩) ?_
        repeat walk_at "z4"
  
        by_cases hin : qs w j ∈ ns
        · rw [decide_eq_true hin]
          refine ⟨fun h => absurd h (by decide), fun _ => ?_⟩
          repeat walk_at "z4"
  
          refine v2_addT (Nat.le_trans (show (qs w j).length + 1 ≤ 1000 by rw [qs_len]; omega) (by decide)) ?_
          refine gt_name ?_
          refine ⟨_, fun i hi => ?_, rfl⟩
          by_cases e : i = j
          · rw [e]; exact hin
          · exact hall i (by omega)
        · rw [decide_eq_false hin]
          refine ⟨fun _ => ?_, fun h => absurd h (by decide)⟩
          repeat walk_at "z4"
  
          exact ⟨qs w j, _, nw_up (nw_qs hw (j := j)) (by omega), hin, rfl⟩
      rintro s2 ⟨x6, hall, rfl⟩
      rw [rngD_len] at hall
      exact absurd hall (qs_out (by omega))
    rintro s2 ⟨w, x6, hw, hout, rfl⟩
    repeat walk_at "z4"
    refine ev_bmL (ev_var (a := .o 2) rfl ⟨⟨2, ns.map .str, rfl, rfl⟩, ?_⟩)
    repeat walk_at "z4"
    refine vm_append (n := 2) rfl (Nat.lt_of_le_of_lt (show _ ≤ 1000 by rw [List.length_map]; omega) (by decide)) ?_
  
    refine ⟨y4, ns ++ [w], _, _, _, by rw [List.length_append, hk]; rfl, ?_, fun u hu => ?_, by rw [List.map_append]; rfl⟩
    · rw [List.nodup_append]
      exact ⟨hnd, by simp, fun a ha c hc => by rw [List.mem_singleton.mp hc]; exact fun e => hout (e ▸ ha)⟩
    · rcases List.mem_append.mp hu with h | h
      · exact hnm u h
      · rw [List.mem_singleton.mp h]; exact hw
  rintro s2 ⟨y, ns, x4, x5, x6, hk, hnd, hnm, rfl⟩
  rw [rngD_len] at hk
  dsimp only
  refine go_ret (ev_dat (ev_var rfl ⟨2, _, rfl, rfl, ?_⟩))
  exact ⟨ns, y, rfl, rfl, hk, hnd, hnm⟩
end
def sp__law_condition : Spc where
  I := Bx × Nat × Int × Str
  args := fun (x, n, sc, sg) => [.o 0, .d (.int n), .d (.int sc), .d (.str sg)]
  cells := fun (x, _) => [bxA x, bxB x]
  pre := fun (_, n, sc, _) => 1 ≤ n ∧ n ≤ 100 ∧ 0 ≤ sc
  post := fun (_, n, _, sg) r os => ∃ (c : Cnd) (y : Bx), r = .val (cndD c) ∧ os = [bxA y, bxB y] ∧ c.1 < n ∧ c.2.1 = sg ∧ 0 ≤ c.2.2
section
variable {P : Program} {w : World} {K : PySem.W.Frag} {mg : Str → Option Value} {base : Heap}
theorem ok__law_condition (T : Tx P K mg) : FnOk P w K mg base CX0 2 T.a__law_condition T.d__law_condition ["box", "clocks", "scale", "sign"] (SpB K sp__law_condition) := by
  refine T.F__law_condition.ok sc__law_condition (fun vs H Q E h => spB_len h (fun _ => rfl)) (fun cdv A outer s H vs Q E hr h => ⟨_, PSs.nox ((pss_cons (ps_set (i := 4) sc__law_condition.nd rfl (.inl rfl) (pe_call (ok__law_take T) (hr.mono (by decide)) (by rfl) T.g__law_take T.F__law_take.kp (b__law_take T.F__law_take) .nil pass0 (pa_cons (pv 0) (pa_cons pe_int pa_nil))))
      (pss_cons (ps_if (pt_cmpR op_gtA (pv 2) pe_int (nomark _))
      (pss_one (ps_set (i := 4) sc__law_condition.nd rfl (.inl rfl) (pe_op op_addA (pe_op op_mulA (pv 4) (pv 2)) (pe_call (ok__law_take T) (hr.mono (by decide)) (by rfl) T.g__law_take T.F__law_take.kp (b__law_take T.F__law_take) .nil pass0 (pa_cons (pv 0) (pa_cons pe_int pa_nil))))))
      pss_nil)
      (pss_one (ps_ret (pe_tup (pa_cons (pe_call (ok__law_take T) (hr.mono (by decide)) (by rfl) T.g__law_take T.F__law_take.kp (b__law_take T.F__law_take) .nil pass0 (pa_cons (pv 0) (pa_cons (pv 1) pa_nil))) (pa_cons (pv 3) (pa_cons (pv 4) pa_nil))))))))), ?_⟩)
  refine go_fn (L := ["box", "clocks", "scale", "sign", "number"]) h (fun b i hp hX => ?_)
  try dsimp only [cxOf, L2H.cxH, L2.Cx.nox, L2.Cx.wish]
  have kLET := cLET T
  have kNMC := cNMC T
  have kLON := cLON T
  have kSIG := T.w_SIGNS
  have kSTA := T.w_STAY_SIGNS
  have kSID := T.w_SIDES
  
  obtain ⟨x, n, sc, sg⟩ := i
  obtain ⟨n1, n2, s0⟩ := hp
  show GO K b _ ⟨[some (.o 0), some (.d (.int n)), some (.d (.int sc)), some (.d (.str sg)), none], [bxA x, bxB x]⟩ _
  repeat walk_at "z4"
  refine ev_tk (E := fun _ => E0) ?_
  repeat walk_at "z4"
  refine ⟨x, 5, _, _, rfl, rfl, by decide, fun v y v0 v1 => ?_⟩
  have v1 := v1 (by decide)
  
  refine gt_name ?_
  refine go_mid (fun s => ∃ (y : Bx) (v : Int), 0 ≤ v ∧ s = ⟨[some (.o 0), some (.d (.int n)), some (.d (.int sc)), some (.d (.str sg)), some (.d (.int v))], [bxA y, bxB y]⟩) ?_ ?_
  · repeat walk_at "z4"
  
    refine ⟨fun z => ?_, fun z => ?_⟩
    · repeat walk_at "z4"
  
      repeat walk_at "z4"
      refine ev_tk (E := fun _ => E0) ?_
      repeat walk_at "z4"
      refine ⟨y, 3, _, _, rfl, rfl, by decide, fun u y2 u0 u1 => ?_⟩
      have u1 := u1 (by decide)
  
      repeat walk_at "z4"
  
      exact ⟨y2, _, Int.add_nonneg (Int.mul_nonneg v0 s0) u0, rfl⟩
    · refine go_next ?_
      exact ⟨y, v, v0, rfl⟩
  rintro s2 ⟨y, v, v0, rfl⟩
  repeat walk_at "z4"
  refine ev_tk (E := fun _ => E0) ?_
  repeat walk_at "z4"
  refine ⟨y, n, _, _, rfl, rfl, by omega, fun k y2 k0 k1 => ?_⟩
  have k1 := k1 (by omega)
  
  repeat walk_at "z4"
  
  obtain ⟨j, rfl⟩ : ∃ j : Nat, k = j := ⟨k.toNat, by omega⟩
  exact ⟨(j, sg, v), y2, rfl, rfl, by show j < n; omega, rfl, v0⟩
end
def sp__law_stays : Spc where
  I := Bx × Nat × Int
  args := fun (x, n, sc) => [.o 0, .d (.int n), .d (.int sc)]
  cells := fun (x, _) => [bxA x, bxB x]
  pre := fun (_, n, sc) => n ≤ 100 ∧ 0 ≤ sc
  post := fun (_, n, _) r os => ∃ (l : List Cnd) (y : Bx), r = .val (cndsD l) ∧ os = [bxA y, bxB y] ∧ l.length ≤ 3 ∧ ∀ c, c ∈ l → Stay n c
section
variable {P : Program} {w : World} {K : PySem.W.Frag} {mg : Str → Option Value} {base : Heap}
theorem ok__law_stays (T : Tx P K mg) : FnOk P w K mg base CX0 3 T.a__law_stays T.d__law_stays ["box", "clocks", "scale"] (SpB K sp__law_stays) := by
  refine T.F__law_stays.ok sc__law_stays (fun vs H Q E h => spB_len h (fun _ => rfl)) (fun cdv A outer s H vs Q E hr h => ⟨_, PSs.nox ((pss_cons (ps_set (i := 3) sc__law_stays.nd rfl (.inl rfl) (pe_lst pa_nil))
      (pss_cons (ps_if (pt_cmpR op_gtA (pv 1) pe_int (nomark _))
      (pss_one (ps_for PassesOwn.never rfl (pi_range1 (by rfl) T.z_range (pa_cons (pe_ix ix_seq (pe_lst (pa_cons pe_int (pa_cons pe_int (pa_cons pe_int (pa_cons pe_int (pa_cons pe_int (pa_cons pe_int pa_nil))))))) (pe_call (ok__law_take T) (hr.mono (by decide)) (by rfl) T.g__law_take T.F__law_take.kp (b__law_take T.F__law_take) .nil pass0 (pa_cons (pv 0) (pa_cons pe_int pa_nil))) (fun _ _ => rfl)) pa_nil)) (pg_name (i := 4) sc__law_stays.nd rfl (.inl rfl) (.inr rfl))
      (pss_cons (ps_set (i := 5) sc__law_stays.nd rfl (.inl rfl) (pe_call (ok__law_condition T) (hr.mono (by decide)) (by rfl) T.g__law_condition T.F__law_condition.kp (b__law_condition T.F__law_condition) .nil pass0 (pa_cons (pv 0) (pa_cons (pv 1) (pa_cons (pv 2) (pa_cons (pe_ix ix_seq (pe_lst (pa_cons pe_str (pa_cons pe_str pa_nil))) (pe_call (ok__law_take T) (hr.mono (by decide)) (by rfl) T.g__law_take T.F__law_take.kp (b__law_take T.F__law_take) .nil pass0 (pa_cons (pv 0) (pa_cons pe_int pa_nil))) (fun _ _ => rfl)) pa_nil))))))
      (pss_one (ps_expr (pe_bm PySem.F.plainAttrs_list PySem.F.slot_list_append PySem.F.type_list_append mt_append (pv 3) (pa_cons (pe_tup (pa_cons (pe_ix ix_seq (pv 5) pe_int (fun _ _ => rfl)) (pa_cons (pe_ix ix_seq (pv 5) pe_int (fun _ _ => rfl)) (pa_cons (pe_callB (call_max2 rfl) (by rfl) T.z_max (by decide +kernel) (pa_cons (pe_ix ix_seq (pv 5) pe_int (fun _ _ => rfl)) (pa_cons (pe_callTy call_int1 (by rfl) T.z_int (by decide +kernel) (pa_cons (pe_cmpR (op_eqD hr.units) (pe_ix ix_seq (pv 5) pe_int (fun _ _ => rfl)) pe_str (nomark _)) pa_nil)) pa_nil))) pa_nil)))) pa_nil)))))))
      pss_nil)
      (pss_one (ps_ret (pe_callTy (call_tupA (K := K) rfl) (by rfl) T.z_tuple (by decide +kernel) (pa_cons (pv 3) pa_nil))))))), ?_⟩)
  refine go_fn (L := ["box", "clocks", "scale", "stays", "turn", "row"]) h (fun b i hp hX => ?_)
  try dsimp only [cxOf, L2H.cxH, L2.Cx.nox, L2.Cx.wish]
  have kLET := cLET T
  have kNMC := cNMC T
  have kLON := cLON T
  have kSIG := T.w_SIGNS
  have kSTA := T.w_STAY_SIGNS
  have kSID := T.w_SIDES
  
  obtain ⟨x, n, sc⟩ := i
  obtain ⟨n2, s0⟩ := hp
  show GO K b _ ⟨[some (.o 0), some (.d (.int n)), some (.d (.int sc)), none, none, none], [bxA x, bxB x]⟩ _
  refine go_sAsg (ev_lstO (ea_nil ⟨[], rfl, rfl, gt_name ?_⟩))
  refine go_mid (fun s => ∃ (y : Bx) (l : List Cnd) (x4 x5 : Option Dw.A), l.length ≤ 3 ∧ (∀ c, c ∈ l → Stay n c) ∧ s = ⟨[some (.o 0), some (.d (.int n)), some (.d (.int sc)), some (.o 2), x4, x5], [bxA y, bxB y, .lst (l.map cndD)]⟩) ?_ ?_
  · repeat walk_at "z4"
  
    refine ⟨fun z => ?_, fun z => ?_⟩
    rotate_left
    · refine go_next ?_
      exact ⟨x, [], _, _, Nat.zero_le _, (fun c h => nomatch h), rfl⟩
    have n1 : 1 ≤ n := by have := of_decide_eq_true z; omega
    refine go_for (ei_r1 (ea_cons (ev_op (ev_lst ?_))))
    repeat walk_at "z4"
    refine ev_tk (E := fun _ => E0) ?_
    repeat walk_at "z4"
    refine ⟨x, 6, _, _, rfl, rfl, by decide, fun v y v0 v1 => ?_⟩
    have v1 := v1 (by decide)
  
    obtain ⟨r, hr, r0, r1⟩ := at_lit [0, 1, 0, 1, 2, 1] 0 3 (by decide) v0 v1
    refine v2_ixL (ds := inL [0, 1, 0, 1, 2, 1]) hr ?_
    refine ea_nil ⟨r, rfl, by omega, by omega, ?_⟩
    refine ⟨fun j s => ∃ (y : Bx) (l : List Cnd) (x4 x5 : Option Dw.A), l.length ≤ j ∧ (∀ c, c ∈ l → Stay n c) ∧ s = ⟨[some (.o 0), some (.d (.int n)), some (.d (.int sc)), some (.o 2), x4, x5], [bxA y, bxB y, .lst (l.map cndD)]⟩, ⟨y, [], _, _, Nat.zero_le _, (fun c h => nomatch h), rfl⟩, fun _ _ _ _ => trivial, ?_, ?_⟩
    · rintro j v s2 hx ⟨y, l, x4, x5, hl, hc, rfl⟩
      obtain ⟨hj, rfl⟩ := rngD_get hx
      refine gt_name ?_
      refine go_sAsg ?_
      refine ev_box (E := fun _ => E0) ?_
      repeat walk_at "z4"
      refine ev_lst ?_
      repeat walk_at "z4"
      refine ev_tk (E := fun _ => E0) ?_
      repeat walk_at "z4"
      refine ⟨y, 2, _, _, rfl, rfl, by decide, fun u y1 u0 u1 => ?_⟩
      have u1 := u1 (by decide)
  
      obtain ⟨sg, hsg, hu⟩ := at_strs ["<=", "<"] u0 u1
      refine v2_ixL (ds := List.map PyData.str ["<=", "<"]) hu ?_
      repeat walk_at "z4"
  
      refine ⟨(y1, n, sc, sg), y1, _, _, _, rfl, rfl, rfl, rfl, rfl, ⟨n1, n2, s0⟩, fun r os' hr => ?_, fun _ _ h => h⟩
      obtain ⟨⟨k, sg', v⟩, y2, rfl, rfl, c1, rfl, c3⟩ := hr
      refine ⟨y2, rfl, ?_⟩
      refine gt_name ?_
      have hsg : sg' = "<=" ∨ sg' = "<" := by simpa using hsg
      have c3 : 0 ≤ v := c3
      have c1 : k < n := c1
      rcases hsg with rfl | rfl
      · show GO K b _ ⟨[some (.o 0), some (.d (.int n)), some (.d (.int sc)), some (.o 2), some (.d (.int (0 + (j : Int)))), some (.d (.tuple [.int k, .str "<=", .int v]))], [bxA y2, bxB y2, .lst (l.map cndD)]⟩ _
        refine go_drop (ev_bmL (ev_var (a := .o 2) rfl ⟨⟨2, _, rfl, rfl⟩, ?_⟩))
        repeat walk_at "z4"
  
        refine vc_max2 ?_
        repeat walk_at "z4"
  
        refine vm_append (n := 2) rfl (Nat.lt_of_le_of_lt (show _ ≤ 1000 by rw [List.length_map]; omega) (by decide)) ?_
        have hst : Stay n (k, ("<=" : Str), if (if false = true then (1 : Int) else 0) > v then (if false = true then (1 : Int) else 0) else v) := ⟨c1, .inr ⟨rfl, by show (0 : Int) ≤ (if (0 : Int) > v then 0 else v); split <;> omega⟩⟩
        refine ⟨y2, l ++ [(k, ("<=" : Str), if (if false = true then (1 : Int) else 0) > v then (if false = true then (1 : Int) else 0) else v)], _, _, by rw [List.length_append]; exact Nat.succ_le_succ hl, fun d hd => ?_, by rw [List.map_append]; rfl⟩
        rcases List.mem_append.mp hd with h | h
        · exact hc d h
        · rw [List.mem_singleton.mp h]
          exact hst
      · show GO K b _ ⟨[some (.o 0), some (.d (.int n)), some (.d (.int sc)), some (.o 2), some (.d (.int (0 + (j : Int)))), some (.d (.tuple [.int k, .str "<", .int v]))], [bxA y2, bxB y2, .lst (l.map cndD)]⟩ _
        refine go_drop (ev_bmL (ev_var (a := .o 2) rfl ⟨⟨2, _, rfl, rfl⟩, ?_⟩))
        repeat walk_at "z4"
  
        refine vc_max2 ?_
        repeat walk_at "z4"
  
        refine vm_append (n := 2) rfl (Nat.lt_of_le_of_lt (show _ ≤ 1000 by rw [List.length_map]; omega) (by decide)) ?_
        have hst : Stay n (k, ("<" : Str), if (if true = true then (1 : Int) else 0) > v then (if true = true then (1 : Int) else 0) else v) := ⟨c1, .inl ⟨rfl, by show (1 : Int) ≤ (if (1 : Int) > v then 1 else v); split <;> omega⟩⟩
        refine ⟨y2, l ++ [(k, ("<" : Str), if (if true = true then (1 : Int) else 0) > v then (if true = true then (1 : Int) else 0) else v)], _, _, by rw [List.length_append]; exact Nat.succ_le_succ hl, fun d hd => ?_, by rw [List.map_append]; rfl⟩
        rcases List.mem_append.mp hd with h | h
        · exact hc d h
        · rw [List.mem_singleton.mp h]
          exact hst
  
    rintro s2 ⟨y, l, x4, x5, hl, hc, rfl⟩
    rw [rngD_len] at hl
    exact ⟨y, l, x4, x5, by omega, hc, rfl⟩
  rintro s2 ⟨y, l, x4, x5, hl, hc, rfl⟩
  repeat walk_at "z4"
  
  refine vc_tupL (ds := l.map cndD) ⟨_, rfl, rfl⟩ ?_
  exact ⟨l, y, rfl, rfl, hl, hc⟩
end
def sp__law_guard : Spc where
  I := Bx × Nat × Int
  args := fun (x, n, sc) => [.o 0, .d (.int n), .d (.int sc)]
  cells := fun (x, _) => [bxA x, bxB x]
  pre := fun (_, n, sc) => n ≤ 100 ∧ 0 ≤ sc
  post := fun (_, n, _) r os => ∃ (l : List Cnd) (y : Bx), r = .val (cndsD l) ∧ os = [bxA y, bxB y] ∧ l.length ≤ 3 ∧ ∀ c, c ∈ l → Grd n c
section
variable {P : Program} {w : World} {K : PySem.W.Frag} {mg : Str → Option Value} {base : Heap}
theorem ok__law_guard (T : Tx P K mg) : FnOk P w K mg base CX0 3 T.a__law_guard T.d__law_guard ["box", "clocks", "scale"] (SpB K sp__law_guard) := by
  refine T.F__law_guard.ok sc__law_guard (fun vs H Q E h => spB_len h (fun _ => rfl)) (fun cdv A outer s H vs Q E hr h => ⟨_, PSs.nox ((pss_cons (ps_set (i := 3) sc__law_guard.nd rfl (.inl rfl) (pe_lst pa_nil))
      (pss_cons (ps_if (pt_cmpR op_gtA (pv 1) pe_int (nomark _))
      (pss_one (ps_for PassesOwn.never rfl (pi_range1 (by rfl) T.z_range (pa_cons (pe_ix ix_seq (pe_lst (pa_cons pe_int (pa_cons pe_int (pa_cons pe_int (pa_cons pe_int (pa_cons pe_int (pa_cons pe_int (pa_cons pe_int (pa_cons pe_int pa_nil))))))))) (pe_call (ok__law_take T) (hr.mono (by decide)) (by rfl) T.g__law_take T.F__law_take.kp (b__law_take T.F__law_take) .nil pass0 (pa_cons (pv 0) (pa_cons pe_int pa_nil))) (fun _ _ => rfl)) pa_nil)) (pg_name (i := 4) sc__law_guard.nd rfl (.inl rfl) (.inr rfl))
      (pss_cons (ps_set (i := 5) sc__law_guard.nd rfl (.inl rfl) (pe_ix ix_seq (pe_lst (pa_cons pe_str (pa_cons pe_str (pa_cons pe_str (pa_cons pe_str (pa_cons pe_str pa_nil)))))) (pe_call (ok__law_take T) (hr.mono (by decide)) (by rfl) T.g__law_take T.F__law_take.kp (b__law_take T.F__law_take) .nil pass0 (pa_cons (pv 0) (pa_cons pe_int pa_nil))) (fun _ _ => rfl)))
      (pss_one (ps_expr (pe_bm PySem.F.plainAttrs_list PySem.F.slot_list_append PySem.F.type_list_append mt_append (pv 3) (pa_cons (pe_call (ok__law_condition T) (hr.mono (by decide)) (by rfl) T.g__law_condition T.F__law_condition.kp (b__law_condition T.F__law_condition) .nil pass0 (pa_cons (pv 0) (pa_cons (pv 1) (pa_cons (pv 2) (pa_cons (pv 5) pa_nil))))) pa_nil)))))))
      pss_nil)
      (pss_one (ps_ret (pe_callTy (call_tupA (K := K) rfl) (by rfl) T.z_tuple (by decide +kernel) (pa_cons (pv 3) pa_nil))))))), ?_⟩)
  refine go_fn (L := ["box", "clocks", "scale", "rows", "turn", "sign"]) h (fun b i hp hX => ?_)
  try dsimp only [cxOf, L2H.cxH, L2.Cx.nox, L2.Cx.wish]
  have kLET := cLET T
  have kNMC := cNMC T
  have kLON := cLON T
  have kSIG := T.w_SIGNS
  have kSTA := T.w_STAY_SIGNS
  have kSID := T.w_SIDES
  
  obtain ⟨x, n, sc⟩ := i
  obtain ⟨n2, s0⟩ := hp
  show GO K b _ ⟨[some (.o 0), some (.d (.int n)), some (.d (.int sc)), none, none, none], [bxA x, bxB x]⟩ _
  refine go_sAsg (ev_lstO (ea_nil ⟨[], rfl, rfl, gt_name ?_⟩))
  refine go_mid (fun s => ∃ (y : Bx) (l : List Cnd) (x4 x5 : Option Dw.A), l.length ≤ 3 ∧ (∀ c, c ∈ l → Grd n c) ∧ s = ⟨[some (.o 0), some (.d (.int n)), some (.d (.int sc)), some (.o 2), x4, x5], [bxA y, bxB y, .lst (l.map cndD)]⟩) ?_ ?_
  · repeat walk_at "z4"
  
    refine ⟨fun z => ?_, fun z => ?_⟩
    rotate_left
    · refine go_next ?_
      exact ⟨x, [], _, _, Nat.zero_le _, (fun c h => nomatch h), rfl⟩
    have n1 : 1 ≤ n := by have := of_decide_eq_true z; omega
    refine go_for (ei_r1 (ea_cons (ev_op (ev_lst ?_))))
    repeat walk_at "z4"
    refine ev_tk (E := fun _ => E0) ?_
    repeat walk_at "z4"
    refine ⟨x, 8, _, _, rfl, rfl, by decide, fun v y v0 v1 => ?_⟩
    have v1 := v1 (by decide)
  
    obtain ⟨r, hr, r0, r1⟩ := at_lit [0, 1, 0, 1, 2, 1, 0, 3] 0 3 (by decide) v0 v1
    refine v2_ixL (ds := inL [0, 1, 0, 1, 2, 1, 0, 3]) hr ?_
    refine ea_nil ⟨r, rfl, by omega, by omega, ?_⟩
    refine ⟨fun j s => ∃ (y : Bx) (l : List Cnd) (x4 x5 : Option Dw.A), l.length ≤ j ∧ (∀ c, c ∈ l → Grd n c) ∧ s = ⟨[some (.o 0), some (.d (.int n)), some (.d (.int sc)), some (.o 2), x4, x5], [bxA y, bxB y, .lst (l.map cndD)]⟩, ⟨y, [], _, _, Nat.zero_le _, (fun c h => nomatch h), rfl⟩, fun _ _ _ _ => trivial, ?_, ?_⟩
    · rintro j v s2 hx ⟨y, l, x4, x5, hl, hc, rfl⟩
      obtain ⟨hj, rfl⟩ := rngD_get hx
      refine gt_name ?_
      refine go_sAsg (ev_op (ev_lst ?_))
      repeat walk_at "z4"
      refine ev_tk (E := fun _ => E0) ?_
      repeat walk_at "z4"
      refine ⟨y, 5, _, _, rfl, rfl, by decide, fun u y1 u0 u1 => ?_⟩
      have u1 := u1 (by decide)
  
      obtain ⟨sg, hsg, hu⟩ := at_strs ["<", "<=", "==", ">=", ">"] u0 u1
      refine v2_ixL (ds := List.map PyData.str ["<", "<=", "==", ">=", ">"]) hu ?_
      refine gt_name ?_
      refine go_drop (ev_bmL (ev_var (a := .o 2) rfl ⟨⟨2, _, rfl, rfl⟩, ?_⟩))
      refine ea_cons ?_
      refine ev_box (E := fun _ => E0) ?_
      repeat walk_at "z4"
  
      refine ⟨(y1, n, sc, sg), y1, _, _, _, rfl, rfl, rfl, rfl, rfl, ⟨n1, n2, s0⟩, fun r os' hr => ?_, fun _ _ h => h⟩
      obtain ⟨c, y2, rfl, rfl, c1, c2, c3⟩ := hr
      refine ⟨y2, rfl, ?_⟩
      refine ea_nil ?_
      refine vm_append (n := 2) rfl (Nat.lt_of_le_of_lt (show _ ≤ 1000 by rw [List.length_map]; omega) (by decide)) ?_
      refine ⟨y2, l ++ [c], _, _, by rw [List.length_append]; exact Nat.succ_le_succ hl, fun d hd => ?_, by rw [List.map_append]; rfl⟩
      rcases List.mem_append.mp hd with h | h
      · exact hc d h
      · rw [List.mem_singleton.mp h]
        exact ⟨c1, by rw [c2]; exact hsg, c3⟩
  
    rintro s2 ⟨y, l, x4, x5, hl, hc, rfl⟩
    rw [rngD_len] at hl
    exact ⟨y, l, x4, x5, by omega, hc, rfl⟩
  rintro s2 ⟨y, l, x4, x5, hl, hc, rfl⟩
  repeat walk_at "z4"
  
  refine vc_tupL (ds := l.map cndD) ⟨_, rfl, rfl⟩ ?_
  exact ⟨l, y, rfl, rfl, hl, hc⟩
end
def sp__law_move : Spc where
  I := Bx × Nat × Nat × Int × Nat × List Str × List Str
  args := fun (x, k, n, sc, m, ls, ru) => [.o 0, .d (.int k), .d (.int n), .d (.int sc), .d (.int m), .d (.list (ls.map .str)), .d (.list (ru.map .str))]
  cells := fun (x, _) => [bxA x, bxB x]
  pre := fun (_, _, n, sc, m, ls, _) => n ≤ 8 ∧ 0 ≤ sc ∧ (1 ≤ m ∧ m ≤ 200) ∧ ls.length = 3 ∧ ∀ w, w ∈ ls → Nm w
  post := fun (_, _, n, _, m, _, ru) r os => ∃ (mv : Mov) (y : Bx), r = .val (movD mv) ∧ os = [bxA y, bxB y] ∧ MovOk m n mv ∧ (mv.label ∈ ru → mv.guard = []) ∧ mv.guard.length ≤ 3
section
variable {P : Program} {w : World} {K : PySem.W.Frag} {mg : Str → Option Value} {base : Heap}
theorem ok__law_move (T : Tx P K mg) : FnOk P w K mg base CX0 4 T.a__law_move T.d__law_move ["box", "k", "clocks", "scale", "count", "labels", "rush"] (SpB K sp__law_move) := by
  refine T.F__law_move.ok sc__law_move (fun vs H Q E h => spB_len h (fun _ => rfl)) (fun cdv A outer s H vs Q E hr h => ⟨_, PSs.nox ((pss_cons (ps_set (i := 7) sc__law_move.nd rfl (.inl rfl) (pe_op op_mod (pe_callTy call_int1 (by rfl) T.z_int (by decide +kernel) (pa_cons (pv 1) pa_nil)) (pv 4)))
      (pss_cons (ps_if (pt_cmpR (op_eqD hr.units) (pe_call (ok__law_take T) (hr.mono (by decide)) (by rfl) T.g__law_take T.F__law_take.kp (b__law_take T.F__law_take) .nil pass0 (pa_cons (pv 0) (pa_cons pe_int pa_nil))) pe_int (nomark _))
      (pss_one (ps_set (i := 7) sc__law_move.nd rfl (.inl rfl) (pe_call (ok__law_take T) (hr.mono (by decide)) (by rfl) T.g__law_take T.F__law_take.kp (b__law_take T.F__law_take) .nil pass0 (pa_cons (pv 0) (pa_cons (pv 4) pa_nil)))))
      pss_nil)
      (pss_cons (ps_set (i := 8) sc__law_move.nd rfl (.inl rfl) (pe_call (ok__law_take T) (hr.mono (by decide)) (by rfl) T.g__law_take T.F__law_take.kp (b__law_take T.F__law_take) .nil pass0 (pa_cons (pv 0) (pa_cons (pv 4) pa_nil))))
      (pss_cons (ps_set (i := 9) sc__law_move.nd rfl (.inl rfl) (pe_ix ix_seq (pe_op op_addA (pv 5) (pe_lst (pa_cons pe_str pa_nil))) (pe_call (ok__law_take T) (hr.mono (by decide)) (by rfl) T.g__law_take T.F__law_take.kp (b__law_take T.F__law_take) .nil pass0 (pa_cons (pv 0) (pa_cons pe_int pa_nil))) (fun _ _ => rfl)))
      (pss_cons (ps_set (i := 10) sc__law_move.nd rfl (.inl rfl) (pe_call (ok__law_guard T) (hr.mono (by decide)) (by rfl) T.g__law_guard T.F__law_guard.kp (b__law_guard T.F__law_guard) .nil pass0 (pa_cons (pv 0) (pa_cons (pv 2) (pa_cons (pv 3) pa_nil)))))
      (pss_cons (ps_if (pt_cmpR op_inA (pv 9) (pv 6) (by rfl))
      (pss_one (ps_set (i := 10) sc__law_move.nd rfl (.inl rfl) (pe_tup pa_nil)))
      pss_nil)
      (pss_cons (ps_set (i := 11) sc__law_move.nd rfl (.inl rfl) (pe_lst pa_nil))
      (pss_cons (ps_for PassesOwn.never rfl (pi_range1 (by rfl) T.z_range (pa_cons (pv 2) pa_nil)) (pg_name (i := 12) sc__law_move.nd rfl (.inl rfl) (.inr rfl))
      (pss_one (ps_if (pt_cmpR (op_eqD hr.units) (pe_call (ok__law_take T) (hr.mono (by decide)) (by rfl) T.g__law_take T.F__law_take.kp (b__law_take T.F__law_take) .nil pass0 (pa_cons (pv 0) (pa_cons pe_int pa_nil))) pe_int (nomark _))
      (pss_one (ps_expr (pe_bm PySem.F.plainAttrs_list PySem.F.slot_list_append PySem.F.type_list_append mt_append (pv 11) (pa_cons (pv 12) pa_nil))))
      pss_nil)))
      (pss_one (ps_ret (pe_tup (pa_cons (pv 7) (pa_cons (pv 8) (pa_cons (pv 9) (pa_cons (pv 10) (pa_cons (pe_callTy (call_tupA (K := K) rfl) (by rfl) T.z_tuple (by decide +kernel) (pa_cons (pv 11) pa_nil)) (pa_cons (pe_ix ix_seq (pe_lst (pa_cons pe_str (pa_cons pe_str pa_nil))) (pe_call (ok__law_take T) (hr.mono (by decide)) (by rfl) T.g__law_take T.F__law_take.kp (b__law_take T.F__law_take) .nil pass0 (pa_cons (pv 0) (pa_cons pe_int pa_nil))) (fun _ _ => rfl)) pa_nil)))))))))))))))))), ?_⟩)
  refine go_fn (L := ["box", "k", "clocks", "scale", "count", "labels", "rush", "source", "target", "label", "guard", "resets", "clock"]) h (fun b i hp hX => ?_)
  try dsimp only [cxOf, L2H.cxH, L2.Cx.nox, L2.Cx.wish]
  have kLET := cLET T
  have kNMC := cNMC T
  have kLON := cLON T
  have kSIG := T.w_SIGNS
  have kSTA := T.w_STAY_SIGNS
  have kSID := T.w_SIDES
  
  obtain ⟨x, k, n, sc, m, ls, ru⟩ := i
  obtain ⟨n8, s0, ⟨m1, m2⟩, hl, hnm⟩ := hp
  show GO K b _ ⟨[some (.o 0), some (.d (.int k)), some (.d (.int n)), some (.d (.int sc)), some (.d (.int m)), some (.d (.list (ls.map .str))), some (.d (.list (ru.map .str))), none, none, none, none, none, none], [bxA x, bxB x]⟩ _
  refine go_mid (fun s => ∃ (sr : Nat), sr < m ∧ s = ⟨[some (.o 0), some (.d (.int k)), some (.d (.int n)), some (.d (.int sc)), some (.d (.int m)), some (.d (.list (ls.map .str))), some (.d (.list (ru.map .str))), some (.d (.int (sr : Nat))), none, none, none, none, none], [bxA x, bxB x]⟩) ?_ ?_
  · repeat walk_at "z4"
  
    obtain ⟨q, hq⟩ : ∃ q : Nat, (k : Int) % (m : Int) = q := ⟨((k : Int) % (m : Int)).toNat, by have := Int.emod_nonneg (k : Int) (show (m : Int) ≠ 0 by omega); omega⟩
    have hlt := Int.emod_lt_of_pos (k : Int) (show (0 : Int) < m by omega)
    rw [hq] at hlt ⊢
    exact ⟨q, by omega, rfl⟩
  rintro s1 ⟨sr, hsr, rfl⟩
  refine go_mid (fun s => ∃ (y : Bx) (sr : Nat), sr < m ∧ s = ⟨[some (.o 0), some (.d (.int k)), some (.d (.int n)), some (.d (.int sc)), some (.d (.int m)), some (.d (.list (ls.map .str))), some (.d (.list (ru.map .str))), some (.d (.int (sr : Nat))), none, none, none, none, none], [bxA y, bxB y]⟩) ?_ ?_
  · repeat walk_at "z4"
    refine ev_tk (E := fun _ => E0) ?_
    repeat walk_at "z4"
    refine ⟨x, 2, _, _, rfl, rfl, by decide, fun p y p0 p1 => ?_⟩
    have p1 := p1 (by decide)
  
    repeat walk_at "z4"
  
    refine ⟨fun z => ?_, fun z => ?_⟩
    · repeat walk_at "z4"
      refine ev_tk (E := fun _ => E0) ?_
      repeat walk_at "z4"
      refine ⟨y, m, _, _, rfl, rfl, by omega, fun q y2 q0 q1 => ?_⟩
      have q1 := q1 (by omega)
  
      refine gt_name ?_
      obtain ⟨q, rfl⟩ : ∃ j : Nat, q = j := ⟨q.toNat, by omega⟩
      exact ⟨y2, q, by omega, rfl⟩
    · refine go_next ?_
      exact ⟨y, sr, hsr, rfl⟩
  rintro s1 ⟨y, sr, hsr, rfl⟩
  repeat walk_at "z4"
  refine ev_tk (E := fun _ => E0) ?_
  repeat walk_at "z4"
  refine ⟨y, m, _, _, rfl, rfl, by omega, fun t y2 t0 t1 => ?_⟩
  have t1 := t1 (by omega)
  
  obtain ⟨tg, rfl⟩ : ∃ j : Nat, t = j := ⟨t.toNat, by omega⟩
  refine gt_name ?_
  refine go_sAsg (ev_op (ev_op (ev_var rfl (ev_lst (ea_cons (ev_str (ea_nil ⟨_, rfl, rfl, ?_⟩)))))))
  refine v2_addL rfl rfl (Nat.le_trans (show _ ≤ 1000 by rw [List.length_map, hl]; exact (by decide)) (by decide)) ?_
  repeat walk_at "z4"
  refine ev_tk (E := fun _ => E0) ?_
  repeat walk_at "z4"
  refine ⟨y2, 4, _, _, rfl, rfl, by decide, fun p y3 p0 p1 => ?_⟩
  have p1 := p1 (by decide)
  
  obtain ⟨lb, hlb, hat⟩ := at_strs (ls ++ [("" : Str)]) p0 (by rw [List.length_append, hl]; exact p1)
  rw [List.map_append] at hat
  refine v2_ixL (ds := ls.map .str ++ [.str ""]) hat ?_
  refine gt_name ?_
  refine go_sAsg ?_
  refine ev_box (E := fun _ => E0) ?_
  repeat walk_at "z4"
  
  refine ⟨(y3, n, sc), y3, _, _, _, rfl, rfl, rfl, rfl, rfl, ⟨by omega, s0⟩, fun r os' hr => ?_, fun _ _ h => h⟩
  obtain ⟨gd, y4, rfl, rfl, gl, hgd⟩ := hr
  refine ⟨y4, rfl, ?_⟩
  refine gt_name ?_
  refine go_mid (fun s => ∃ (gd : List Cnd), gd.length ≤ 3 ∧ (∀ c, c ∈ gd → Grd n c) ∧ (lb ∈ ru → gd = []) ∧ s = ⟨[some (.o 0), some (.d (.int k)), some (.d (.int n)), some (.d (.int sc)), some (.d (.int m)), some (.d (.list (ls.map .str))), some (.d (.list (ru.map .str))), some (.d (.int (sr : Nat))), some (.d (.int (tg : Nat))), some (.d (.str lb)), some (.d (cndsD gd)), none, none], [bxA y4, bxB y4]⟩) ?_ ?_
  · repeat walk_at "z4"
  
    refine v2_inS (ns := ru) (.inl rfl) ?_
    repeat walk_at "z4"
  
    by_cases hin : lb ∈ ru
    · rw [decide_eq_true hin]
      refine ⟨fun _ => ?_, fun h => absurd h (by decide)⟩
      repeat walk_at "z4"
  
      exact ⟨[], Nat.zero_le _, (fun c h => nomatch h), fun _ => rfl, rfl⟩
    · rw [decide_eq_false hin]
      refine ⟨fun h => absurd h (by decide), fun _ => ?_⟩
      refine go_next ?_
      exact ⟨gd, gl, hgd, fun h => absurd h hin, rfl⟩
  clear hgd gl
  rintro s1 ⟨gd, gl, hgd, hru, rfl⟩
  refine go_sAsg (ev_lstO (ea_nil ⟨[], rfl, rfl, gt_name ?_⟩))
  refine go_seq (go_for (ei_r1 (ea_cons (ev_var rfl (ea_nil ⟨_, rfl, by omega, by omega, ?_⟩)))))
  rw [Int.toNat_natCast]
  refine ⟨fun j s => ∃ (y : Bx) (rs : List Nat) (xc : Option Dw.A), (∀ z, z ∈ rs → z < j) ∧ rs.Pairwise (· < ·) ∧ rs.length ≤ j ∧ s = ⟨[some (.o 0), some (.d (.int k)), some (.d (.int n)), some (.d (.int sc)), some (.d (.int m)), some (.d (.list (ls.map .str))), some (.d (.list (ru.map .str))), some (.d (.int (sr : Nat))), some (.d (.int (tg : Nat))), some (.d (.str lb)), some (.d (cndsD gd)), some (.o 2), xc], [bxA y, bxB y, .lst (inN' rs)]⟩, ⟨y4, [], none, (fun z h => nomatch h), .nil, Nat.le_refl _, rfl⟩, fun _ _ _ _ => trivial, ?_, ?_⟩
  · rintro j v s2 hx ⟨y, rs, xc, hlt, hpw, hle, rfl⟩
    obtain ⟨hj, rfl⟩ := rngD_get hx
    refine gt_name ?_
    repeat walk_at "z4"
    refine ev_tk (E := fun _ => E0) ?_
    repeat walk_at "z4"
    refine ⟨y, 2, _, _, rfl, rfl, by decide, fun p y5 p0 p1 => ?_⟩
    have p1 := p1 (by decide)
  
    repeat walk_at "z4"
  
    refine ⟨fun z => ?_, fun z => ?_⟩
    · repeat walk_at "z4"
      refine ev_bmL (ev_var (a := .o 2) rfl ⟨⟨2, _, rfl, rfl⟩, ?_⟩)
      repeat walk_at "z4"
      refine vm_append (n := 2) rfl (Nat.lt_of_le_of_lt (show _ ≤ 1000 by rw [inN_len]; omega) (by decide)) ?_
  
      have e : inN' (rs ++ [j]) = inN' rs ++ [.int (0 + (j : Int))] := by rw [Int.zero_add]; exact List.map_append ..
      refine ⟨y5, rs ++ [j], _, fun z hz => ?_, ?_, by rw [List.length_append]; exact Nat.succ_le_succ hle, by rw [e]; rfl⟩
      · rcases List.mem_append.mp hz with h | h
        · have := hlt z h; omega
        · rw [List.mem_singleton.mp h]; omega
      · refine List.pairwise_append.mpr ⟨hpw, List.pairwise_singleton _ _, fun a ha c hc => ?_⟩
        rw [List.mem_singleton.mp hc]
        exact hlt a ha
    · refine go_next ?_
      exact ⟨y5, rs, _, fun z hz => by have := hlt z hz; omega, hpw, by omega, rfl⟩
  rintro s2 ⟨y, rs, xc, hlt, hpw, hle, rfl⟩
  rw [rngD_len] at hlt hle
  dsimp only
  repeat walk_at "z4"
  
  refine vc_tupL (ds := inN' rs) ⟨_, rfl, rfl⟩ ?_
  repeat walk_at "z4"
  
  refine ev_lst ?_
  repeat walk_at "z4"
  refine ev_tk (E := fun _ => E0) ?_
  repeat walk_at "z4"
  refine ⟨y, 2, _, _, rfl, rfl, by decide, fun p y6 p0 p1 => ?_⟩
  have p1 := p1 (by decide)
  
  obtain ⟨sd, hsd, hat2⟩ := at_strs ["ours", "world"] p0 p1
  refine v2_ixL (ds := List.map PyData.str ["ours", "world"]) hat2 ?_
  repeat walk_at "z4"
  
  refine ⟨⟨sr, tg, lb, gd, rs, sd⟩, y6, rfl, rfl, ⟨hsr, by show tg < m; omega, ?_, hgd, hlt, hpw, by simpa using hsd⟩, hru, gl⟩
  rcases List.mem_append.mp hlb with h | h
  · exact .inr (hnm _ h)
  · exact .inl (List.mem_singleton.mp h)
end
def sp__law_table : Spc where
  I := Bx
  args := fun _ => [.o 0]
  cells := fun x => [bxA x, bxB x]
  pre := fun _ => True
  post := fun _ r os => ∃ (m : Mch) (sc : Int) (y : Bx), r = .val (tabD m sc) ∧ os = [bxA y, bxB y] ∧ m.Ok ∧ 0 ≤ sc
section
variable {P : Program} {w : World} {K : PySem.W.Frag} {mg : Str → Option Value} {base : Heap}
theorem ok__law_table (T : Tx P K mg) : FnOk P w K mg base CX0 5 T.a__law_table T.d__law_table ["box"] (SpB K sp__law_table) := by
  refine T.F__law_table.ok sc__law_table (fun vs H Q E h => spB_len h (fun _ => rfl)) (fun cdv A outer s H vs Q E hr h => ⟨_, PSs.nox ((pss_cons (ps_set (i := 1) sc__law_table.nd rfl (.inr rfl) (pe_ix ix_seq (pe_lst (pa_cons pe_int (pa_cons pe_int (pa_cons pe_int (pa_cons pe_int (pa_cons pe_int (pa_cons pe_int (pa_cons pe_int (pa_cons pe_int (pa_cons pe_int (pa_cons pe_int (pa_cons pe_int (pa_cons pe_int (pa_cons pe_int (pa_cons pe_int (pa_cons pe_int (pa_cons pe_int pa_nil))))))))))))))))) (pe_call (ok__law_take T) (hr.mono (by decide)) (by rfl) T.g__law_take T.F__law_take.kp (b__law_take T.F__law_take) .nil pass0 (pa_cons (pv 0) (pa_cons pe_int pa_nil))) (fun _ _ => rfl)))
      (pss_cons (ps_set (i := 2) sc__law_table.nd rfl (.inr rfl) (pe_ix ix_seq (pe_lst (pa_cons pe_int (pa_cons pe_int (pa_cons pe_int (pa_cons pe_int (pa_cons pe_int (pa_cons pe_int (pa_cons (pe_op op_pow pe_int pe_int) (pa_cons (pe_op op_pow pe_int pe_int) pa_nil))))))))) (pe_call (ok__law_take T) (hr.mono (by decide)) (by rfl) T.g__law_take T.F__law_take.kp (b__law_take T.F__law_take) .nil pass0 (pa_cons (pv 0) (pa_cons pe_int pa_nil))) (fun _ _ => rfl)))
      (pss_cons (ps_set (i := 3) sc__law_table.nd rfl (.inl rfl) (pe_op op_addA pe_int (pe_call (ok__law_take T) (hr.mono (by decide)) (by rfl) T.g__law_take T.F__law_take.kp (b__law_take T.F__law_take) .nil pass0 (pa_cons (pv 0) (pa_cons pe_int pa_nil)))))
      (pss_cons (ps_set (i := 4) sc__law_table.nd rfl (.inl rfl) (pe_call (ok__law_names T) (hr.mono (by decide)) (by rfl) T.g__law_names T.F__law_names.kp (b__law_names T.F__law_names) .nil pass0 (pa_cons (pv 0) (pa_cons (pv 3) pa_nil))))
      (pss_cons (ps_if (pt_cmpR (op_eqD hr.units) (pe_call (ok__law_take T) (hr.mono (by decide)) (by rfl) T.g__law_take T.F__law_take.kp (b__law_take T.F__law_take) .nil pass0 (pa_cons (pv 0) (pa_cons pe_int pa_nil))) pe_int (nomark _))
      (pss_cons (ps_set (i := 3) sc__law_table.nd rfl (.inl rfl) pe_int)
      (pss_one (ps_setLc (i := 4) (own := [("k", 5)]) rfl sc__law_table.nd rfl rfl (sw_true rfl rfl rfl (by decide +kernel)) (pi_range1 (by rfl) T.z_range (pa_cons (pv 3) pa_nil)) (blkOk_by (own := [("k", 5)]) (N := ["box", "clocks", "scale", "count", "names", "k", "labels", "rush", "places", "moves", "first", "name"]) (sc := defScope s__law_table) (by decide +kernel)) (fun _ _ _ _ _ => (pg_name (i := 5) sc__law_table.nd rfl (.inl rfl) (.inr rfl))) (fun _ _ _ _ _ => pts_nil) (fun _ _ _ _ _ => (pe_op (op_addAK (K := K) rfl) pe_str (pe_callTy call_str_int (by rfl) T.z_str (by decide +kernel) (pa_cons (pv 5) pa_nil)))))))
      pss_nil)
      (pss_cons (ps_set (i := 6) sc__law_table.nd rfl (.inl rfl) (pe_call (ok__law_names T) (hr.mono (by decide)) (by rfl) T.g__law_names T.F__law_names.kp (b__law_names T.F__law_names) .nil pass0 (pa_cons (pv 0) (pa_cons pe_int pa_nil))))
      (pss_cons (ps_set (i := 7) sc__law_table.nd rfl (.inl rfl) (pe_ix ix_seq (pe_lst (pa_cons (pe_lst pa_nil) (pa_cons (pe_slice sl_any (pv 6) po_none (po_some pe_int)) (pa_cons (pe_slice sl_any (pv 6) po_none (po_some pe_int)) (pa_cons (pe_lst (pa_cons (pe_op op_addA (pe_ix ix_seq (pv 6) pe_int (fun _ _ => rfl)) pe_str) pa_nil)) (pa_cons (pe_lst pa_nil) (pa_cons (pe_lst pa_nil) (pa_cons (pe_lst pa_nil) (pa_cons (pe_lst pa_nil) pa_nil))))))))) (pe_call (ok__law_take T) (hr.mono (by decide)) (by rfl) T.g__law_take T.F__law_take.kp (b__law_take T.F__law_take) .nil pass0 (pa_cons (pv 0) (pa_cons pe_int pa_nil))) (fun _ _ => rfl)))
      (pss_cons (ps_setLc (i := 8) (own := [("name", 11)]) rfl sc__law_table.nd rfl rfl (sw_true rfl rfl rfl (by decide +kernel)) (pi_any (pv 4)) (blkOk_by (own := [("name", 11)]) (N := ["box", "clocks", "scale", "count", "names", "k", "labels", "rush", "places", "moves", "first", "name"]) (sc := defScope s__law_table) (by decide +kernel)) (fun _ _ _ _ _ => (pg_name (i := 11) sc__law_table.nd rfl (.inl rfl) (.inr rfl))) (fun _ _ _ _ _ => pts_nil) (fun _ _ _ _ _ => (pe_tup (pa_cons (pv 11) (pa_cons (pe_call (ok__law_stays T) (hr.mono (by decide)) (by rfl) T.g__law_stays T.F__law_stays.kp (b__law_stays T.F__law_stays) .nil pass0 (pa_cons (pv 0) (pa_cons (pv 1) (pa_cons (pv 2) pa_nil)))) (pa_cons (pe_cmpR (op_eqDK (K := K) rfl hr.units) (pe_call (ok__law_take T) (hr.mono (by decide)) (by rfl) T.g__law_take T.F__law_take.kp (b__law_take T.F__law_take) .nil pass0 (pa_cons (pv 0) (pa_cons pe_int pa_nil))) pe_int (nomark _)) pa_nil))))))
      (pss_cons (ps_set (i := 9) sc__law_table.nd rfl (.inl rfl) (pe_lst pa_nil))
      (pss_cons (ps_for PassesOwn.never rfl (pi_range1 (by rfl) T.z_range (pa_cons (pe_ix ix_seq (pe_lst (pa_cons pe_int (pa_cons pe_int (pa_cons pe_int (pa_cons pe_int (pa_cons pe_int (pa_cons pe_int (pa_cons pe_int (pa_cons pe_int (pa_cons pe_int (pa_cons pe_int (pa_cons pe_int (pa_cons pe_int (pa_cons pe_int (pa_cons pe_int (pa_cons pe_int (pa_cons pe_int pa_nil))))))))))))))))) (pe_call (ok__law_take T) (hr.mono (by decide)) (by rfl) T.g__law_take T.F__law_take.kp (b__law_take T.F__law_take) .nil pass0 (pa_cons (pv 0) (pa_cons pe_int pa_nil))) (fun _ _ => rfl)) pa_nil)) (pg_name (i := 5) sc__law_table.nd rfl (.inl rfl) (.inr rfl))
      (pss_one (ps_expr (pe_bm PySem.F.plainAttrs_list PySem.F.slot_list_append PySem.F.type_list_append mt_append (pv 9) (pa_cons (pe_call (ok__law_move T) (hr.mono (by decide)) (by rfl) T.g__law_move T.F__law_move.kp (b__law_move T.F__law_move) .nil pass0 (pa_cons (pv 0) (pa_cons (pv 5) (pa_cons (pv 1) (pa_cons (pv 2) (pa_cons (pv 3) (pa_cons (pv 6) (pa_cons (pv 7) pa_nil)))))))) pa_nil)))))
      (pss_cons (ps_set (i := 10) sc__law_table.nd rfl (.inl rfl) (pe_call (ok__law_take T) (hr.mono (by decide)) (by rfl) T.g__law_take T.F__law_take.kp (b__law_take T.F__law_take) .nil pass0 (pa_cons (pv 0) (pa_cons (pe_callB (call_min2 rfl) (by rfl) T.z_min (by decide +kernel) (pa_cons (pv 3) (pa_cons pe_int pa_nil))) pa_nil))))
      (pss_cons (ps_if (PW.pt (pw_and (pt_cmpR (op_neD hr.units) (pv 9) (pe_lst pa_nil) (nomark _)) (pw_and1 (pt_cmpR op_gtA (pe_call (ok__law_take T) (hr.mono (by decide)) (by rfl) T.g__law_take T.F__law_take.kp (b__law_take T.F__law_take) .nil pass0 (pa_cons (pv 0) (pa_cons pe_int pa_nil))) pe_int (nomark _)))))
      (pss_one (ps_set (i := 10) sc__law_table.nd rfl (.inl rfl) (pe_ix ix_seq (pe_ix ix_seq (pv 9) (pe_call (ok__law_take T) (hr.mono (by decide)) (by rfl) T.g__law_take T.F__law_take.kp (b__law_take T.F__law_take) .nil pass0 (pa_cons (pv 0) (pa_cons (pe_callB call_len (by rfl) T.z_len (by decide +kernel) (pa_cons (pv 9) pa_nil)) pa_nil))) (fun _ _ => rfl)) pe_int (fun _ _ => rfl))))
      pss_nil)
      (pss_one (ps_ret (pe_lst (pa_cons (pe_callTy (call_tupA (K := K) rfl) (by rfl) T.z_tuple (by decide +kernel) (pa_cons (pe_call (ok__law_names T) (hr.mono (by decide)) (by rfl) T.g__law_names T.F__law_names.kp (b__law_names T.F__law_names) .nil pass0 (pa_cons (pv 0) (pa_cons (pv 1) pa_nil))) pa_nil)) (pa_cons (pe_callTy (call_tupA (K := K) rfl) (by rfl) T.z_tuple (by decide +kernel) (pa_cons (pv 8) pa_nil)) (pa_cons (pe_callTy (call_tupA (K := K) rfl) (by rfl) T.z_tuple (by decide +kernel) (pa_cons (pv 9) pa_nil)) (pa_cons (pv 10) (pa_cons (pe_callTy (call_tupA (K := K) rfl) (by rfl) T.z_tuple (by decide +kernel) (pa_cons (pe_callB cr_sortedS (by rfl) T.z_sorted (by decide +kernel) (pa_cons (pv 7) pa_nil)) pa_nil)) (pa_cons (pv 2) pa_nil)))))))))))))))))))))), ?_⟩)
  refine go_fn (L := ["box", "clocks", "scale", "count", "names", "k", "labels", "rush", "places", "moves", "first", "name"]) h (fun b i hp hX => ?_)
  try dsimp only [cxOf, L2H.cxH, L2.Cx.nox, L2.Cx.wish]
  have kLET := cLET T
  have kNMC := cNMC T
  have kLON := cLON T
  have kSIG := T.w_SIGNS
  have kSTA := T.w_STAY_SIGNS
  have kSID := T.w_SIDES
  
  obtain ⟨x, rfl⟩ : ∃ x : Bx, x = i := ⟨i, rfl⟩
  show GO K b _ ⟨[some (.o 0), none, none, none, none, none, none, none, none, none, none, none], [bxA x, bxB x]⟩ _
  refine go_sAsg (ev_op (ev_lst ?_))
  repeat walk_at "z4"
  refine ev_tk (E := fun _ => E0) ?_
  repeat walk_at "z4"
  refine ⟨x, 16, _, _, rfl, rfl, by decide, fun p y0 p0 p1 => ?_⟩
  have p1 := p1 (by decide)
  
  obtain ⟨n', hn, n0, n8⟩ := at_lit [2, 1, 2, 0, 2, 3, 1, 2, 2, 1, 3, 2, 1, 2, 2, 8] 0 8 (by decide) p0 p1
  refine v2_ixL (ds := inL [2, 1, 2, 0, 2, 3, 1, 2, 2, 1, 3, 2, 1, 2, 2, 8]) hn ?_
  obtain ⟨n, rfl⟩ : ∃ j : Nat, n' = j := ⟨n'.toNat, by omega⟩
  refine gt_name ?_
  refine go_sAsg (ev_op (ev_lst ?_))
  repeat walk_at "z4"
  refine ev_tk (E := fun _ => E0) ?_
  repeat walk_at "z4"
  refine ⟨y0, 8, _, _, rfl, rfl, by decide, fun q y1 q0 q1 => ?_⟩
  have q1 := q1 (by decide)
  
  obtain ⟨sc, hsc, sc0, _⟩ := at_lit [1, 1, 1, 1, 1, 1, 10 ^ (9 : Int).toNat, 10 ^ (30 : Int).toNat] 0 (10 ^ 30) (by decide) q0 q1
  refine v2_ixL (ds := inL [1, 1, 1, 1, 1, 1, 10 ^ (9 : Int).toNat, 10 ^ (30 : Int).toNat]) hsc ?_
  refine gt_name ?_
  repeat walk_at "z4"
  refine ev_tk (E := fun _ => E0) ?_
  repeat walk_at "z4"
  refine ⟨y1, 4, _, _, rfl, rfl, by decide, fun c y2 c0 c1 => ?_⟩
  have c1 := c1 (by decide)
  
  obtain ⟨cn, hcn⟩ : ∃ cn : Nat, 1 + c = cn := ⟨(1 + c).toNat, by omega⟩
  refine v2_addI ?_
  rw [hcn]
  refine gt_name ?_
  refine go_sAsg ?_
  refine ev_box (E := fun _ => E0) ?_
  repeat walk_at "z4"
  
  refine ⟨(y2, cn), y2, _, _, _, rfl, rfl, rfl, rfl, rfl, (by omega : cn ≤ 8), fun r os' hr => ?_, fun _ _ h => h⟩
  obtain ⟨ns, y3, rfl, rfl, hl, hnd, hnw⟩ := hr
  refine ⟨y3, rfl, ?_⟩
  refine gt_name ?_
  refine go_mid (fun s => ∃ (y : Bx) (ns : List Str) (xk : Option Dw.A), 1 ≤ ns.length ∧ ns.length ≤ 200 ∧ ns.Nodup ∧ (∀ w, w ∈ ns → Nw 198 w) ∧ (s = ⟨[some (.o 0), some (.d (.int (n : Nat))), some (.d (.int sc)), some (.d (.int (ns.length : Nat))), some (.d (.list (ns.map .str))), xk, none, none, none, none, none, none], [bxA y, bxB y]⟩ ∨ s = ⟨[some (.o 0), some (.d (.int (n : Nat))), some (.d (.int sc)), some (.d (.int (ns.length : Nat))), some (.d (.list (ns.map .str))), xk, none, none, none, none, none, none], [bxA y, bxB y, .dead]⟩)) ?_ ?_
  · repeat walk_at "z4"
    refine ev_tk (E := fun _ => E0) ?_
    repeat walk_at "z4"
    refine ⟨y3, 32, _, _, rfl, rfl, by decide, fun p y4 p0 p1 => ?_⟩
    have p1 := p1 (by decide)
  
    repeat walk_at "z4"
  
    refine ⟨fun z => ?_, fun z => ?_⟩
    · repeat walk_at "z4"
  
      refine ev_dat (ev_lc (tg_name (.head _)) mg_name (ei_r1 (ea_cons (ev_var rfl (ea_nil ⟨200, rfl, by decide, by decide, ?_⟩)))))
      refine ⟨fun j js s => js = ((List.range j).map pkS).map .str ∧ s = ⟨[some (.o 0), some (.d (.int (n : Nat))), some (.d (.int sc)), some (.d (.int 200)), some (.d (.list (ns.map .str))), none, none, none, none, none, none, none], [bxA y4, bxB y4, .lst js]⟩, ⟨rfl, rfl⟩, ?_, ?_, ?_⟩
      · rintro j js s3 _ ⟨_, rfl⟩
        exact ⟨trivial, rfl⟩
      · rintro j v js s3 hx ⟨rfl, rfl⟩
        obtain ⟨hj, rfl⟩ := rngD_get hx
        have hj : j < 200 := hj
        have hpk := (pk_nw (List.mem_map_of_mem (f := pkS) (List.mem_range.mpr hj))).len
        rw [Int.zero_add]
        refine gt_name ?_
        refine fun σ H tv ta Hd ps R Q kk => kk true H _ Hd ps ⟨fun _ => ?_, fun h => (nomatch h)⟩ R
        repeat walk_at "z1"
  
        refine vc_strI (by have := Nat.log2_le_self j; rw [Int.natAbs_natCast]; omega) ?_
        refine v2_addT (Nat.le_trans (show _ ≤ 1000 by rw [show pkS j = ("p" : Str) ++ (toString ((j : Int)) : Str) from rfl, app_len] at hpk; omega) (by decide)) ?_
        refine ⟨.str (pkS j), rfl, rfl, Nat.lt_of_le_of_lt (show _ ≤ 1000 by rw [List.length_map, List.length_map, List.length_range]; omega) (by decide), ?_, rfl⟩
        rw [List.range_succ, List.map_append, List.map_append]
        rfl
      rintro js s3 ⟨rfl, rfl⟩
      rw [rngD_len]
      refine ⟨2, _, rfl, rfl, ?_⟩
      refine gt_name ?_
      have e : (((List.range 200).map pkS).length : Int) = 200 := by rw [List.length_map, List.length_range]; rfl
      refine ⟨y4, (List.range 200).map pkS, none, by rw [List.length_map, List.length_range]; decide, by rw [List.length_map, List.length_range]; decide, pk_nd, fun w hw => pk_nw hw, .inr ?_⟩
      rw [e]
      rfl
    · refine go_next ?_
      refine ⟨y4, ns, none, by omega, by omega, hnd, hnw, .inl ?_⟩
      rw [hl]
      rfl
  clear hnw hnd hl y3 ns
  rintro s1 ⟨y, ns, xk, l1, l2, hnd, hnw, rfl | rfl⟩
  · refine go_sAsg ?_
    refine ev_box (E := fun _ => E0) ?_
    repeat walk_at "z4"
    
    refine ⟨(y, 3), y, _, _, _, rfl, rfl, rfl, rfl, rfl, (by decide : 3 ≤ 8), fun r os' hr => ?_, fun _ _ h => h⟩
    obtain ⟨ls, y1, rfl, rfl, ll, lnd, lnw⟩ := hr
    obtain ⟨la, lb, lc, rfl⟩ : ∃ a b c, ls = [a, b, c] := by
      match ls, ll with
      | [a, b, c], _ => exact ⟨a, b, c, rfl⟩
    have nab : la ≠ lb := fun e => (List.nodup_cons.mp lnd).1 (by rw [e]; exact List.mem_cons_self)
    have wa := lnw la (by simp)
    have wb := lnw lb (by simp)
    have wc := lnw lc (by simp)
    have lcl := wc.len
    refine ⟨y1, rfl, ?_⟩
    refine gt_name ?_
    refine go_sAsg ?_
    repeat (first | walk_at "z4" | (with_reducible refine ev_lst ?_) | (with_reducible refine vs_list (by with_unfolding_all exact rfl) ?_) | (with_reducible refine v2_ixL (by with_unfolding_all exact rfl) ?_))
    
    refine v2_addT (Nat.le_trans (show lc.length + 1 ≤ 1000 by omega) (by decide)) ?_
    repeat (first | walk_at "z4" | (with_reducible refine ev_lst ?_) | (with_reducible refine vs_list (by with_unfolding_all exact rfl) ?_) | (with_reducible refine v2_ixL (by with_unfolding_all exact rfl) ?_))
    repeat walk_at "z4"
    refine ev_tk (E := fun _ => E0) ?_
    repeat walk_at "z4"
    refine ⟨y1, 8, _, _, rfl, rfl, by decide, fun p y2 p0 p1 => ?_⟩
    have p1 := p1 (by decide)
    
    obtain ⟨ru, hru, rl2, rnd, rnm⟩ := at_rush p0 p1 nab wa wb wc
    refine v2_ixL (ds := sssD (rushes la lb lc)) hru ?_
    refine gt_name ?_
    refine go_mid (fun s => ∃ (y : Bx) (ps : List Plc), ps.map (·.name) = ns ∧ (∀ p, p ∈ ps → (∀ c, c ∈ p.stays → Stay n c) ∧ p.stays.length ≤ 3) ∧ s = ⟨[some (.o 0), some (.d (.int (n : Nat))), some (.d (.int sc)), some (.d (.int (ns.length : Nat))), some (.d (.list (ns.map .str))), xk, some (.d (.list ([la, lb, lc].map .str))), some (.d (.list (ru.map .str))), some (.o 2), none, none, none], [bxA y, bxB y, .lst (ps.map plcD)]⟩) ?_ ?_
    · refine go_asg (ev_lc (tg_name (.head _)) mg_name (ei_anyL (ei_list (ev_var rfl ⟨ns.map .str, fun _ => True, .inl rfl, trivial, ?_⟩))))
      refine ⟨fun j js s => ∃ (y : Bx) (ps : List Plc), ps.map (·.name) = ns.take j ∧ (∀ p, p ∈ ps → (∀ c, c ∈ p.stays → Stay n c) ∧ p.stays.length ≤ 3) ∧ js = ps.map plcD ∧ s = ⟨[some (.o 0), some (.d (.int (n : Nat))), some (.d (.int sc)), some (.d (.int (ns.length : Nat))), some (.d (.list (ns.map .str))), xk, some (.d (.list ([la, lb, lc].map .str))), some (.d (.list (ru.map .str))), none, none, none, none], [bxA y, bxB y, .lst (ps.map plcD)]⟩, ⟨y2, [], rfl, (fun p h => nomatch h), rfl, rfl⟩, ?_, ?_, ?_⟩
      · rintro j js s3 _ ⟨y, ps, _, _, rfl, rfl⟩
        exact ⟨trivial, rfl⟩
      · rintro j v js s3 hx ⟨y, ps, hps, hpo, rfl, rfl⟩
        obtain ⟨w, hw, rfl⟩ := map_get hx
        have hjl := (List.getElem?_eq_some_iff.mp hw).1
        have hpl : ps.length = j := by have := congrArg List.length hps; rw [List.length_map, List.length_take] at this; omega
        refine gt_name ?_
        refine fun σ H tv ta Hd pz R Q kk => kk true H _ Hd pz ⟨fun _ => ?_, fun h => (nomatch h)⟩ R
        repeat walk_at "z1"
    
        refine ev_box (E := fun _ => E0) ?_
        repeat walk_at "z1"
    
        refine ⟨(y, n, sc), y, _, _, _, rfl, rfl, rfl, rfl, rfl, ⟨by omega, sc0⟩, fun r os' hr => ?_, fun _ _ h => h⟩
        obtain ⟨l, y3, rfl, rfl, hl, hst⟩ := hr
        refine ⟨y3, rfl, ?_⟩
        dsimp only [aft]
        repeat walk_at "z1"
        refine ev_tk (E := fun _ => E0) ?_
        repeat walk_at "z1"
        refine ⟨y3, 4, _, _, rfl, rfl, by decide, fun p y4 p0 p1 => ?_⟩
        have p1 := p1 (by decide)
    
        repeat walk_at "z1"
    
        refine ⟨rfl, Nat.lt_of_le_of_lt (show _ ≤ 1000 by rw [List.length_map]; omega) (by decide), y4, ps ++ [⟨w, l, p == 0⟩], ?_, fun q hq => ?_, ?_, ?_⟩
        · rw [List.map_append, hps, take_snoc' hw]; rfl
        · rcases List.mem_append.mp hq with h | h
          · exact hpo q h
          · rw [List.mem_singleton.mp h]; exact ⟨hst, hl⟩
        · rw [List.map_append]; rfl
        · rw [List.map_append]; rfl
      rintro js s3 ⟨y, ps, hps, hpo, rfl, rfl⟩
      rw [List.length_map, List.take_length] at hps
      refine gt_name ?_
      exact ⟨y, ps, hps, hpo, rfl⟩
    clear y1
    rintro s1 ⟨y1, ps, hps, hpo, rfl⟩
    have hpl : ps.length = ns.length := by rw [← hps, List.length_map]
    refine go_sAsg (ev_lstO (ea_nil ⟨[], rfl, rfl, gt_name ?_⟩))
    refine go_mid (fun s => ∃ (y : Bx) (ms : List Mov) (xk : Option Dw.A), ms.length ≤ 30 ∧ (∀ m, m ∈ ms → MovOk ns.length n m ∧ (m.label ∈ ru → m.guard = []) ∧ m.guard.length ≤ 3) ∧ s = ⟨[some (.o 0), some (.d (.int (n : Nat))), some (.d (.int sc)), some (.d (.int (ns.length : Nat))), some (.d (.list (ns.map .str))), xk, some (.d (.list ([la, lb, lc].map .str))), some (.d (.list (ru.map .str))), some (.o 2), some (.o 3), none, none], [bxA y, bxB y, .lst (ps.map plcD), .lst (ms.map movD)]⟩) ?_ ?_
    · refine go_for (ei_r1 (ea_cons (ev_op (ev_lst ?_))))
      repeat walk_at "z4"
      refine ev_tk (E := fun _ => E0) ?_
      repeat walk_at "z4"
      refine ⟨y1, 16, _, _, rfl, rfl, by decide, fun p y2 p0 p1 => ?_⟩
      have p1 := p1 (by decide)
    
      obtain ⟨r, hr, r0, r1⟩ := at_lit [1, 2, 3, 4, 5, 6, 7, 4, 5, 6, 7, 5, 3, 6, 0, 30] 0 30 (by decide) p0 p1
      refine v2_ixL (ds := inL [1, 2, 3, 4, 5, 6, 7, 4, 5, 6, 7, 5, 3, 6, 0, 30]) hr ?_
      refine ea_nil ⟨r, rfl, by omega, by omega, ?_⟩
      refine ⟨fun j s => ∃ (y : Bx) (ms : List Mov) (xk : Option Dw.A), ms.length = j ∧ (∀ m, m ∈ ms → MovOk ns.length n m ∧ (m.label ∈ ru → m.guard = []) ∧ m.guard.length ≤ 3) ∧ s = ⟨[some (.o 0), some (.d (.int (n : Nat))), some (.d (.int sc)), some (.d (.int (ns.length : Nat))), some (.d (.list (ns.map .str))), xk, some (.d (.list ([la, lb, lc].map .str))), some (.d (.list (ru.map .str))), some (.o 2), some (.o 3), none, none], [bxA y, bxB y, .lst (ps.map plcD), .lst (ms.map movD)]⟩, ⟨y2, [], xk, rfl, (fun p h => nomatch h), rfl⟩, fun _ _ _ _ => trivial, ?_, ?_⟩
      · rintro j v s2 hx ⟨y, ms, xk, hj, hms, rfl⟩
        obtain ⟨hjr, rfl⟩ := rngD_get hx
        rw [Int.zero_add]
        refine gt_name ?_
        refine go_drop (ev_bmL (ev_var (a := .o 3) rfl ⟨⟨3, _, rfl, rfl⟩, ?_⟩))
        refine ea_cons ?_
        refine ev_box (E := fun _ => E0) ?_
        repeat walk_at "z4"
    
        refine ⟨(y, j, n, sc, ns.length, [la, lb, lc], ru), y, _, _, _, rfl, rfl, rfl, rfl, rfl, ⟨by omega, sc0, ⟨by omega, by omega⟩, rfl, fun w hw => nw_nm (nw_up (lnw w hw) (by decide))⟩, fun r os' hr => ?_, fun _ _ h => h⟩
        obtain ⟨mv, y3, rfl, rfl, h1, h2, h3⟩ := hr
        refine ⟨y3, rfl, ?_⟩
        refine ea_nil ?_
        refine vm_append (n := 3) rfl (Nat.lt_of_le_of_lt (show _ ≤ 1000 by rw [List.length_map]; omega) (by decide)) ?_
        refine ⟨y3, ms ++ [mv], _, by rw [List.length_append, hj]; rfl, fun q hq => ?_, by rw [List.map_append]; rfl⟩
        rcases List.mem_append.mp hq with h | h
        · exact hms q h
        · rw [List.mem_singleton.mp h]; exact ⟨h1, h2, h3⟩
      rintro s2 ⟨y, ms, xk, hj, hms, rfl⟩
      rw [rngD_len] at hj
      exact ⟨y, ms, xk, by omega, hms, rfl⟩
    clear xk
    rintro s1 ⟨y, ms, xk, ml, hms, rfl⟩
    repeat walk_at "z4"
    
    refine ev_tk (E := fun _ => E0) ?_
    repeat walk_at "z4"
    
    refine vc_min2 ?_
    repeat walk_at "z4"
    
    refine ⟨y, _, _, _, rfl, rfl, by split <;> omega, fun f y3 f0 f1 => ?_⟩
    obtain ⟨fi, rfl⟩ : ∃ j : Nat, f = j := ⟨f.toNat, by omega⟩
    have hfi : fi < ns.length := by
      have := f1 (by split <;> omega)
      split at this <;> omega
    refine gt_name ?_
    clear f0 f1
    refine go_mid (fun s => ∃ (y : Bx) (fi : Nat), fi < ns.length ∧ s = ⟨[some (.o 0), some (.d (.int (n : Nat))), some (.d (.int sc)), some (.d (.int (ns.length : Nat))), some (.d (.list (ns.map .str))), xk, some (.d (.list ([la, lb, lc].map .str))), some (.d (.list (ru.map .str))), some (.o 2), some (.o 3), some (.d (.int (fi : Nat))), none], [bxA y, bxB y, .lst (ps.map plcD), .lst (ms.map movD)]⟩) ?_ ?_
    · repeat walk_at "z4"
    
      refine ev_lst ?_
      repeat walk_at "z4"
    
      refine v2_neE (xs := ms.map movD) (k := 3) (fun z hz => by obtain ⟨m, hm, rfl⟩ := List.mem_map.mp hz; exact shp_mov (hms m hm).1) (by decide) ⟨_, rfl, rfl⟩ rfl ?_
      repeat walk_at "z4"
    
      refine ⟨fun z => ?_, fun z => ?_⟩
      · have mpos : 0 < ms.length := by
          cases ms with
          | nil => cases z
          | cons a l => exact Nat.succ_pos _
        repeat walk_at "z4"
        refine ev_tk (E := fun _ => E0) ?_
        repeat walk_at "z4"
        refine ⟨y3, 4, _, _, rfl, rfl, by decide, fun p y4 p0 p1 => ?_⟩
        have p1 := p1 (by decide)
    
        repeat walk_at "z4"
    
        refine ⟨fun z => ?_, fun z => ?_⟩
        · repeat walk_at "z4"
    
          refine ev_tk (E := fun _ => E0) ?_
          repeat walk_at "z4"
    
          refine vc_lenV (ds := ms.map movD) ⟨_, rfl, rfl⟩ ?_
          rw [List.length_map]
          repeat walk_at "z4"
    
          refine ⟨y4, _, _, _, rfl, rfl, by omega, fun g y5 g0 g1 => ?_⟩
          have g1 := g1 (by omega)
          obtain ⟨⟨sr, tg, lb', gd, rs, sd⟩, hm⟩ : ∃ x, ms[g.toNat]? = some x := ⟨_, List.getElem?_eq_getElem (by omega)⟩
          have hix : atI (ms.map movD) g = some (.tuple [.int sr, .int tg, .str lb', cndsD gd, .tuple (inN' rs), .str sd]) := at_map g0 hm
          repeat walk_at "z4"
    
          exact ⟨y5, sr, (hms _ (List.mem_of_getElem? hm)).1.src, rfl⟩
        · refine go_next ?_
          exact ⟨y4, fi, hfi, rfl⟩
      · repeat walk_at "z4"
    
        exact ⟨y3, fi, hfi, rfl⟩
    clear hfi fi y3
    rintro s1 ⟨y3, fi, hfi, rfl⟩
    refine go_ret (ev_lst ?_)
    repeat walk_at "z4"
    
    refine ev_box (E := fun _ => E0) ?_
    repeat walk_at "z4"
    
    refine ⟨(y3, n), y3, _, _, _, rfl, rfl, rfl, rfl, rfl, (by omega : n ≤ 8), fun r os' hr => ?_, fun _ _ h => h⟩
    obtain ⟨cl, y4, rfl, rfl, cll, clnd, clnw⟩ := hr
    refine ⟨y4, rfl, ?_⟩
    dsimp only [aft]
    repeat walk_at "z4"
    
    refine vc_tupL (ds := cl.map .str) rfl ?_
    repeat walk_at "z4"
    
    refine vc_tupL (ds := ps.map plcD) ⟨_, rfl, rfl⟩ ?_
    repeat walk_at "z4"
    
    refine vc_tupL (ds := ms.map movD) ⟨_, rfl, rfl⟩ ?_
    repeat walk_at "z4"
    
    refine vc_sortedS (ns := ru) rfl (by omega) fun ys hp hs => ?_
    repeat walk_at "z4"
    
    refine vc_tupL (ds := ys.map .str) ⟨_, rfl, rfl⟩ ?_
    repeat walk_at "z4"
    
    have yl : ys.length ≤ 2 := by rw [hp.length_eq]; exact rl2
    refine ⟨⟨cl, ps, ms, fi, ys⟩, sc, y4, rfl, rfl, ?_, sc0⟩
    exact {
      cl := fun w hw => nw_nm (nw_up (clnw w hw) (by decide))
      cn := clnd
      c8 := by show cl.length ≤ 8; omega
      p0 := by show 0 < ps.length; omega
      pl := fun p hpm => ⟨nw_nm (nw_up (hnw p.name (by rw [← hps]; exact List.mem_map_of_mem hpm)) (by decide)), by rw [cll]; exact (hpo p hpm).1⟩
      pn := by show (ps.map (·.name)).Nodup; rw [hps]; exact hnd
      p2 := by show ps.length ≤ 200; omega
      ps := fun p hpm => Nat.le_trans (hpo p hpm).2 (by decide)
      mv := fun m hm => by show MovOk ps.length cl.length m; rw [hpl, cll]; exact (hms m hm).1
      m1 := by show ms.length ≤ 1000; omega
      mg := fun m hm => Nat.le_trans (hms m hm).2.2 (by decide)
      st := by show fi < ps.length; omega
      rn := fun w hw => rnm w (hp.mem_iff.mp hw)
      rs := pw_sorted yl (hp.nodup_iff.mpr rnd) hs
      rg := fun m hm hg hr => by rw [(hms m hm).2.1 (hp.mem_iff.mp hr)] at hg; exact absurd hg (by decide)
      r1 := by show ys.length ≤ 1000; omega }
  · refine go_sAsg ?_
    refine ev_box (E := fun _ => E0) ?_
    repeat walk_at "z4"
    
    refine ⟨(y, 3), y, _, _, _, rfl, rfl, rfl, rfl, rfl, (by decide : 3 ≤ 8), fun r os' hr => ?_, fun _ _ h => h⟩
    obtain ⟨ls, y1, rfl, rfl, ll, lnd, lnw⟩ := hr
    obtain ⟨la, lb, lc, rfl⟩ : ∃ a b c, ls = [a, b, c] := by
      match ls, ll with
      | [a, b, c], _ => exact ⟨a, b, c, rfl⟩
    have nab : la ≠ lb := fun e => (List.nodup_cons.mp lnd).1 (by rw [e]; exact List.mem_cons_self)
    have wa := lnw la (by simp)
    have wb := lnw lb (by simp)
    have wc := lnw lc (by simp)
    have lcl := wc.len
    refine ⟨y1, rfl, ?_⟩
    refine gt_name ?_
    refine go_sAsg ?_
    repeat (first | walk_at "z4" | (with_reducible refine ev_lst ?_) | (with_reducible refine vs_list (by with_unfolding_all exact rfl) ?_) | (with_reducible refine v2_ixL (by with_unfolding_all exact rfl) ?_))
    
    refine v2_addT (Nat.le_trans (show lc.length + 1 ≤ 1000 by omega) (by decide)) ?_
    repeat (first | walk_at "z4" | (with_reducible refine ev_lst ?_) | (with_reducible refine vs_list (by with_unfolding_all exact rfl) ?_) | (with_reducible refine v2_ixL (by with_unfolding_all exact rfl) ?_))
    repeat walk_at "z4"
    refine ev_tk (E := fun _ => E0) ?_
    repeat walk_at "z4"
    refine ⟨y1, 8, _, _, rfl, rfl, by decide, fun p y2 p0 p1 => ?_⟩
    have p1 := p1 (by decide)
    
    obtain ⟨ru, hru, rl2, rnd, rnm⟩ := at_rush p0 p1 nab wa wb wc
    refine v2_ixL (ds := sssD (rushes la lb lc)) hru ?_
    refine gt_name ?_
    refine go_mid (fun s => ∃ (y : Bx) (ps : List Plc), ps.map (·.name) = ns ∧ (∀ p, p ∈ ps → (∀ c, c ∈ p.stays → Stay n c) ∧ p.stays.length ≤ 3) ∧ s = ⟨[some (.o 0), some (.d (.int (n : Nat))), some (.d (.int sc)), some (.d (.int (ns.length : Nat))), some (.d (.list (ns.map .str))), xk, some (.d (.list ([la, lb, lc].map .str))), some (.d (.list (ru.map .str))), some (.o 3), none, none, none], [bxA y, bxB y, .dead, .lst (ps.map plcD)]⟩) ?_ ?_
    · refine go_asg (ev_lc (tg_name (.head _)) mg_name (ei_anyL (ei_list (ev_var rfl ⟨ns.map .str, fun _ => True, .inl rfl, trivial, ?_⟩))))
      refine ⟨fun j js s => ∃ (y : Bx) (ps : List Plc), ps.map (·.name) = ns.take j ∧ (∀ p, p ∈ ps → (∀ c, c ∈ p.stays → Stay n c) ∧ p.stays.length ≤ 3) ∧ js = ps.map plcD ∧ s = ⟨[some (.o 0), some (.d (.int (n : Nat))), some (.d (.int sc)), some (.d (.int (ns.length : Nat))), some (.d (.list (ns.map .str))), xk, some (.d (.list ([la, lb, lc].map .str))), some (.d (.list (ru.map .str))), none, none, none, none], [bxA y, bxB y, .dead, .lst (ps.map plcD)]⟩, ⟨y2, [], rfl, (fun p h => nomatch h), rfl, rfl⟩, ?_, ?_, ?_⟩
      · rintro j js s3 _ ⟨y, ps, _, _, rfl, rfl⟩
        exact ⟨trivial, rfl⟩
      · rintro j v js s3 hx ⟨y, ps, hps, hpo, rfl, rfl⟩
        obtain ⟨w, hw, rfl⟩ := map_get hx
        have hjl := (List.getElem?_eq_some_iff.mp hw).1
        have hpl : ps.length = j := by have := congrArg List.length hps; rw [List.length_map, List.length_take] at this; omega
        refine gt_name ?_
        refine fun σ H tv ta Hd pz R Q kk => kk true H _ Hd pz ⟨fun _ => ?_, fun h => (nomatch h)⟩ R
        repeat walk_at "z1"
    
        refine ev_box (E := fun _ => E0) ?_
        repeat walk_at "z1"
    
        refine ⟨(y, n, sc), y, _, _, _, rfl, rfl, rfl, rfl, rfl, ⟨by omega, sc0⟩, fun r os' hr => ?_, fun _ _ h => h⟩
        obtain ⟨l, y3, rfl, rfl, hl, hst⟩ := hr
        refine ⟨y3, rfl, ?_⟩
        dsimp only [aft]
        repeat walk_at "z1"
        refine ev_tk (E := fun _ => E0) ?_
        repeat walk_at "z1"
        refine ⟨y3, 4, _, _, rfl, rfl, by decide, fun p y4 p0 p1 => ?_⟩
        have p1 := p1 (by decide)
    
        repeat walk_at "z1"
    
        refine ⟨rfl, Nat.lt_of_le_of_lt (show _ ≤ 1000 by rw [List.length_map]; omega) (by decide), y4, ps ++ [⟨w, l, p == 0⟩], ?_, fun q hq => ?_, ?_, ?_⟩
        · rw [List.map_append, hps, take_snoc' hw]; rfl
        · rcases List.mem_append.mp hq with h | h
          · exact hpo q h
          · rw [List.mem_singleton.mp h]; exact ⟨hst, hl⟩
        · rw [List.map_append]; rfl
        · rw [List.map_append]; rfl
      rintro js s3 ⟨y, ps, hps, hpo, rfl, rfl⟩
      rw [List.length_map, List.take_length] at hps
      refine gt_name ?_
      exact ⟨y, ps, hps, hpo, rfl⟩
    clear y1
    rintro s1 ⟨y1, ps, hps, hpo, rfl⟩
    have hpl : ps.length = ns.length := by rw [← hps, List.length_map]
    refine go_sAsg (ev_lstO (ea_nil ⟨[], rfl, rfl, gt_name ?_⟩))
    refine go_mid (fun s => ∃ (y : Bx) (ms : List Mov) (xk : Option Dw.A), ms.length ≤ 30 ∧ (∀ m, m ∈ ms → MovOk ns.length n m ∧ (m.label ∈ ru → m.guard = []) ∧ m.guard.length ≤ 3) ∧ s = ⟨[some (.o 0), some (.d (.int (n : Nat))), some (.d (.int sc)), some (.d (.int (ns.length : Nat))), some (.d (.list (ns.map .str))), xk, some (.d (.list ([la, lb, lc].map .str))), some (.d (.list (ru.map .str))), some (.o 3), some (.o 4), none, none], [bxA y, bxB y, .dead, .lst (ps.map plcD), .lst (ms.map movD)]⟩) ?_ ?_
    · refine go_for (ei_r1 (ea_cons (ev_op (ev_lst ?_))))
      repeat walk_at "z4"
      refine ev_tk (E := fun _ => E0) ?_
      repeat walk_at "z4"
      refine ⟨y1, 16, _, _, rfl, rfl, by decide, fun p y2 p0 p1 => ?_⟩
      have p1 := p1 (by decide)
    
      obtain ⟨r, hr, r0, r1⟩ := at_lit [1, 2, 3, 4, 5, 6, 7, 4, 5, 6, 7, 5, 3, 6, 0, 30] 0 30 (by decide) p0 p1
      refine v2_ixL (ds := inL [1, 2, 3, 4, 5, 6, 7, 4, 5, 6, 7, 5, 3, 6, 0, 30]) hr ?_
      refine ea_nil ⟨r, rfl, by omega, by omega, ?_⟩
      refine ⟨fun j s => ∃ (y : Bx) (ms : List Mov) (xk : Option Dw.A), ms.length = j ∧ (∀ m, m ∈ ms → MovOk ns.length n m ∧ (m.label ∈ ru → m.guard = []) ∧ m.guard.length ≤ 3) ∧ s = ⟨[some (.o 0), some (.d (.int (n : Nat))), some (.d (.int sc)), some (.d (.int (ns.length : Nat))), some (.d (.list (ns.map .str))), xk, some (.d (.list ([la, lb, lc].map .str))), some (.d (.list (ru.map .str))), some (.o 3), some (.o 4), none, none], [bxA y, bxB y, .dead, .lst (ps.map plcD), .lst (ms.map movD)]⟩, ⟨y2, [], xk, rfl, (fun p h => nomatch h), rfl⟩, fun _ _ _ _ => trivial, ?_, ?_⟩
      · rintro j v s2 hx ⟨y, ms, xk, hj, hms, rfl⟩
        obtain ⟨hjr, rfl⟩ := rngD_get hx
        rw [Int.zero_add]
        refine gt_name ?_
        refine go_drop (ev_bmL (ev_var (a := .o 4) rfl ⟨⟨4, _, rfl, rfl⟩, ?_⟩))
        refine ea_cons ?_
        refine ev_box (E := fun _ => E0) ?_
        repeat walk_at "z4"
    
        refine ⟨(y, j, n, sc, ns.length, [la, lb, lc], ru), y, _, _, _, rfl, rfl, rfl, rfl, rfl, ⟨by omega, sc0, ⟨by omega, by omega⟩, rfl, fun w hw => nw_nm (nw_up (lnw w hw) (by decide))⟩, fun r os' hr => ?_, fun _ _ h => h⟩
        obtain ⟨mv, y3, rfl, rfl, h1, h2, h3⟩ := hr
        refine ⟨y3, rfl, ?_⟩
        refine ea_nil ?_
        refine vm_append (n := 4) rfl (Nat.lt_of_le_of_lt (show _ ≤ 1000 by rw [List.length_map]; omega) (by decide)) ?_
        refine ⟨y3, ms ++ [mv], _, by rw [List.length_append, hj]; rfl, fun q hq => ?_, by rw [List.map_append]; rfl⟩
        rcases List.mem_append.mp hq with h | h
        · exact hms q h
        · rw [List.mem_singleton.mp h]; exact ⟨h1, h2, h3⟩
      rintro s2 ⟨y, ms, xk, hj, hms, rfl⟩
      rw [rngD_len] at hj
      exact ⟨y, ms, xk, by omega, hms, rfl⟩
    clear xk
    rintro s1 ⟨y, ms, xk, ml, hms, rfl⟩
    repeat walk_at "z4"
    
    refine ev_tk (E := fun _ => E0) ?_
    repeat walk_at "z4"
    
    refine vc_min2 ?_
    repeat walk_at "z4"
    
    refine ⟨y, _, _, _, rfl, rfl, by split <;> omega, fun f y3 f0 f1 => ?_⟩
    obtain ⟨fi, rfl⟩ : ∃ j : Nat, f = j := ⟨f.toNat, by omega⟩
    have hfi : fi < ns.length := by
      have := f1 (by split <;> omega)
      split at this <;> omega
    refine gt_name ?_
    clear f0 f1
    refine go_mid (fun s => ∃ (y : Bx) (fi : Nat), fi < ns.length ∧ s = ⟨[some (.o 0), some (.d (.int (n : Nat))), some (.d (.int sc)), some (.d (.int (ns.length : Nat))), some (.d (.list (ns.map .str))), xk, some (.d (.list ([la, lb, lc].map .str))), some (.d (.list (ru.map .str))), some (.o 3), some (.o 4), some (.d (.int (fi : Nat))), none], [bxA y, bxB y, .dead, .lst (ps.map plcD), .lst (ms.map movD)]⟩) ?_ ?_
    · repeat walk_at "z4"
    
      refine ev_lst ?_
      repeat walk_at "z4"
    
      refine v2_neE (xs := ms.map movD) (k := 3) (fun z hz => by obtain ⟨m, hm, rfl⟩ := List.mem_map.mp hz; exact shp_mov (hms m hm).1) (by decide) ⟨_, rfl, rfl⟩ rfl ?_
      repeat walk_at "z4"
    
      refine ⟨fun z => ?_, fun z => ?_⟩
      · have mpos : 0 < ms.length := by
          cases ms with
          | nil => cases z
          | cons a l => exact Nat.succ_pos _
        repeat walk_at "z4"
        refine ev_tk (E := fun _ => E0) ?_
        repeat walk_at "z4"
        refine ⟨y3, 4, _, _, rfl, rfl, by decide, fun p y4 p0 p1 => ?_⟩
        have p1 := p1 (by decide)
    
        repeat walk_at "z4"
    
        refine ⟨fun z => ?_, fun z => ?_⟩
        · repeat walk_at "z4"
    
          refine ev_tk (E := fun _ => E0) ?_
          repeat walk_at "z4"
    
          refine vc_lenV (ds := ms.map movD) ⟨_, rfl, rfl⟩ ?_
          rw [List.length_map]
          repeat walk_at "z4"
    
          refine ⟨y4, _, _, _, rfl, rfl, by omega, fun g y5 g0 g1 => ?_⟩
          have g1 := g1 (by omega)
          obtain ⟨⟨sr, tg, lb', gd, rs, sd⟩, hm⟩ : ∃ x, ms[g.toNat]? = some x := ⟨_, List.getElem?_eq_getElem (by omega)⟩
          have hix : atI (ms.map movD) g = some (.tuple [.int sr, .int tg, .str lb', cndsD gd, .tuple (inN' rs), .str sd]) := at_map g0 hm
          repeat walk_at "z4"
    
          exact ⟨y5, sr, (hms _ (List.mem_of_getElem? hm)).1.src, rfl⟩
        · refine go_next ?_
          exact ⟨y4, fi, hfi, rfl⟩
      · repeat walk_at "z4"
    
        exact ⟨y3, fi, hfi, rfl⟩
    clear hfi fi y3
    rintro s1 ⟨y3, fi, hfi, rfl⟩
    refine go_ret (ev_lst ?_)
    repeat walk_at "z4"
    
    refine ev_box (E := fun _ => E0) ?_
    repeat walk_at "z4"
    
    refine ⟨(y3, n), y3, _, _, _, rfl, rfl, rfl, rfl, rfl, (by omega : n ≤ 8), fun r os' hr => ?_, fun _ _ h => h⟩
    obtain ⟨cl, y4, rfl, rfl, cll, clnd, clnw⟩ := hr
    refine ⟨y4, rfl, ?_⟩
    dsimp only [aft]
    repeat walk_at "z4"
    
    refine vc_tupL (ds := cl.map .str) rfl ?_
    repeat walk_at "z4"
    
    refine vc_tupL (ds := ps.map plcD) ⟨_, rfl, rfl⟩ ?_
    repeat walk_at "z4"
    
    refine vc_tupL (ds := ms.map movD) ⟨_, rfl, rfl⟩ ?_
    repeat walk_at "z4"
    
    refine vc_sortedS (ns := ru) rfl (by omega) fun ys hp hs => ?_
    repeat walk_at "z4"
    
    refine vc_tupL (ds := ys.map .str) ⟨_, rfl, rfl⟩ ?_
    repeat walk_at "z4"
    
    have yl : ys.length ≤ 2 := by rw [hp.length_eq]; exact rl2
    refine ⟨⟨cl, ps, ms, fi, ys⟩, sc, y4, rfl, rfl, ?_, sc0⟩
    exact {
      cl := fun w hw => nw_nm (nw_up (clnw w hw) (by decide))
      cn := clnd
      c8 := by show cl.length ≤ 8; omega
      p0 := by show 0 < ps.length; omega
      pl := fun p hpm => ⟨nw_nm (nw_up (hnw p.name (by rw [← hps]; exact List.mem_map_of_mem hpm)) (by decide)), by rw [cll]; exact (hpo p hpm).1⟩
      pn := by show (ps.map (·.name)).Nodup; rw [hps]; exact hnd
      p2 := by show ps.length ≤ 200; omega
      ps := fun p hpm => Nat.le_trans (hpo p hpm).2 (by decide)
      mv := fun m hm => by show MovOk ps.length cl.length m; rw [hpl, cll]; exact (hms m hm).1
      m1 := by show ms.length ≤ 1000; omega
      mg := fun m hm => Nat.le_trans (hms m hm).2.2 (by decide)
      st := by show fi < ps.length; omega
      rn := fun w hw => rnm w (hp.mem_iff.mp hw)
      rs := pw_sorted yl (hp.nodup_iff.mpr rnd) hs
      rg := fun m hm hg hr => by rw [(hms m hm).2.1 (hp.mem_iff.mp hr)] at hg; exact absurd hg (by decide)
      r1 := by show ys.length ≤ 1000; omega }
end
local macro_rules | `(tactic| walk_at "z1") => `(tactic| (first
  | (with_reducible refine v2_ixL (by with_unfolding_all exact rfl) ?_)))
def sp__law_pressing : Spc where
  I := Mch × Int × Nat
  args := fun (m, sc, k) => [.d (tabD m sc), .d (.int k)]
  cells := fun _ => []
  pre := fun (m, _, k) => k < m.places.length
  post := fun (m, _, k) r _ => r = .val (.bool (prsB m.places m.moves m.rush k))
section
variable {P : Program} {w : World} {K : PySem.W.Frag} {mg : Str → Option Value} {base : Heap}
theorem ok__law_pressing (T : Tx P K mg) : FnOk P w K mg base CX0 1 T.a__law_pressing T.d__law_pressing ["table", "place"] (SpB K sp__law_pressing) := by
  refine T.F__law_pressing.ok sc__law_pressing (fun vs H Q E h => spB_len h (fun _ => rfl)) (fun cdv A outer s H vs Q E hr h => ⟨_, PSs.nox ((pss_cons (ps_if (pt_truth (pe_ix ix_seq (pe_ix ix_seq (pe_ix ix_seq (pv 0) pe_int (fun _ _ => rfl)) (pv 1) (fun _ _ => rfl)) pe_int (fun _ _ => rfl)) (by intro _; rfl))
      (pss_one (ps_ret pe_bl))
      pss_nil)
      (pss_cons (ps_for PassesOwn.never rfl (pi_any (pe_ix ix_seq (pv 0) pe_int (fun _ _ => rfl))) (pg_name (i := 2) sc__law_pressing.nd rfl (.inl rfl) (.inr rfl))
      (pss_one (ps_if (PW.pt (pw_and (pt_cmpR (op_eqD hr.units) (pe_ix ix_seq (pv 2) pe_int (fun _ _ => rfl)) (pv 1) (nomark _)) (pw_and1 (pt_cmpR op_inA (pe_ix ix_seq (pv 2) pe_int (fun _ _ => rfl)) (pe_ix ix_seq (pv 0) pe_int (fun _ _ => rfl)) (by rfl)))))
      (pss_one (ps_ret pe_bl))
      pss_nil)))
      (pss_one (ps_ret pe_bl))))), ?_⟩)
  refine go_fn (L := ["table", "place", "move"]) h (fun b i hp hX => ?_)
  try dsimp only [cxOf, L2H.cxH, L2.Cx.nox, L2.Cx.wish]
  have kLET := cLET T
  have kNMC := cNMC T
  have kLON := cLON T
  have kSIG := T.w_SIGNS
  have kSTA := T.w_STAY_SIGNS
  have kSID := T.w_SIDES
  
  obtain ⟨m, sc, k⟩ := i
  have hk : k < m.places.length := hp
  obtain ⟨⟨pw, sts, pr⟩, hp2⟩ : ∃ x, m.places[k]? = some x := ⟨_, List.getElem?_eq_getElem hk⟩
  have hpix : atI (m.places.map plcD) (k : Int) = some (.tuple [.str pw, cndsD sts, .bool pr]) := atI_n (by rw [List.getElem?_map, hp2]; rfl)
  have hd := prs_def (ms := m.moves) (r := m.rush) hp2
  show GO K b _ ⟨[some (.d (.list [strsT m.clocks, plcsT m.places, movsT m.moves, .int m.start, strsT m.rush, .int sc])), some (.d (.int k)), none], []⟩ _
  repeat walk_at "z4"
  
  refine ⟨fun z => ?_, fun z => ?_⟩
  · repeat walk_at "z4"
  
    show Rv.val (.bool true) = Rv.val (.bool (prsB m.places m.moves m.rush k))
    have z : pr = true := z
    rw [hd, z]
    rfl
  have z : pr = false := z
  rw [z, Bool.false_or] at hd
  refine go_next ?_
  refine go_seq (go_for (ei_anyT (ei_tup ?_)))
  repeat walk_at "z4"
  
  refine ⟨fun j s => ∃ x, (m.moves.take j).any (hitB m.rush k) = false ∧ s = ⟨[some (.d (.list [strsT m.clocks, plcsT m.places, movsT m.moves, .int m.start, strsT m.rush, .int sc])), some (.d (.int k)), x], []⟩, ⟨none, rfl, rfl⟩, fun _ _ _ _ => trivial, ?_, ?_⟩
  · rintro j v s2 hx ⟨x, hall, rfl⟩
    obtain ⟨⟨sr, tg, lb, gd, rs, sd⟩, hm, rfl⟩ := map_get hx
    have fin : hitB m.rush k ⟨sr, tg, lb, gd, rs, sd⟩ = false → (m.moves.take (j + 1)).any (hitB m.rush k) = false := fun h => by rw [any_snoc hm, hall, h]; rfl
    show GT K b _ (.d (.tuple [.int sr, .int tg, .str lb, cndsD gd, .tuple (inN' rs), .str sd])) _ _
    refine gt_name ?_
    repeat walk_at "z4"
  
    refine ⟨fun z1 => ?_, fun z1 => ?_⟩
    · have z1 : sr = k := by have := of_decide_eq_true z1; omega
      repeat walk_at "z4"
  
      refine v2_inS (ns := m.rush) (.inr rfl) ?_
      repeat walk_at "z4"
  
      by_cases hin : lb ∈ m.rush
      · rw [decide_eq_true hin]
        repeat walk_at "z4"
  
        show Rv.val (.bool true) = Rv.val (.bool (prsB m.places m.moves m.rush k))
        rw [hd]
        have : m.moves.any (hitB m.rush k) = true := List.any_eq_true.mpr ⟨_, List.mem_of_getElem? hm, by show (decide (sr = k) && decide (lb ∈ m.rush)) = true; rw [decide_eq_true z1, decide_eq_true hin]; rfl⟩
        rw [this]
      · rw [decide_eq_false hin]
        repeat walk_at "z4"
  
        exact ⟨_, fin (by show (decide (sr = k) && decide (lb ∈ m.rush)) = false; rw [decide_eq_false hin, Bool.and_false]), rfl⟩
    · have z1 : sr ≠ k := by have := of_decide_eq_false z1; omega
      repeat walk_at "z4"
  
      exact ⟨_, fin (by show (decide (sr = k) && decide (lb ∈ m.rush)) = false; rw [decide_eq_false z1, Bool.false_and]), rfl⟩
  rintro s2 ⟨x, hall, rfl⟩
  rw [List.length_map, List.take_length] at hall
  dsimp only
  repeat walk_at "z4"
  
  show Rv.val (.bool false) = Rv.val (.bool (prsB m.places m.moves m.rush k))
  rw [hd, hall]
end
def sp__law_rows : Spc where
  I := List Gc × Int × List Int
  args := fun (cs, t, o) => [.d (gcsD cs), .d (.int t), .o 0]
  cells := fun (_, _, o) => [.lst (inL o)]
  pre := fun (cs, t, o) => (∀ c, c ∈ cs → grdB o.length c = true) ∧ cs.length ≤ 1000
  post := fun (cs, t, o) r os => r = .val (.list ((rowsL t o cs).map l4D)) ∧ os = [.lst (inL o)]
section
variable {P : Program} {w : World} {K : PySem.W.Frag} {mg : Str → Option Value} {base : Heap}
theorem ok__law_rows (T : Tx P K mg) : FnOk P w K mg base CX0 1 T.a__law_rows T.d__law_rows ["conditions", "k", "origin"] (SpB K sp__law_rows) := by
  refine T.F__law_rows.ok sc__law_rows (fun vs H Q E h => spB_len h (fun _ => rfl)) (fun cdv A outer s H vs Q E hr h => ⟨_, PSs.nox ((pss_cons (ps_set (i := 3) sc__law_rows.nd rfl (.inl rfl) (pe_lst pa_nil))
      (pss_cons (ps_for PassesOwn.never rfl (pi_any (pv 0)) (pg_name (i := 4) sc__law_rows.nd rfl (.inl rfl) (.inr rfl))
      (pss_cons (ps_set (i := 5) sc__law_rows.nd rfl (.inl rfl) (pe_ix ix_seq (pv 2) (pe_ix ix_seq (pv 4) pe_int (fun _ _ => rfl)) (fun _ _ => rfl)))
      (pss_cons (ps_if (pt_cmpR (op_eqD hr.units) (pe_ix ix_seq (pv 4) pe_int (fun _ _ => rfl)) pe_str (nomark _))
      (pss_one (ps_expr (pe_bm PySem.F.plainAttrs_list PySem.F.slot_list_append PySem.F.type_list_append mt_append (pv 3) (pa_cons (pe_tup (pa_cons (pv 1) (pa_cons (pv 5) (pa_cons (pe_ix ix_seq (pv 4) pe_int (fun _ _ => rfl)) (pa_cons pe_int pa_nil))))) pa_nil))))
      pss_nil)
      (pss_cons (ps_if (PW.pt (pw_or (pt_cmpR (op_eqD hr.units) (pe_ix ix_seq (pv 4) pe_int (fun _ _ => rfl)) pe_str (nomark _)) (pw_or1 (pt_cmpR (op_eqD hr.units) (pe_ix ix_seq (pv 4) pe_int (fun _ _ => rfl)) pe_str (nomark _)))))
      (pss_one (ps_expr (pe_bm PySem.F.plainAttrs_list PySem.F.slot_list_append PySem.F.type_list_append mt_append (pv 3) (pa_cons (pe_tup (pa_cons (pv 1) (pa_cons (pv 5) (pa_cons (pe_ix ix_seq (pv 4) pe_int (fun _ _ => rfl)) (pa_cons pe_int pa_nil))))) pa_nil))))
      pss_nil)
      (pss_cons (ps_if (PW.pt (pw_or (pt_cmpR (op_eqD hr.units) (pe_ix ix_seq (pv 4) pe_int (fun _ _ => rfl)) pe_str (nomark _)) (pw_or1 (pt_cmpR (op_eqD hr.units) (pe_ix ix_seq (pv 4) pe_int (fun _ _ => rfl)) pe_str (nomark _)))))
      (pss_one (ps_expr (pe_bm PySem.F.plainAttrs_list PySem.F.slot_list_append PySem.F.type_list_append mt_append (pv 3) (pa_cons (pe_tup (pa_cons (pv 5) (pa_cons (pv 1) (pa_cons (pe_un un_neg (pe_ix ix_seq (pv 4) pe_int (fun _ _ => rfl))) (pa_cons pe_int pa_nil))))) pa_nil))))
      pss_nil)
      (pss_one (ps_if (pt_cmpR (op_eqD hr.units) (pe_ix ix_seq (pv 4) pe_int (fun _ _ => rfl)) pe_str (nomark _))
      (pss_one (ps_expr (pe_bm PySem.F.plainAttrs_list PySem.F.slot_list_append PySem.F.type_list_append mt_append (pv 3) (pa_cons (pe_tup (pa_cons (pv 5) (pa_cons (pv 1) (pa_cons (pe_un un_neg (pe_ix ix_seq (pv 4) pe_int (fun _ _ => rfl))) (pa_cons pe_int pa_nil))))) pa_nil))))
      pss_nil)))))))
      (pss_one (ps_ret (pv 3)))))), ?_⟩)
  refine go_fn (L := ["conditions", "k", "origin", "limits", "row", "since"]) h (fun b i hp hX => ?_)
  try dsimp only [cxOf, L2H.cxH, L2.Cx.nox, L2.Cx.wish]
  have kLET := cLET T
  have kNMC := cNMC T
  have kLON := cLON T
  have kSIG := T.w_SIGNS
  have kSTA := T.w_STAY_SIGNS
  have kSID := T.w_SIDES
  
  obtain ⟨cs, t, o⟩ := i
  obtain ⟨h1, h2⟩ := hp
  have h2 : cs.length ≤ 1000 := h2
  show GO K b _ ⟨[some (.d (.tuple (cs.map gcD))), some (.d (.int t)), some (.o 0), none, none, none], [.lst (inL o)]⟩ _
  refine go_sAsg (ev_lstO (ea_nil ⟨[], rfl, rfl, gt_name ?_⟩))
  refine go_seq (go_for (ei_anyT (ei_tup (ev_var rfl ⟨cs.map gcD, rfl, ?_⟩))))
  refine ⟨fun i s => ∃ x4 x5, s = ⟨[some (.d (.tuple (cs.map gcD))), some (.d (.int t)), some (.o 0), some (.o 1), x4, x5], [.lst (inL o), .lst ((rowsL t o (cs.take i)).map l4D)]⟩, ⟨none, none, rfl⟩, fun _ _ _ _ => trivial, ?_, ?_⟩
  · rintro i v s2 hx ⟨x4, x5, rfl⟩
    obtain ⟨⟨k, sg, v⟩, hc, rfl⟩ := map_get hx
    have hg := h1 _ (List.mem_of_getElem? hc)
    have hs : sg ∈ sgns := grdB_sg hg
    obtain ⟨k0, k1⟩ := grdB_ge hg
    have k0 : 0 ≤ k := k0
    have k1 : k < o.length := k1
    have hz : atI (inL o) k = some (.int (o.getD k.toNat 0)) := by
      refine at_int k0 ?_
      have hl : k.toNat < o.length := by omega
      rw [inL, List.getElem?_map, List.getElem?_eq_getElem hl, List.getD_eq_getElem?_getD, List.getElem?_eq_getElem hl]
      rfl
    have hlen := rows_len (t := t) (o := o) (cs := cs.take i)
    rw [List.length_take] at hlen
    show GT K b _ (.d (.tuple [.int k, .str sg, .int v])) _ _
    refine gt_name ?_
    simp only [sgns, List.mem_cons, List.not_mem_nil, or_false] at hs
    rcases hs with rfl | rfl | rfl | rfl | rfl
    · show GO K b _ ⟨[some (.d (.tuple (cs.map gcD))), some (.d (.int t)), some (.o 0), some (.o 1), some (.d (.tuple [.int k, .str "<", .int v])), x5], [.lst (inL o), .lst ((rowsL t o (cs.take i)).map l4D)]⟩ _
      repeat walk_at "z4"
      refine ev_bmL (ev_var (a := .o 1) rfl ⟨⟨1, _, rfl, rfl⟩, ?_⟩)
      repeat walk_at "z4"
      refine vm_append (n := 1) rfl (Nat.lt_of_le_of_lt (show _ ≤ 100000 by simp; omega) (by decide)) ?_
      repeat walk_at "z4"
      refine ⟨some (.d (.tuple [.int k, .str "<", .int v])), some (.d (.int (o.getD k.toNat 0))), ?_⟩
      show _ = S.mk _ [_, C.lst ((rowsL t o (cs.take (i + 1))).map l4D)]
      rw [rows_snoc hc, List.map_append]
      rw [show rowL t (o.getD k.toNat 0) "<" v = _ from row_lt]
      try rw [List.append_assoc]
      rfl
    · show GO K b _ ⟨[some (.d (.tuple (cs.map gcD))), some (.d (.int t)), some (.o 0), some (.o 1), some (.d (.tuple [.int k, .str "<=", .int v])), x5], [.lst (inL o), .lst ((rowsL t o (cs.take i)).map l4D)]⟩ _
      repeat walk_at "z4"
      refine ev_bmL (ev_var (a := .o 1) rfl ⟨⟨1, _, rfl, rfl⟩, ?_⟩)
      repeat walk_at "z4"
      refine vm_append (n := 1) rfl (Nat.lt_of_le_of_lt (show _ ≤ 100000 by simp; omega) (by decide)) ?_
      repeat walk_at "z4"
      refine ⟨some (.d (.tuple [.int k, .str "<=", .int v])), some (.d (.int (o.getD k.toNat 0))), ?_⟩
      show _ = S.mk _ [_, C.lst ((rowsL t o (cs.take (i + 1))).map l4D)]
      rw [rows_snoc hc, List.map_append]
      rw [show rowL t (o.getD k.toNat 0) "<=" v = _ from row_le]
      try rw [List.append_assoc]
      rfl
    · show GO K b _ ⟨[some (.d (.tuple (cs.map gcD))), some (.d (.int t)), some (.o 0), some (.o 1), some (.d (.tuple [.int k, .str "==", .int v])), x5], [.lst (inL o), .lst ((rowsL t o (cs.take i)).map l4D)]⟩ _
      repeat walk_at "z4"
      refine ev_bmL (ev_var (a := .o 1) rfl ⟨⟨1, _, rfl, rfl⟩, ?_⟩)
      repeat walk_at "z4"
      refine vm_append (n := 1) rfl (Nat.lt_of_le_of_lt (show _ ≤ 100000 by simp; omega) (by decide)) ?_
      repeat walk_at "z4"
      refine ev_bmL (ev_var (a := .o 1) rfl ⟨⟨1, _, rfl, rfl⟩, ?_⟩)
      repeat walk_at "z4"
      refine vm_append (n := 1) rfl (Nat.lt_of_le_of_lt (show _ ≤ 100000 by simp; omega) (by decide)) ?_
      repeat walk_at "z4"
      refine ⟨some (.d (.tuple [.int k, .str "==", .int v])), some (.d (.int (o.getD k.toNat 0))), ?_⟩
      show _ = S.mk _ [_, C.lst ((rowsL t o (cs.take (i + 1))).map l4D)]
      rw [rows_snoc hc, List.map_append]
      rw [show rowL t (o.getD k.toNat 0) "==" v = _ from row_eq]
      try rw [List.append_assoc]
      rfl
    · show GO K b _ ⟨[some (.d (.tuple (cs.map gcD))), some (.d (.int t)), some (.o 0), some (.o 1), some (.d (.tuple [.int k, .str ">=", .int v])), x5], [.lst (inL o), .lst ((rowsL t o (cs.take i)).map l4D)]⟩ _
      repeat walk_at "z4"
      refine ev_bmL (ev_var (a := .o 1) rfl ⟨⟨1, _, rfl, rfl⟩, ?_⟩)
      repeat walk_at "z4"
      refine vm_append (n := 1) rfl (Nat.lt_of_le_of_lt (show _ ≤ 100000 by simp; omega) (by decide)) ?_
      repeat walk_at "z4"
      refine ⟨some (.d (.tuple [.int k, .str ">=", .int v])), some (.d (.int (o.getD k.toNat 0))), ?_⟩
      show _ = S.mk _ [_, C.lst ((rowsL t o (cs.take (i + 1))).map l4D)]
      rw [rows_snoc hc, List.map_append]
      rw [show rowL t (o.getD k.toNat 0) ">=" v = _ from row_ge]
      try rw [List.append_assoc]
      rfl
    · show GO K b _ ⟨[some (.d (.tuple (cs.map gcD))), some (.d (.int t)), some (.o 0), some (.o 1), some (.d (.tuple [.int k, .str ">", .int v])), x5], [.lst (inL o), .lst ((rowsL t o (cs.take i)).map l4D)]⟩ _
      repeat walk_at "z4"
      refine ev_bmL (ev_var (a := .o 1) rfl ⟨⟨1, _, rfl, rfl⟩, ?_⟩)
      repeat walk_at "z4"
      refine vm_append (n := 1) rfl (Nat.lt_of_le_of_lt (show _ ≤ 100000 by simp; omega) (by decide)) ?_
      repeat walk_at "z4"
      refine ⟨some (.d (.tuple [.int k, .str ">", .int v])), some (.d (.int (o.getD k.toNat 0))), ?_⟩
      show _ = S.mk _ [_, C.lst ((rowsL t o (cs.take (i + 1))).map l4D)]
      rw [rows_snoc hc, List.map_append]
      rw [show rowL t (o.getD k.toNat 0) ">" v = _ from row_gt]
      try rw [List.append_assoc]
      rfl
  
  rintro s2 ⟨x4, x5, rfl⟩
  rw [List.length_map, List.take_length]
  dsimp only
  refine go_ret (ev_dat (ev_var rfl ⟨1, _, rfl, rfl, ?_⟩))
  exact ⟨rfl, rfl⟩
end
def sp__law_misfit : Spc where
  I := Mch × Int × List Int
  args := fun (m, sc, p) => [.d (tabD m sc), .d (.list (inL p))]
  cells := fun _ => []
  pre := fun (m, _, p) => m.Ok ∧ p.length ≤ 1000
  post := fun (m, _, p) r _ => ∃ a : Nat, Mis m p a ∧ r = .val (.int a)
section
variable {P : Program} {w : World} {K : PySem.W.Frag} {mg : Str → Option Value} {base : Heap}
theorem ok__law_misfit (T : Tx P K mg) : FnOk P w K mg base CX0 1 T.a__law_misfit T.d__law_misfit ["table", "path"] (SpB K sp__law_misfit) := by
  refine T.F__law_misfit.ok sc__law_misfit (fun vs H Q E h => spB_len h (fun _ => rfl)) (fun cdv A outer s H vs Q E hr h => ⟨_, PSs.nox ((pss_cons (ps_set (i := 2) sc__law_misfit.nd rfl (.inl rfl) (pe_ix ix_seq (pv 0) pe_int (fun _ _ => rfl)))
      (pss_cons (ps_for PassesOwn.never rfl (pi_range1 (by rfl) T.z_range (pa_cons (pe_callB call_len (by rfl) T.z_len (by decide +kernel) (pa_cons (pv 1) pa_nil)) pa_nil)) (pg_name (i := 3) sc__law_misfit.nd rfl (.inl rfl) (.inr rfl))
      (pss_cons (ps_if (pt_not (pt_chain op_leA op_ltA pe_int (pe_ix ix_seq (pv 1) (pv 3) (fun _ _ => rfl)) (pe_callB call_len (by rfl) T.z_len (by decide +kernel) (pa_cons (pe_ix ix_seq (pv 0) pe_int (fun _ _ => rfl)) pa_nil))))
      (pss_one (ps_ret (pv 3)))
      pss_nil)
      (pss_cons (ps_if (pt_cmpR (op_neD hr.units) (pe_ix ix_seq (pe_ix ix_seq (pe_ix ix_seq (pv 0) pe_int (fun _ _ => rfl)) (pe_ix ix_seq (pv 1) (pv 3) (fun _ _ => rfl)) (fun _ _ => rfl)) pe_int (fun _ _ => rfl)) (pv 2) (nomark _))
      (pss_one (ps_ret (pv 3)))
      pss_nil)
      (pss_one (ps_set (i := 2) sc__law_misfit.nd rfl (.inl rfl) (pe_ix ix_seq (pe_ix ix_seq (pe_ix ix_seq (pv 0) pe_int (fun _ _ => rfl)) (pe_ix ix_seq (pv 1) (pv 3) (fun _ _ => rfl)) (fun _ _ => rfl)) pe_int (fun _ _ => rfl)))))))
      (pss_one (ps_ret (pe_callB call_len (by rfl) T.z_len (by decide +kernel) (pa_cons (pv 1) pa_nil))))))), ?_⟩)
  refine go_fn (L := ["table", "path", "place", "at"]) h (fun b i hp hX => ?_)
  try dsimp only [cxOf, L2H.cxH, L2.Cx.nox, L2.Cx.wish]
  have kLET := cLET T
  have kNMC := cNMC T
  have kLON := cLON T
  have kSIG := T.w_SIGNS
  have kSTA := T.w_STAY_SIGNS
  have kSID := T.w_SIDES
  
  obtain ⟨m, sc, p⟩ := i
  obtain ⟨ok, h2⟩ := hp
  have h2 : p.length ≤ 1000 := h2
  show GO K b _ ⟨[some (.d (.list [strsT m.clocks, plcsT m.places, movsT m.moves, .int m.start, strsT m.rush, .int sc])), some (.d (.list (inL p))), none, none], []⟩ _
  refine go_mid (fun s => s = ⟨[some (.d (.list [strsT m.clocks, plcsT m.places, movsT m.moves, .int m.start, strsT m.rush, .int sc])), some (.d (.list (inL p))), some (.d (.int m.start)), none], []⟩) ?_ ?_
  · repeat walk_at "z4"
  
    exact rfl
  rintro s1 rfl
  refine go_seq (go_for (ei_r1 (ea_cons ?_)))
  repeat walk_at "z4"
  
  rw [inL_len]
  refine ⟨by omega, by omega, ?_⟩
  rw [Int.toNat_natCast]
  refine ⟨fun j s => ∃ x, (∀ i, i < j → FitA m p i) ∧ s = ⟨[some (.d (.list [strsT m.clocks, plcsT m.places, movsT m.moves, .int m.start, strsT m.rush, .int sc])), some (.d (.list (inL p))), some (.d (.int (plA m p j : Nat))), x], []⟩, ⟨none, (fun i h => absurd h (Nat.not_lt_zero i)), rfl⟩, fun _ _ _ _ => trivial, ?_, ?_⟩
  · rintro j v s2 hx ⟨x, hall, rfl⟩
    obtain ⟨hj, rfl⟩ := rngD_get hx
    rw [Int.zero_add]
    obtain ⟨k, hk⟩ : ∃ k, p[j]? = some k := ⟨_, List.getElem?_eq_getElem hj⟩
    have hpj : atI (inL p) (j : Int) = some (.int k) := atI_n (by rw [inL, List.getElem?_map, hk]; rfl)
    have no : ¬ FitA m p j → ∃ a : Nat, Mis m p a ∧ Rv.val (.int (j : Nat)) = Rv.val (.int a) := fun h => ⟨j, ⟨by omega, hall, fun _ => h⟩, rfl⟩
    refine gt_name ?_
    repeat walk_at "z4"
  
    refine ⟨fun z => ?_, fun z => ?_⟩
    rotate_left
    · have z := of_decide_eq_false z
      repeat walk_at "z4"
  
      exact no (fun h => z (by have := h.1; rw [getD_of hk] at this; exact this))
    have z0 := of_decide_eq_true z
    repeat walk_at "z4"
  
    rw [List.length_map]
    by_cases z1 : k < (m.moves.length : Int)
    · rw [decide_eq_true z1]
      obtain ⟨⟨sr, tg, lb, gd, rs, sd⟩, hm⟩ : ∃ x, m.moves[k.toNat]? = some x := ⟨_, List.getElem?_eq_getElem (by omega)⟩
      have hix : atI (m.moves.map movD) k = some (.tuple [.int sr, .int tg, .str lb, cndsD gd, .tuple (inN' rs), .str sd]) := at_map z0 hm
      repeat walk_at "z4"
  
      refine ⟨fun y => ?_, fun y => ?_⟩
      · repeat walk_at "z4"
  
        refine no ?_
        rintro ⟨_, x', e1, e2⟩
        rw [getD_of hk, hm] at e1
        cases e1
        have e2 : sr = plA m p j := e2
        simp [e2] at y
      · repeat walk_at "z4"
  
        refine ⟨some (.d (.int (j : Nat))), fun i hi => ?_, ?_⟩
        · by_cases e : i = j
          · rw [e]
            exact ⟨by rw [getD_of hk]; exact z0, _, by rw [getD_of hk]; exact hm, by simp at y; show sr = _; omega⟩
          · exact hall i (by omega)
        · rw [plA_succ hk hm]
          rfl
    · rw [decide_eq_false z1]
      repeat walk_at "z4"
  
      refine no ?_
      rintro ⟨_, x', e1, _⟩
      rw [getD_of hk] at e1
      have := (List.getElem?_eq_some_iff.mp e1).1
      omega
  rintro s2 ⟨x, hall, rfl⟩
  rw [rngD_len] at hall
  dsimp only
  repeat walk_at "z4"
  
  rw [inL_len]
  repeat walk_at "z4"
  
  exact ⟨p.length, ⟨Nat.le_refl _, hall, fun h => absurd h (Nat.lt_irrefl _)⟩, rfl⟩
end
def sp__law_limits : Spc where
  I := Mch × Int × List Int × Option Gl
  args := fun (m, sc, p, g) => [.d (tabD m sc), .d (.list (inL p)), .d (ogD g)]
  cells := fun _ => []
  pre := fun (m, _, p, g) => m.Ok ∧ p.length ≤ 1000 ∧ (∀ j, j < p.length → FitA m p j) ∧ ∀ gg, g = some gg → goalB m gg = true ∧ gg.2.length ≤ 1000
  post := fun (m, _, p, g) r _ => r = .val (.list ((limA m p g).map l4D))
section
variable {P : Program} {w : World} {K : PySem.W.Frag} {mg : Str → Option Value} {base : Heap}
theorem ok__law_limits (T : Tx P K mg) : FnOk P w K mg base CX0 2 T.a__law_limits T.d__law_limits ["table", "path", "aim"] (SpB K sp__law_limits) := by
  refine T.F__law_limits.ok sc__law_limits (fun vs H Q E h => spB_len h (fun _ => rfl)) (fun cdv A outer s H vs Q E hr h => ⟨_, PSs.nox ((pss_cons (ps_set (i := 3) sc__law_limits.nd rfl (.inl rfl) (pe_lst pa_nil))
      (pss_cons (ps_setLc (i := 5) (own := [("clock", 4)]) rfl sc__law_limits.nd rfl rfl (sw_true rfl rfl rfl (by decide +kernel)) (pi_any (pe_ix ix_seq (pv 0) pe_int (fun _ _ => rfl))) (blkOk_by (own := [("clock", 4)]) (N := ["table", "path", "aim", "limits", "clock", "origin", "place", "k", "move"]) (sc := defScope s__law_limits) (by decide +kernel)) (fun _ _ _ _ _ => (pg_name (i := 4) sc__law_limits.nd rfl (.inl rfl) (.inr rfl))) (fun _ _ _ _ _ => pts_nil) (fun _ _ _ _ _ => pe_int))
      (pss_cons (ps_set (i := 6) sc__law_limits.nd rfl (.inl rfl) (pe_ix ix_seq (pv 0) pe_int (fun _ _ => rfl)))
      (pss_cons (ps_for PassesOwn.never rfl (pi_range2 (by rfl) T.z_range (pa_cons pe_int (pa_cons (pe_op op_addA (pe_callB call_len (by rfl) T.z_len (by decide +kernel) (pa_cons (pv 1) pa_nil)) pe_int) pa_nil))) (pg_name (i := 7) sc__law_limits.nd rfl (.inl rfl) (.inr rfl))
      (pss_cons (ps_expr (pe_bm PySem.F.plainAttrs_list PySem.F.slot_list_append PySem.F.type_list_append mt_append (pv 3) (pa_cons (pe_tup (pa_cons (pe_op op_sub (pv 7) pe_int) (pa_cons (pv 7) (pa_cons pe_int (pa_cons pe_int pa_nil))))) pa_nil)))
      (pss_cons (ps_if (pt_truth (pe_call (ok__law_pressing T) (hr.mono (by decide)) (by rfl) T.g__law_pressing T.F__law_pressing.kp (b__law_pressing T.F__law_pressing) .nil pass0 (pa_cons (pv 0) (pa_cons (pv 6) pa_nil))) (by intro _; rfl))
      (pss_one (ps_expr (pe_bm PySem.F.plainAttrs_list PySem.F.slot_list_append PySem.F.type_list_append mt_append (pv 3) (pa_cons (pe_tup (pa_cons (pv 7) (pa_cons (pe_op op_sub (pv 7) pe_int) (pa_cons pe_int (pa_cons pe_int pa_nil))))) pa_nil))))
      pss_nil)
      (pss_cons (ps_expr (pe_bm PySem.F.plainAttrs_list PySem.F.slot_list_extend PySem.F.type_list_extend mt_extend (pv 3) (pa_cons (pe_call (ok__law_rows T) (hr.mono (by decide)) (by rfl) T.g__law_rows T.F__law_rows.kp (b__law_rows T.F__law_rows) .nil pass0 (pa_cons (pe_ix ix_seq (pe_ix ix_seq (pe_ix ix_seq (pv 0) pe_int (fun _ _ => rfl)) (pv 6) (fun _ _ => rfl)) pe_int (fun _ _ => rfl)) (pa_cons (pv 7) (pa_cons (pv 5) pa_nil)))) pa_nil)))
      (pss_one (ps_if (pt_cmpR op_leA (pv 7) (pe_callB call_len (by rfl) T.z_len (by decide +kernel) (pa_cons (pv 1) pa_nil)) (nomark _))
      (pss_cons (ps_set (i := 8) sc__law_limits.nd rfl (.inl rfl) (pe_ix ix_seq (pe_ix ix_seq (pv 0) pe_int (fun _ _ => rfl)) (pe_ix ix_seq (pv 1) (pe_op op_sub (pv 7) pe_int) (fun _ _ => rfl)) (fun _ _ => rfl)))
      (pss_cons (ps_expr (pe_bm PySem.F.plainAttrs_list PySem.F.slot_list_extend PySem.F.type_list_extend mt_extend (pv 3) (pa_cons (pe_call (ok__law_rows T) (hr.mono (by decide)) (by rfl) T.g__law_rows T.F__law_rows.kp (b__law_rows T.F__law_rows) .nil pass0 (pa_cons (pe_ix ix_seq (pv 8) pe_int (fun _ _ => rfl)) (pa_cons (pv 7) (pa_cons (pv 5) pa_nil)))) pa_nil)))
      (pss_cons (ps_for PassesOwn.never rfl (pi_any (pe_ix ix_seq (pv 8) pe_int (fun _ _ => rfl))) (pg_name (i := 4) sc__law_limits.nd rfl (.inl rfl) (.inr rfl))
      (pss_one (ps_asg (pv 7) (pg_sub (pv 5) (pv 4) set_list))))
      (pss_one (ps_set (i := 6) sc__law_limits.nd rfl (.inl rfl) (pe_ix ix_seq (pv 8) pe_int (fun _ _ => rfl)))))))
      pss_nil))))))
      (pss_cons (ps_if (pt_cmpR op_notA (pv 2) pe_non (nomark _))
      (pss_cons (ps_expr (pe_bm PySem.F.plainAttrs_list PySem.F.slot_list_extend PySem.F.type_list_extend mt_extend (pv 3) (pa_cons (pe_call (ok__law_rows T) (hr.mono (by decide)) (by rfl) T.g__law_rows T.F__law_rows.kp (b__law_rows T.F__law_rows) .nil pass0 (pa_cons (pe_ix ix_seq (pv 2) pe_int (fun _ _ => rfl)) (pa_cons (pe_op op_addA (pe_callB call_len (by rfl) T.z_len (by decide +kernel) (pa_cons (pv 1) pa_nil)) pe_int) (pa_cons (pv 5) pa_nil)))) pa_nil)))
      (pss_one (ps_if (pt_cmpR op_niA (pv 6) (pe_ix ix_seq (pv 2) pe_int (fun _ _ => rfl)) (by rfl))
      (pss_one (ps_expr (pe_bm PySem.F.plainAttrs_list PySem.F.slot_list_append PySem.F.type_list_append mt_append (pv 3) (pa_cons (pe_tup (pa_cons pe_int (pa_cons pe_int (pa_cons pe_int (pa_cons pe_int pa_nil))))) pa_nil))))
      pss_nil)))
      pss_nil)
      (pss_one (ps_ret (pv 3))))))))), ?_⟩)
  refine go_fn (L := ["table", "path", "aim", "limits", "clock", "origin", "place", "k", "move"]) h (fun b i hp hX => ?_)
  try dsimp only [cxOf, L2H.cxH, L2.Cx.nox, L2.Cx.wish]
  have kLET := cLET T
  have kNMC := cNMC T
  have kLON := cLON T
  have kSIG := T.w_SIGNS
  have kSTA := T.w_STAY_SIGNS
  have kSID := T.w_SIDES
  
  obtain ⟨m, sc, p, g⟩ := i
  obtain ⟨ok, h2, hfit, h3⟩ := hp
  have h2 : p.length ≤ 1000 := h2
  have c8 : m.clocks.length ≤ 8 := ok.c8
  show GO K b _ ⟨[some (.d (.list [strsT m.clocks, plcsT m.places, movsT m.moves, .int m.start, strsT m.rush, .int sc])), some (.d (.list (inL p))), some (.d (ogD g)), none, none, none, none, none, none], []⟩ _
  refine go_sAsg (ev_lstO (ea_nil ⟨[], rfl, rfl, gt_name ?_⟩))
  refine go_sAsg (ev_lc (tg_name (.head _)) mg_name (ei_anyT (ei_tup ?_)))
  repeat walk_at "z4"
  
  refine ⟨fun j js s => js = inL (List.replicate j 0) ∧ s = ⟨[some (.d (.list [strsT m.clocks, plcsT m.places, movsT m.moves, .int m.start, strsT m.rush, .int sc])), some (.d (.list (inL p))), some (.d (ogD g)), some (.o 0), none, none, none, none, none], [.lst [], .lst js]⟩, ⟨rfl, rfl⟩, ?_, ?_, ?_⟩
  · rintro j js s3 _ ⟨_, rfl⟩
    exact ⟨trivial, rfl⟩
  · rintro j v js s3 hx ⟨rfl, rfl⟩
    have hjl := (List.getElem?_eq_some_iff.mp hx).1
    rw [List.length_map] at hjl
    obtain ⟨w, _, rfl⟩ := map_get hx
    refine gt_name ?_
    refine fun σ H tv ta Hd ps R Q kk => kk true H _ Hd ps ⟨fun _ => ?_, fun h => (nomatch h)⟩ R
    repeat walk_at "z1"
  
    refine ⟨rfl, Nat.lt_of_le_of_lt (show _ ≤ 1000 by rw [inL_len, List.length_replicate]; omega) (by decide), ?_, rfl⟩
    rw [List.replicate_succ', inL_app]
    rfl
  rintro js s3 ⟨rfl, rfl⟩
  rw [List.length_map]
  refine gt_name ?_
  refine go_mid (fun s => s = ⟨[some (.d (.list [strsT m.clocks, plcsT m.places, movsT m.moves, .int m.start, strsT m.rush, .int sc])), some (.d (.list (inL p))), some (.d (ogD g)), some (.o 0), none, some (.o 1), some (.d (.int (m.start : Nat))), none, none], [.lst ((lmU m p 0).map l4D), .lst (inL (orA m p 0))]⟩) ?_ ?_
  · repeat walk_at "z4"
  
    exact rfl
  rintro s1 rfl
  refine go_seq (go_for (ei_r2 (ea_cons ?_)))
  repeat walk_at "z4"
  
  rw [inL_len]
  refine ⟨_, _, rfl, ⟨by decide, by decide, by omega, by omega⟩, ?_⟩
  rw [show ((p.length : Int) + 2 - 1).toNat = p.length + 1 by omega]
  refine ⟨fun i s => ∃ x4 x7 x8, s = ⟨[some (.d (.list [strsT m.clocks, plcsT m.places, movsT m.moves, .int m.start, strsT m.rush, .int sc])), some (.d (.list (inL p))), some (.d (ogD g)), some (.o 0), x4, some (.o 1), some (.d (.int (plA m p (min i p.length) : Nat))), x7, x8], [.lst ((lmU m p i).map l4D), .lst (inL (orI m p i))]⟩, ⟨none, none, none, by rw [Nat.min_eq_left (Nat.zero_le _), orI_le (Nat.zero_le _)]; rfl⟩, fun _ _ _ _ => trivial, ?_, ?_⟩
  · rintro j v s2 hx ⟨x4, x7, x8, rfl⟩
    obtain ⟨hj, rfl⟩ := rngD_get hx
    rw [show (1 + (j : Int)) = (j : Int) + 1 by omega]
    have hpl := plA_lt ok (p := p) (j := j) fun i hi => hfit i (by omega)
    obtain ⟨⟨pw, sts, pr⟩, hp2⟩ : ∃ x, m.places[plA m p j]? = some x := ⟨_, List.getElem?_eq_getElem hpl⟩
    have hpix : atI (m.places.map plcD) ((plA m p j : Nat) : Int) = some (.tuple [.str pw, cndsD sts, .bool pr]) := atI_n (by rw [List.getElem?_map, hp2]; rfl)
    have hst : stA m p j = sts := by unfold stA; rw [hp2]; rfl
    have lU := lmU_len ok (p := p) (i := j)
    have l1 := lm1_len ok (p := p) (j := j)
    have l2 := lm2_len ok (p := p) (j := j)
    have ek : (j : Int) + 1 - 1 = j := by omega
    rw [Nat.min_eq_left (by omega), orI_le (by omega)]
    refine gt_name ?_
    refine go_mid (fun s => s = ⟨[some (.d (.list [strsT m.clocks, plcsT m.places, movsT m.moves, .int m.start, strsT m.rush, .int sc])), some (.d (.list (inL p))), some (.d (ogD g)), some (.o 0), x4, some (.o 1), some (.d (.int (plA m p j : Nat))), some (.d (.int ((j : Int) + 1))), x8], [.lst ((lmU m p j ++ [((j : Int), (j : Int) + 1, 0, 1)]).map l4D), .lst (inL (orA m p j))]⟩) ?_ ?_
    · repeat walk_at "z4"
      refine ev_bmL (ev_var (a := .o 0) rfl ⟨⟨0, _, rfl, rfl⟩, ?_⟩)
      repeat walk_at "z4"
  
      rw [ek]
      refine vm_append (n := 0) rfl (Nat.lt_of_le_of_lt (show _ ≤ 6000000 by rw [List.length_map]; omega) (by rw [sizeLine_eq]; decide)) ?_
  
      show S.mk _ [C.lst _, _] = S.mk _ [C.lst _, _]
      rw [List.map_append]
      rfl
    rintro s3 rfl
    refine go_mid (fun s => s = ⟨[some (.d (.list [strsT m.clocks, plcsT m.places, movsT m.moves, .int m.start, strsT m.rush, .int sc])), some (.d (.list (inL p))), some (.d (ogD g)), some (.o 0), x4, some (.o 1), some (.d (.int (plA m p j : Nat))), some (.d (.int ((j : Int) + 1))), x8], [.lst ((lmU m p j ++ (((j : Int), (j : Int) + 1, 0, 1) :: (if prA m p j then [((j : Int) + 1, (j : Int), 0, 1)] else []))).map l4D), .lst (inL (orA m p j))]⟩) ?_ ?_
    · refine go_if (et_truth (ev_callV (E := fun _ => E0) ?_))
      repeat walk_at "z4"
  
      refine ⟨(m, sc, plA m p j), .bool (prA m p j), rfl, rfl, rfl, hpl, fun _ _ h => h, fun _ _ h => h, ?_⟩
      refine ⟨prA m p j, rfl, fun z => ?_, fun z => ?_⟩
      · repeat walk_at "z4"
        refine ev_bmL (ev_var (a := .o 0) rfl ⟨⟨0, _, rfl, rfl⟩, ?_⟩)
        repeat walk_at "z4"
  
        rw [ek]
        refine vm_append (n := 0) rfl (Nat.lt_of_le_of_lt (show _ ≤ 6000000 by rw [List.length_map, List.length_append]; simp; omega) (by rw [sizeLine_eq]; decide)) ?_
  
        show S.mk _ [C.lst _, _] = S.mk _ [C.lst _, _]
        rw [if_pos z, List.map_append, List.map_append, List.append_assoc]
        rfl
      · refine go_next ?_
        show S.mk _ [C.lst _, _] = S.mk _ [C.lst _, _]
        rw [if_neg (by rw [z]; decide)]
    rintro s3 rfl
    refine go_mid (fun s => s = ⟨[some (.d (.list [strsT m.clocks, plcsT m.places, movsT m.moves, .int m.start, strsT m.rush, .int sc])), some (.d (.list (inL p))), some (.d (ogD g)), some (.o 0), x4, some (.o 1), some (.d (.int (plA m p j : Nat))), some (.d (.int ((j : Int) + 1))), x8], [.lst ((lmU m p j ++ lm1 m p j).map l4D), .lst (inL (orA m p j))]⟩) ?_ ?_
    · have hbig : ((lmU m p j ++ (((j : Int), (j : Int) + 1, 0, 1) :: (if prA m p j then [((j : Int) + 1, (j : Int), 0, 1)] else []))).map l4D).length + ((rowsL ((j : Int) + 1) (orA m p j) (sts.map gC)).map l4D).length ≤ sizeLine := Nat.le_trans (show _ ≤ 6000000 by
        have h5 : (lmU m p j ++ (((j : Int), (j : Int) + 1, 0, 1) :: (if prA m p j then [((j : Int) + 1, (j : Int), 0, 1)] else [])) ++ rowsL ((j : Int) + 1) (orA m p j) (sts.map gC)).length ≤ 6000000 := by
          rw [← hst]
          have e : lmU m p j ++ (((j : Int), (j : Int) + 1, 0, 1) :: (if prA m p j then [((j : Int) + 1, (j : Int), 0, 1)] else [])) ++ rowsL ((j : Int) + 1) (orA m p j) ((stA m p j).map gC) = lmU m p j ++ lm1 m p j := by unfold lm1; simp
          rw [e, List.length_append]; omega
        rw [List.length_append] at h5
        rw [List.length_map, List.length_map]; exact h5) (by rw [sizeLine_eq]; decide)
      refine go_drop (ev_bmL (ev_var (a := .o 0) rfl ⟨⟨0, _, rfl, rfl⟩, ?_⟩))
      refine ea_cons (ev_callM (E := fun _ => E0) [1] (by decide) ?_)
      repeat walk_at "z4"
      refine ⟨(sts.map gC, (j : Int) + 1, orA m p j), by show [Dw.A.d (.tuple ((sts.map gC).map gcD)), _, _] = _; rw [← cnds_gC]; rfl, ⟨trivial, trivial, List.mem_singleton_self _, trivial⟩, rfl, fun q hq => by rw [List.mem_singleton.mp hq]; exact ⟨_, rfl, (fun z => nomatch z), trivial⟩, ⟨by rw [orA_len]; exact (hst ▸ sts_ok ok), (by rw [List.length_map]; exact hst ▸ stA_len ok)⟩, fun r os' hr _ => ?_, fun _ _ h => h⟩
      obtain ⟨rfl, rfl⟩ := hr
      refine ⟨rfl, ?_⟩
      refine ea_nil ?_
      refine vm_extend (n := 0) rfl rfl hbig ?_
  
      show S.mk _ [C.lst _, _] = S.mk _ [C.lst _, _]
      rw [show (lmU m p j ++ lm1 m p j).map l4D = (lmU m p j ++ (((j : Int), (j : Int) + 1, 0, 1) :: (if prA m p j then [((j : Int) + 1, (j : Int), 0, 1)] else []))).map l4D ++ (rowsL ((j : Int) + 1) (orA m p j) (sts.map gC)).map l4D by rw [← List.map_append, ← hst]; unfold lm1; simp]
      rfl
    rintro s3 rfl
    repeat walk_at "z4"
  
    rw [inL_len]
    refine ⟨fun z => ?_, fun z => ?_⟩
    · have hjl : j < p.length := by have := of_decide_eq_true z; omega
      obtain ⟨k, hk⟩ : ∃ k, p[j]? = some k := ⟨_, List.getElem?_eq_getElem hjl⟩
      obtain ⟨k0, ⟨sr, tg, lb, gd, rs, sd⟩, hm, _⟩ := hfit j hjl
      rw [getD_of hk] at k0 hm
      have hpj : atI (inL p) ((j : Int) + 1 - 1) = some (.int k) := by rw [ek]; exact atI_n (by rw [inL, List.getElem?_map, hk]; rfl)
      have hmix : atI (m.moves.map movD) k = some (.tuple [.int sr, .int tg, .str lb, cndsD gd, .tuple (inN' rs), .str sd]) := at_map k0 hm
      have hgd : gdA m p j = gd := by unfold gdA; rw [getD_of hk, hm]; rfl
      have hrs : rsA m p j = rs := by unfold rsA; rw [getD_of hk, hm]; rfl
      have hrlt : ∀ x, x ∈ rs → x < m.clocks.length := (ok.mv _ (List.mem_of_getElem? hm)).rlt
      have e2 : lm2 m p j = rowsL ((j : Int) + 1) (orA m p j) (gd.map gC) := by unfold lm2; rw [if_pos hjl, hgd]
      have MVD : ∃ d, d = PyData.tuple [.int sr, .int tg, .str lb, cndsD gd, .tuple (inN' rs), .str sd] := ⟨_, rfl⟩
      refine go_mid (fun s => s = ⟨[some (.d (.list [strsT m.clocks, plcsT m.places, movsT m.moves, .int m.start, strsT m.rush, .int sc])), some (.d (.list (inL p))), some (.d (ogD g)), some (.o 0), x4, some (.o 1), some (.d (.int (plA m p j : Nat))), some (.d (.int ((j : Int) + 1))), some (.d (.tuple [.int sr, .int tg, .str lb, cndsD gd, .tuple (inN' rs), .str sd]))], [.lst ((lmU m p j ++ lm1 m p j).map l4D), .lst (inL (orA m p j))]⟩) ?_ ?_
      · repeat walk_at "z4"
  
        exact rfl
      rintro s3 rfl
      refine go_mid (fun s => s = ⟨[some (.d (.list [strsT m.clocks, plcsT m.places, movsT m.moves, .int m.start, strsT m.rush, .int sc])), some (.d (.list (inL p))), some (.d (ogD g)), some (.o 0), x4, some (.o 1), some (.d (.int (plA m p j : Nat))), some (.d (.int ((j : Int) + 1))), some (.d (.tuple [.int sr, .int tg, .str lb, cndsD gd, .tuple (inN' rs), .str sd]))], [.lst ((lmU m p j ++ lm1 m p j ++ lm2 m p j).map l4D), .lst (inL (orA m p j))]⟩) ?_ ?_
      · have hbig : ((lmU m p j ++ lm1 m p j).map l4D).length + ((rowsL ((j : Int) + 1) (orA m p j) (gd.map gC)).map l4D).length ≤ sizeLine := Nat.le_trans (show _ ≤ 6000000 by
          rw [← e2, List.length_map, List.length_map, List.length_append]; omega) (by rw [sizeLine_eq]; decide)
        refine go_drop (ev_bmL (ev_var (a := .o 0) rfl ⟨⟨0, _, rfl, rfl⟩, ?_⟩))
        refine ea_cons (ev_callM (E := fun _ => E0) [1] (by decide) ?_)
        repeat walk_at "z4"
        refine ⟨(gd.map gC, (j : Int) + 1, orA m p j), by show [Dw.A.d (.tuple ((gd.map gC).map gcD)), _, _] = _; rw [← cnds_gC]; rfl, ⟨trivial, trivial, List.mem_singleton_self _, trivial⟩, rfl, fun q hq => by rw [List.mem_singleton.mp hq]; exact ⟨_, rfl, (fun z => nomatch z), trivial⟩, ⟨by rw [orA_len]; exact (hgd ▸ gdA_ok ok), (by rw [List.length_map]; exact hgd ▸ gdA_len ok)⟩, fun r os' hr _ => ?_, fun _ _ h => h⟩
        obtain ⟨rfl, rfl⟩ := hr
        refine ⟨rfl, ?_⟩
        refine ea_nil ?_
        refine vm_extend (n := 0) rfl rfl hbig ?_
  
        show S.mk _ [C.lst _, _] = S.mk _ [C.lst _, _]
        rw [e2, List.map_append (l₂ := rowsL _ _ _)]
        rfl
      rintro s3 rfl
      refine go_mid (fun s => ∃ x4, s = ⟨[some (.d (.list [strsT m.clocks, plcsT m.places, movsT m.moves, .int m.start, strsT m.rush, .int sc])), some (.d (.list (inL p))), some (.d (ogD g)), some (.o 0), x4, some (.o 1), some (.d (.int (plA m p j : Nat))), some (.d (.int ((j : Int) + 1))), some (.d (.tuple [.int sr, .int tg, .str lb, cndsD gd, .tuple (inN' rs), .str sd]))], [.lst ((lmU m p j ++ lm1 m p j ++ lm2 m p j).map l4D), .lst (inL (orA m p (j + 1)))]⟩) ?_ ?_
      · refine go_for (ei_anyT (ei_tup ?_))
        repeat walk_at "z4"
  
        refine ⟨fun i s => ∃ x4, s = ⟨[some (.d (.list [strsT m.clocks, plcsT m.places, movsT m.moves, .int m.start, strsT m.rush, .int sc])), some (.d (.list (inL p))), some (.d (ogD g)), some (.o 0), x4, some (.o 1), some (.d (.int (plA m p j : Nat))), some (.d (.int ((j : Int) + 1))), some (.d (.tuple [.int sr, .int tg, .str lb, cndsD gd, .tuple (inN' rs), .str sd]))], [.lst ((lmU m p j ++ lm1 m p j ++ lm2 m p j).map l4D), .lst (inL (resetL ((j : Int) + 1) (rs.take i) (orA m p j)))]⟩, ⟨x4, rfl⟩, fun _ _ _ _ => trivial, ?_, ?_⟩
        · rintro i v s4 hx ⟨x4, rfl⟩
          obtain ⟨q, hq, rfl⟩ := inN_get hx
          have hql : q < (resetL ((j : Int) + 1) (rs.take i) (orA m p j)).length := by rw [reset_len, orA_len]; exact hrlt q (List.mem_of_getElem? hq)
          refine gt_name ?_
          repeat walk_at "z4"
  
          refine ⟨1, _, (q : Int), q, .int ((j : Int) + 1), rfl, rfl, rfl, rfl, ?_, ?_⟩
          · rw [inL_len]; exact ixN_n hql
          refine ⟨some (.d (.int (q : Nat))), ?_⟩
          show S.mk _ [_, C.lst (List.set _ _ _)] = S.mk _ [_, C.lst _]
          rw [inL_set, reset_snoc hq]
          rfl
        rintro s4 ⟨x4, rfl⟩
        rw [inN_len, List.take_length, ← hrs]
        exact ⟨x4, rfl⟩
      rintro s3 ⟨x4, rfl⟩
      repeat walk_at "z4"
  
      refine ⟨x4, some (.d (.int ((j : Int) + 1))), some (.d (.tuple [.int sr, .int tg, .str lb, cndsD gd, .tuple (inN' rs), .str sd])), ?_⟩
      rw [Nat.min_eq_left (show j + 1 ≤ p.length by omega), orI_le (show j + 1 ≤ p.length by omega), plA_succ hk hm]
      rfl
    · have hjl : j = p.length := by have := of_decide_eq_false z; omega
      have e2 : lm2 m p j = [] := by unfold lm2; rw [if_neg (by omega)]
      refine go_next ?_
      refine ⟨x4, some (.d (.int ((j : Int) + 1))), x8, ?_⟩
      have eo : orI m p (j + 1) = orA m p j := by unfold orI; rw [Nat.min_eq_right (by omega), hjl]
      rw [eo, Nat.min_eq_right (by omega), ← hjl, show lmU m p (j + 1) = lmU m p j ++ lm1 m p j by show lmU m p j ++ lm1 m p j ++ lm2 m p j = _; rw [e2, List.append_nil]]
  rintro s2 ⟨x4, x7, x8, rfl⟩
  rw [rngD_len, Nat.min_eq_right (Nat.le_succ _)]
  have lU := lmU_len ok (p := p) (i := p.length + 1)
  have eo : orI m p (p.length + 1) = orA m p p.length := by unfold orI; rw [Nat.min_eq_right (by omega)]
  rw [eo]
  dsimp only
  refine go_mid (fun s => ∃ x4 x7 x8, s = ⟨[some (.d (.list [strsT m.clocks, plcsT m.places, movsT m.moves, .int m.start, strsT m.rush, .int sc])), some (.d (.list (inL p))), some (.d (ogD g)), some (.o 0), x4, some (.o 1), some (.d (.int (plA m p p.length : Nat))), x7, x8], [.lst ((limA m p g).map l4D), .lst (inL (orA m p p.length))]⟩) ?_ ?_
  · cases g with
    | none =>
      show GO K b _ ⟨[some (.d (.list [strsT m.clocks, plcsT m.places, movsT m.moves, .int m.start, strsT m.rush, .int sc])), some (.d (.list (inL p))), some (.d .none), some (.o 0), x4, some (.o 1), some (.d (.int (plA m p p.length : Nat))), x7, x8], [.lst ((lmU m p (p.length + 1)).map l4D), .lst (inL (orA m p p.length))]⟩ _
      repeat walk_at "z4"
  
      refine ⟨x4, x7, x8, ?_⟩
      show _ = S.mk _ [C.lst ((lmU m p (p.length + 1) ++ [] ++ []).map l4D), _]
      rw [List.append_nil, List.append_nil]
      rfl
    | some gg =>
      obtain ⟨hgg, h3g⟩ := h3 gg rfl
      have hrl := rows_len (t := (p.length : Int) + 1) (o := orA m p p.length) (cs := gg.2)
      show GO K b _ ⟨[some (.d (.list [strsT m.clocks, plcsT m.places, movsT m.moves, .int m.start, strsT m.rush, .int sc])), some (.d (.list (inL p))), some (.d (.tuple [.tuple (inL gg.1), .tuple (gg.2.map gcD)])), some (.o 0), x4, some (.o 1), some (.d (.int (plA m p p.length : Nat))), x7, x8], [.lst ((lmU m p (p.length + 1)).map l4D), .lst (inL (orA m p p.length))]⟩ _
      have hbig : ((lmU m p (p.length + 1)).map l4D).length + ((rowsL ((p.length : Int) + 1) (orA m p p.length) gg.2).map l4D).length ≤ sizeLine := Nat.le_trans (show _ ≤ 6000000 by
        rw [List.length_map, List.length_map]; omega) (by rw [sizeLine_eq]; decide)
      repeat walk_at "z4"
  
      refine ev_bmL (ev_var (a := .o 0) rfl ⟨⟨0, _, rfl, rfl⟩, ?_⟩)
      refine ea_cons (ev_callM (E := fun _ => E0) [1] (by decide) ?_)
      repeat walk_at "z4"
      rw [inL_len]; refine ⟨(gg.2, (p.length : Int) + 1, orA m p p.length), rfl, ⟨trivial, trivial, List.mem_singleton_self _, trivial⟩, rfl, fun q hq => by rw [List.mem_singleton.mp hq]; exact ⟨_, rfl, (fun z => nomatch z), trivial⟩, ⟨by rw [orA_len]; exact (fun c hc => List.all_eq_true.mp (Bool.and_eq_true_iff.mp hgg).2 c hc), h3g⟩, fun r os' hr _ => ?_, fun _ _ h => h⟩
      obtain ⟨rfl, rfl⟩ := hr
      refine ⟨rfl, ?_⟩
      refine ea_nil ?_
      refine vm_extend (n := 0) rfl rfl hbig ?_
  
      repeat walk_at "z4"
  
      refine v2_inI (ns := gg.1) (.inr rfl) ?_
      repeat walk_at "z4"
  
      have eo : outA m p (some gg) = if (plA m p p.length : Int) ∈ gg.1 then [] else [(0, 0, 0, 0)] := rfl
      have el : limA m p (some gg) = lmU m p (p.length + 1) ++ rowsL ((p.length : Int) + 1) (orA m p p.length) gg.2 ++ outA m p (some gg) := rfl
      by_cases hin : (plA m p p.length : Int) ∈ gg.1
      · rw [decide_eq_true hin]
        refine ⟨fun h => absurd h (by decide), fun _ => ?_⟩
        refine go_next ?_
        refine ⟨x4, x7, x8, ?_⟩
        rw [el, eo, if_pos hin, List.append_nil, List.map_append]
        rfl
      · rw [decide_eq_false hin]
        refine ⟨fun _ => ?_, fun h => absurd h (by decide)⟩
        repeat walk_at "z4"
        refine ev_bmL (ev_var (a := .o 0) rfl ⟨⟨0, _, rfl, rfl⟩, ?_⟩)
        repeat walk_at "z4"
  
        refine vm_append (n := 0) rfl (Nat.lt_of_le_of_lt (show _ ≤ 6000000 by rw [List.length_append, List.length_map, List.length_map]; omega) (by rw [sizeLine_eq]; decide)) ?_
  
        refine ⟨x4, x7, x8, ?_⟩
        rw [el, eo, if_neg hin, List.map_append, List.map_append]
        rfl
  rintro s3 ⟨x4, x7, x8, rfl⟩
  refine go_ret (ev_dat (ev_var rfl ⟨0, _, rfl, rfl, ?_⟩))
  exact rfl
end
def sp__law_path : Spc where
  I := Bx × Mch × Int × Nat
  args := fun (x, m, sc, n) => [.o 0, .d (tabD m sc), .d (.int n)]
  cells := fun (x, _) => [bxA x, bxB x]
  pre := fun (_, m, _, n) => m.Ok ∧ n ≤ 150
  post := fun (_, m, _, n) r os => ∃ (p : List Int) (y : Bx), r = .val (.list (inL p)) ∧ os = [bxA y, bxB y] ∧ p.length ≤ n ∧ ∀ j, j < p.length → FitA m p j
section
variable {P : Program} {w : World} {K : PySem.W.Frag} {mg : Str → Option Value} {base : Heap}
theorem ok__law_path (T : Tx P K mg) : FnOk P w K mg base CX0 2 T.a__law_path T.d__law_path ["box", "table", "most"] (SpB K sp__law_path) := by
  refine T.F__law_path.ok sc__law_path (fun vs H Q E h => spB_len h (fun _ => rfl)) (fun cdv A outer s H vs Q E hr h => ⟨_, PSs.nox ((pss_cons (ps_set (i := 3) sc__law_path.nd rfl (.inl rfl) (pe_lst pa_nil))
      (pss_cons (ps_set (i := 4) sc__law_path.nd rfl (.inr rfl) (pe_ix ix_seq (pv 1) pe_int (fun _ _ => rfl)))
      (pss_cons (ps_for PassesOwn.never rfl (pi_range1 (by rfl) T.z_range (pa_cons (pv 2) pa_nil)) (pg_name (i := 5) sc__law_path.nd rfl (.inl rfl) (.inr rfl))
      (pss_cons (ps_setLc (i := 6) (own := [("m", 7)]) rfl sc__law_path.nd rfl rfl (sw_true rfl rfl rfl (by decide +kernel)) (pi_range1 (by rfl) T.z_range (pa_cons (pe_callB call_len (by rfl) T.z_len (by decide +kernel) (pa_cons (pe_ix ix_seq (pv 1) pe_int (fun _ _ => rfl)) pa_nil)) pa_nil)) (blkOk_by (own := [("m", 7)]) (N := ["box", "table", "most", "path", "place", "k", "leaving", "m"]) (sc := defScope s__law_path) (by decide +kernel)) (fun _ _ _ _ _ => (pg_name (i := 7) sc__law_path.nd rfl (.inl rfl) (.inr rfl))) (fun _ _ _ _ _ => (pts_one (pt_cmpR (op_eqDK (K := K) rfl hr.units) (pe_ix (ix_seqK (K := K) rfl) (pe_ix (ix_seqK (K := K) rfl) (pe_ix (ix_seqK (K := K) rfl) (pv 1) pe_int (fun _ _ => rfl)) (pv 7) (fun _ _ => rfl)) pe_int (fun _ _ => rfl)) (pv 4) (nomark _)))) (fun _ _ _ _ _ => (pv 7)))
      (pss_cons (ps_if (pt_cmpR (op_eqD hr.units) (pv 6) (pe_lst pa_nil) (nomark _))
      (pss_one ps_break)
      pss_nil)
      (pss_cons (ps_expr (pe_bm PySem.F.plainAttrs_list PySem.F.slot_list_append PySem.F.type_list_append mt_append (pv 3) (pa_cons (pe_ix ix_seq (pv 6) (pe_call (ok__law_take T) (hr.mono (by decide)) (by rfl) T.g__law_take T.F__law_take.kp (b__law_take T.F__law_take) .nil pass0 (pa_cons (pv 0) (pa_cons (pe_callB call_len (by rfl) T.z_len (by decide +kernel) (pa_cons (pv 6) pa_nil)) pa_nil))) (fun _ _ => rfl)) pa_nil)))
      (pss_one (ps_set (i := 4) sc__law_path.nd rfl (.inr rfl) (pe_ix ix_seq (pe_ix ix_seq (pe_ix ix_seq (pv 1) pe_int (fun _ _ => rfl)) (pe_ix ix_seq (pv 3) (pe_un un_neg pe_int) (fun _ _ => rfl)) (fun _ _ => rfl)) pe_int (fun _ _ => rfl))))))))
      (pss_one (ps_ret (pv 3))))))), ?_⟩)
  refine go_fn (L := ["box", "table", "most", "path", "place", "k", "leaving", "m"]) h (fun b i hp hX => ?_)
  try dsimp only [cxOf, L2H.cxH, L2.Cx.nox, L2.Cx.wish]
  have kLET := cLET T
  have kNMC := cNMC T
  have kLON := cLON T
  have kSIG := T.w_SIGNS
  have kSTA := T.w_STAY_SIGNS
  have kSID := T.w_SIDES
  
  obtain ⟨x, m, sc, n⟩ := i
  obtain ⟨ok, hn⟩ := hp
  have hn : n ≤ 150 := hn
  have m1 : m.moves.length ≤ 1000 := ok.m1
  show GO K b _ ⟨[some (.o 0), some (.d (.list [strsT m.clocks, plcsT m.places, movsT m.moves, .int m.start, strsT m.rush, .int sc])), some (.d (.int n)), none, none, none, none, none], [bxA x, bxB x]⟩ _
  refine go_sAsg (ev_lstO (ea_nil ⟨[], rfl, rfl, gt_name ?_⟩))
  refine go_mid (fun s => s = ⟨[some (.o 0), some (.d (.list [strsT m.clocks, plcsT m.places, movsT m.moves, .int m.start, strsT m.rush, .int sc])), some (.d (.int (n : Nat))), some (.o 2), some (.d (.int (plA m (([] : List Int)) (([] : List Int)).length : Nat))), none, none, none], bxA x :: bxB x :: .lst (inL (([] : List Int))) :: []⟩) ?_ ?_
  · repeat walk_at "z4"
  
    exact rfl
  rintro s1 rfl
  refine go_mid (fun s => ∃ (y : Bx) (p : List Int) (cs : List C) (x5 x6 : Option Dw.A), p.length ≤ n ∧ (∀ j, j < p.length → FitA m p j) ∧ s = ⟨[some (.o 0), some (.d (.list [strsT m.clocks, plcsT m.places, movsT m.moves, .int m.start, strsT m.rush, .int sc])), some (.d (.int (n : Nat))), some (.o 2), some (.d (.int (plA m (p) (p).length : Nat))), x5, x6, none], bxA y :: bxB y :: .lst (inL (p)) :: cs⟩) ?_ ?_
  · refine go_for (ei_r1 (ea_cons (ev_var rfl (ea_nil ⟨_, rfl, by omega, by omega, ?_⟩))))
    rw [Int.toNat_natCast]
    refine ⟨fun j s => ∃ (y : Bx) (p : List Int) (cs : List C) (x5 x6 : Option Dw.A), p.length ≤ j ∧ (∀ j, j < p.length → FitA m p j) ∧ s = ⟨[some (.o 0), some (.d (.list [strsT m.clocks, plcsT m.places, movsT m.moves, .int m.start, strsT m.rush, .int sc])), some (.d (.int (n : Nat))), some (.o 2), some (.d (.int (plA m (p) (p).length : Nat))), x5, x6, none], bxA y :: bxB y :: .lst (inL (p)) :: cs⟩, ⟨x, [], [], none, none, Nat.le_refl _, (fun j h => absurd h (Nat.not_lt_zero j)), rfl⟩, fun _ _ _ _ => trivial, ?_, ?_⟩
    · rintro j v s2 hx ⟨y, p, cs, x5, x6, hpl, hall, rfl⟩
      obtain ⟨hj, rfl⟩ := rngD_get hx
      have hpa := plA_lt ok (p := p) (j := p.length) hall
      refine gt_name ?_
      refine go_sAsg (ev_lc (tg_name (.head _)) mg_name (ei_r1 (ea_cons ?_)))
      repeat walk_at "z4"
  
      rw [List.length_map]
      refine ⟨by omega, by omega, ?_⟩
      rw [Int.toNat_natCast]
      refine ⟨fun i js s => ∃ l : List Nat, l.length ≤ i ∧ (∀ q, q ∈ l → ∃ x, m.moves[q]? = some x ∧ x.src = plA m p p.length) ∧ js = inN' l ∧ s = ⟨[some (.o 0), some (.d (.list [strsT m.clocks, plcsT m.places, movsT m.moves, .int m.start, strsT m.rush, .int sc])), some (.d (.int (n : Nat))), some (.o 2), some (.d (.int (plA m (p) (p).length : Nat))), some (.d (.int (0 + (j : Int)))), x6, none], bxA y :: bxB y :: .lst (inL (p)) :: (cs ++ [.lst (inN' l)])⟩, ⟨[], Nat.le_refl _, (fun q h => nomatch h), rfl, rfl⟩, ?_, ?_, ?_⟩
      · rintro i js s3 _ ⟨l, _, _, rfl, rfl⟩
        exact ⟨trivial, cell3⟩
      · rintro i v js s3 hx ⟨l, hli, hl, rfl, rfl⟩
        obtain ⟨hi, rfl⟩ := rngD_get hx
        obtain ⟨⟨sr, tg, lb, gd, rs, sd⟩, hm⟩ : ∃ x, m.moves[i]? = some x := ⟨_, List.getElem?_eq_getElem hi⟩
        have hix : atI (m.moves.map movD) (i : Int) = some (.tuple [.int sr, .int tg, .str lb, cndsD gd, .tuple (inN' rs), .str sd]) := atI_n (by rw [List.getElem?_map, hm]; rfl)
        rw [Int.zero_add]
        refine gt_name ?_
        repeat walk_at "z4"
  
        refine ⟨fun z => ?_, fun z => ?_⟩
        · have z : sr = plA m p p.length := by have := of_decide_eq_true z; omega
          refine ev_var rfl ⟨_, rfl, cell3, Nat.lt_of_le_of_lt (show _ ≤ 1000 by rw [inN_len]; omega) (by decide), l ++ [i], by rw [List.length_append]; exact Nat.succ_le_succ hli, fun q hq => ?_, ?_, ?_⟩
          · rcases List.mem_append.mp hq with h | h
            · exact hl q h
            · rw [List.mem_singleton.mp h]; exact ⟨_, hm, z⟩
          · exact (show inN' (l ++ [i]) = inN' l ++ [.int (i : Nat)] from List.map_append ..).symm
          · show S.mk _ (List.set (bxA y :: bxB y :: C.lst (inL p) :: (cs ++ [C.lst (inN' l)])) (cs.length + 3) _) = S.mk _ _
            rw [set3, show inN' (l ++ [i]) = inN' l ++ [.int (i : Nat)] from List.map_append ..]
            rfl
        · exact ⟨l, by omega, hl, rfl, rfl⟩
      rintro js s3 ⟨l, hli, hl, rfl, rfl⟩
      rw [rngD_len] at hli
      refine gt_name ?_
      show GO K b _ ⟨[some (.o 0), some (.d (.list [strsT m.clocks, plcsT m.places, movsT m.moves, .int m.start, strsT m.rush, .int sc])), some (.d (.int (n : Nat))), some (.o 2), some (.d (.int (plA m (p) (p).length : Nat))), some (.d (.int (0 + (j : Int)))), some (.o (cs.length + 3)), none], bxA y :: bxB y :: .lst (inL (p)) :: (cs ++ [.lst (inN' l)])⟩ _
      repeat walk_at "z4"
  
      refine ev_lst ?_
      repeat walk_at "z4"
  
      refine v2_eqE (xs := inN' l) (k := 0) shp_inN (by decide) ⟨_, cell3, rfl⟩ rfl ?_
      repeat walk_at "z4"
  
      cases l with
      | nil =>
        refine ⟨fun _ => ?_, fun z => (nomatch z)⟩
        repeat walk_at "z4"
  
        exact ⟨y, p, _, _, _, by omega, hall, rfl⟩
      | cons q0 l =>
        refine ⟨fun z => (nomatch z), fun _ => ?_⟩
        refine go_next ?_
        refine go_mid (fun s => ∃ (y : Bx) (q : Nat), q ∈ q0 :: l ∧ s = ⟨[some (.o 0), some (.d (.list [strsT m.clocks, plcsT m.places, movsT m.moves, .int m.start, strsT m.rush, .int sc])), some (.d (.int (n : Nat))), some (.o 2), some (.d (.int (plA m p p.length : Nat))), some (.d (.int (0 + (j : Int)))), some (.o (cs.length + 3)), none], bxA y :: bxB y :: .lst (inL (p ++ [(q : Int)])) :: (cs ++ [.lst (inN' (q0 :: l))])⟩) ?_ ?_
        · repeat walk_at "z4"
  
          refine ev_bmL (ev_var (a := .o 2) rfl ⟨⟨2, _, rfl, rfl⟩, ?_⟩)
          repeat walk_at "z4"
  
          refine ev_tk (E := fun _ => E0) ?_
          repeat walk_at "z4"
  
          refine vc_lenV (ds := inN' (q0 :: l)) ⟨_, cell3, rfl⟩ ?_
          rw [inN_len]
          repeat walk_at "z4"
  
          refine ⟨y, _, _, _, rfl, rfl, by omega, fun g y2 g0 g1 => ?_⟩
          have g1 := g1 (by rw [List.length_cons]; omega)
          have gl : g.toNat < (q0 :: l).length := by omega
          have hat : atI (inN' (q0 :: l)) g = some (.int ((q0 :: l)[g.toNat] : Nat)) := at_map g0 (List.getElem?_eq_getElem gl)
          refine v2_ixV ⟨_, cell3, rfl⟩ hat ?_
          repeat walk_at "z4"
  
          refine vm_append (n := 2) rfl (Nat.lt_of_le_of_lt (show _ ≤ 1000 by rw [inL_len]; omega) (by decide)) ?_
          refine ⟨y2, (q0 :: l)[g.toNat], List.getElem_mem gl, ?_⟩
          rw [inL_app]
          rfl
        rintro s3 ⟨y2, q, hq, rfl⟩
        obtain ⟨⟨sr, tg, lb, gd, rs, sd⟩, hm, hsr⟩ := hl q hq
        obtain ⟨f1, f2⟩ := fits_snoc hall hm hsr
        have hmix : atI (m.moves.map movD) (q : Int) = some (.tuple [.int sr, .int tg, .str lb, cndsD gd, .tuple (inN' rs), .str sd]) := atI_n (by rw [List.getElem?_map, hm]; rfl)
        have hlast : atI (inL (p ++ [(q : Int)])) (-1) = some (.int (q : Nat)) := at_lastI
        repeat walk_at "z4"
  
        refine ⟨y2, p ++ [(q : Int)], cs ++ [.lst (inN' (q0 :: l))], some (.d (.int (0 + (j : Int)))), some (.o (cs.length + 3)), by rw [List.length_append]; exact Nat.succ_le_succ hpl, f1, ?_⟩
        rw [f2]
        rfl
    rintro s2 ⟨y, p, cs, x5, x6, hpl, hall, rfl⟩
    rw [rngD_len] at hpl
    exact ⟨y, p, cs, x5, x6, hpl, hall, rfl⟩
  rintro s1 ⟨y, p, cs, x5, x6, hpl, hall, rfl⟩
  refine go_ret (ev_dat (ev_var rfl ⟨2, _, rfl, rfl, ?_⟩))
  exact ⟨p, y, rfl, rfl, hpl, hall⟩
end
def sp__law_aim : Spc where
  I := Bx × Mch × Int × List Int
  args := fun (x, m, sc, p) => [.o 0, .d (tabD m sc), .d (.list (inL p))]
  cells := fun (x, _) => [bxA x, bxB x]
  pre := fun (_, m, sc, p) => m.Ok ∧ p.length ≤ 1000 ∧ (∀ j, j < p.length → FitA m p j) ∧ 0 ≤ sc
  post := fun (_, m, _, p) r os => ∃ (g : Gl) (y : Bx), r = .val (glD g) ∧ os = [bxA y, bxB y] ∧ goalB m g = true ∧ g.1.length ≤ 4 ∧ g.2.length ≤ 3
section
variable {P : Program} {w : World} {K : PySem.W.Frag} {mg : Str → Option Value} {base : Heap}
theorem ok__law_aim (T : Tx P K mg) : FnOk P w K mg base CX0 4 T.a__law_aim T.d__law_aim ["box", "table", "path"] (SpB K sp__law_aim) := by
  refine T.F__law_aim.ok sc__law_aim (fun vs H Q E h => spB_len h (fun _ => rfl)) (fun cdv A outer s H vs Q E hr h => ⟨_, PSs.nox ((pss_cons (ps_set (i := 3) sc__law_aim.nd rfl (.inl rfl) (pe_ix ix_seq (pv 1) pe_int (fun _ _ => rfl)))
      (pss_cons (ps_if (pt_cmpR (op_neD hr.units) (pv 2) (pe_lst pa_nil) (nomark _))
      (pss_one (ps_set (i := 3) sc__law_aim.nd rfl (.inl rfl) (pe_ix ix_seq (pe_ix ix_seq (pe_ix ix_seq (pv 1) pe_int (fun _ _ => rfl)) (pe_ix ix_seq (pv 2) (pe_un un_neg pe_int) (fun _ _ => rfl)) (fun _ _ => rfl)) pe_int (fun _ _ => rfl))))
      pss_nil)
      (pss_cons (ps_set (i := 4) sc__law_aim.nd rfl (.inl rfl) (pe_lst pa_nil))
      (pss_cons (ps_for PassesOwn.never rfl (pi_range1 (by rfl) T.z_range (pa_cons (pe_call (ok__law_take T) (hr.mono (by decide)) (by rfl) T.g__law_take T.F__law_take.kp (b__law_take T.F__law_take) .nil pass0 (pa_cons (pv 0) (pa_cons pe_int pa_nil))) pa_nil)) (pg_name (i := 5) sc__law_aim.nd rfl (.inl rfl) (.inr rfl))
      (pss_one (ps_expr (pe_bm PySem.F.plainAttrs_list PySem.F.slot_list_append PySem.F.type_list_append mt_append (pv 4) (pa_cons (pe_call (ok__law_take T) (hr.mono (by decide)) (by rfl) T.g__law_take T.F__law_take.kp (b__law_take T.F__law_take) .nil pass0 (pa_cons (pv 0) (pa_cons (pe_callB call_len (by rfl) T.z_len (by decide +kernel) (pa_cons (pe_ix ix_seq (pv 1) pe_int (fun _ _ => rfl)) pa_nil)) pa_nil))) pa_nil)))))
      (pss_cons (ps_if (pt_cmpR op_gtA (pe_call (ok__law_take T) (hr.mono (by decide)) (by rfl) T.g__law_take T.F__law_take.kp (b__law_take T.F__law_take) .nil pass0 (pa_cons (pv 0) (pa_cons pe_int pa_nil))) pe_int (nomark _))
      (pss_one (ps_expr (pe_bm PySem.F.plainAttrs_list PySem.F.slot_list_insert PySem.F.type_list_insert mt_insert (pv 4) (pa_cons (pe_call (ok__law_take T) (hr.mono (by decide)) (by rfl) T.g__law_take T.F__law_take.kp (b__law_take T.F__law_take) .nil pass0 (pa_cons (pv 0) (pa_cons (pe_op op_addA (pe_callB call_len (by rfl) T.z_len (by decide +kernel) (pa_cons (pv 4) pa_nil)) pe_int) pa_nil))) (pa_cons (pv 3) pa_nil)))))
      pss_nil)
      (pss_one (ps_ret (pe_tup (pa_cons (pe_callTy (call_tupA (K := K) rfl) (by rfl) T.z_tuple (by decide +kernel) (pa_cons (pv 4) pa_nil)) (pa_cons (pe_call (ok__law_guard T) (hr.mono (by decide)) (by rfl) T.g__law_guard T.F__law_guard.kp (b__law_guard T.F__law_guard) .nil pass0 (pa_cons (pv 0) (pa_cons (pe_callB call_len (by rfl) T.z_len (by decide +kernel) (pa_cons (pe_ix ix_seq (pv 1) pe_int (fun _ _ => rfl)) pa_nil)) (pa_cons (pe_ix ix_seq (pv 1) pe_int (fun _ _ => rfl)) pa_nil)))) pa_nil))))))))))), ?_⟩)
  refine go_fn (L := ["box", "table", "path", "last", "spots", "turn"]) h (fun b i hp hX => ?_)
  try dsimp only [cxOf, L2H.cxH, L2.Cx.nox, L2.Cx.wish]
  have kLET := cLET T
  have kNMC := cNMC T
  have kLON := cLON T
  have kSIG := T.w_SIGNS
  have kSTA := T.w_STAY_SIGNS
  have kSID := T.w_SIDES
  
  obtain ⟨x, m, sc, p⟩ := i
  obtain ⟨ok, h2, hfit, s0⟩ := hp
  have p0 : 0 < m.places.length := ok.p0
  have p200 : m.places.length ≤ 200 := ok.p2
  have c8 : m.clocks.length ≤ 8 := ok.c8
  show GO K b _ ⟨[some (.o 0), some (.d (.list [strsT m.clocks, plcsT m.places, movsT m.moves, .int m.start, strsT m.rush, .int sc])), some (.d (.list (inL p))), none, none, none], [bxA x, bxB x]⟩ _
  refine go_mid (fun s => s = ⟨[some (.o 0), some (.d (.list [strsT m.clocks, plcsT m.places, movsT m.moves, .int m.start, strsT m.rush, .int sc])), some (.d (.list (inL p))), some (.d (.int (m.start : Nat))), none, none], [bxA x, bxB x]⟩) ?_ ?_
  · repeat walk_at "z4"
  
    exact rfl
  rintro s1 rfl
  refine go_mid (fun s => s = ⟨[some (.o 0), some (.d (.list [strsT m.clocks, plcsT m.places, movsT m.moves, .int m.start, strsT m.rush, .int sc])), some (.d (.list (inL p))), some (.d (.int (plA m p p.length : Nat))), none, none], [bxA x, bxB x]⟩) ?_ ?_
  · repeat walk_at "z4"
  
    refine ev_lst ?_
    repeat walk_at "z4"
  
    refine v2_neLn (l := p) rfl rfl ?_
    repeat walk_at "z4"
  
    rcases nil_snoc p with rfl | ⟨p', k, rfl⟩
    · refine ⟨fun z => absurd z (by simp), fun _ => ?_⟩
      refine go_next ?_
      exact rfl
    · refine ⟨fun _ => ?_, fun z => absurd z (by simp)⟩
      have e : (p' ++ [k])[p'.length]? = some k := by simp
      obtain ⟨k0, ⟨sr, tg, lb, gd, rs, sd⟩, hm, _⟩ := hfit p'.length (by simp)
      rw [getD_of e] at k0 hm
      have hmix : atI (m.moves.map movD) k = some (.tuple [.int sr, .int tg, .str lb, cndsD gd, .tuple (inN' rs), .str sd]) := at_map k0 hm
      have hlast : atI (inL (p' ++ [k])) (-1) = some (.int k) := at_lastI
      repeat walk_at "z4"
  
      rw [show (p' ++ [k]).length = p'.length + 1 by simp, plA_succ e hm]
      rfl
  rintro s1 rfl
  refine go_sAsg (ev_lstO (ea_nil ⟨[], rfl, rfl, gt_name ?_⟩))
  refine go_mid (fun s => ∃ (y : Bx) (sp : List Int) (x5 : Option Dw.A), sp.length ≤ 3 ∧ (∀ k, k ∈ sp → 0 ≤ k ∧ k < (m.places.length : Int)) ∧ s = ⟨[some (.o 0), some (.d (.list [strsT m.clocks, plcsT m.places, movsT m.moves, .int m.start, strsT m.rush, .int sc])), some (.d (.list (inL p))), some (.d (.int (plA m p p.length : Nat))), some (.o 2), x5], [bxA y, bxB y, .lst (inL sp)]⟩) ?_ ?_
  · refine go_for (ei_r1 (ea_cons ?_))
    repeat walk_at "z4"
    refine ev_tk (E := fun _ => E0) ?_
    repeat walk_at "z4"
    refine ⟨x, 3, _, _, rfl, rfl, by decide, fun t y t0 t1 => ?_⟩
    have t1 := t1 (by decide)
  
    refine ea_nil ⟨t, rfl, by omega, by omega, ?_⟩
    refine ⟨fun j s => ∃ (y : Bx) (sp : List Int) (x5 : Option Dw.A), sp.length ≤ j ∧ (∀ k, k ∈ sp → 0 ≤ k ∧ k < (m.places.length : Int)) ∧ s = ⟨[some (.o 0), some (.d (.list [strsT m.clocks, plcsT m.places, movsT m.moves, .int m.start, strsT m.rush, .int sc])), some (.d (.list (inL p))), some (.d (.int (plA m p p.length : Nat))), some (.o 2), x5], [bxA y, bxB y, .lst (inL sp)]⟩, ⟨y, [], none, Nat.le_refl _, (fun k h => nomatch h), rfl⟩, fun _ _ _ _ => trivial, ?_, ?_⟩
    · rintro j v s2 hx ⟨y, sp, x5, hl, hr, rfl⟩
      obtain ⟨hj, rfl⟩ := rngD_get hx
      have hj : j < t.toNat := hj
      refine gt_name ?_
      repeat walk_at "z4"
  
      refine ev_bmL (ev_var (a := .o 2) rfl ⟨⟨2, _, rfl, rfl⟩, ?_⟩)
      repeat walk_at "z4"
  
      refine ev_tk (E := fun _ => E0) ?_
      repeat walk_at "z4"
  
      rw [List.length_map]
      refine ⟨y, _, _, _, rfl, rfl, by omega, fun g y2 g0 g1 => ?_⟩
      have g1 := g1 (by omega)
      repeat walk_at "z4"
  
      refine vm_append (n := 2) rfl (Nat.lt_of_le_of_lt (show _ ≤ 1000 by rw [inL_len]; omega) (by decide)) ?_
      refine ⟨y2, sp ++ [g], _, by rw [List.length_append]; exact Nat.succ_le_succ hl, fun k hk => ?_, by rw [inL_app]; rfl⟩
      rcases List.mem_append.mp hk with h | h
      · exact hr k h
      · rw [List.mem_singleton.mp h]; exact ⟨g0, g1⟩
    rintro s2 ⟨y, sp, x5, hl, hr, rfl⟩
    rw [rngD_len] at hl
    exact ⟨y, sp, x5, by omega, hr, rfl⟩
  rintro s1 ⟨y, sp, x5, hl, hr, rfl⟩
  refine go_mid (fun s => ∃ (y : Bx) (sp : List Int), sp.length ≤ 4 ∧ (∀ k, k ∈ sp → 0 ≤ k ∧ k < (m.places.length : Int)) ∧ s = ⟨[some (.o 0), some (.d (.list [strsT m.clocks, plcsT m.places, movsT m.moves, .int m.start, strsT m.rush, .int sc])), some (.d (.list (inL p))), some (.d (.int (plA m p p.length : Nat))), some (.o 2), x5], [bxA y, bxB y, .lst (inL sp)]⟩) ?_ ?_
  · repeat walk_at "z4"
    refine ev_tk (E := fun _ => E0) ?_
    repeat walk_at "z4"
    refine ⟨y, 4, _, _, rfl, rfl, by decide, fun t y2 t0 t1 => ?_⟩
    have t1 := t1 (by decide)
  
    repeat walk_at "z4"
  
    refine ⟨fun z => ?_, fun z => ?_⟩
    · repeat walk_at "z4"
  
      refine ev_bmL (ev_var (a := .o 2) rfl ⟨⟨2, _, rfl, rfl⟩, ?_⟩)
      repeat walk_at "z4"
  
      refine ev_tk (E := fun _ => E0) ?_
      repeat walk_at "z4"
  
      refine vc_lenV (ds := inL sp) ⟨_, rfl, rfl⟩ ?_
      rw [inL_len]
      repeat walk_at "z4"
  
      refine ⟨y2, _, _, _, rfl, rfl, by omega, fun g y3 g0 g1 => ?_⟩
      have g1 := g1 (by omega)
      repeat walk_at "z4"
  
      refine vm_insert (n := 2) (ds := inL sp) rfl (Nat.lt_of_le_of_lt (show _ ≤ 1000 by rw [inL_len]; omega) (by decide)) g0 (by omega) ?_
      have e : (inL sp).take g.toNat ++ [.int (plA m p p.length : Nat)] ++ (inL sp).drop g.toNat = inL (sp.take g.toNat ++ [((plA m p p.length : Nat) : Int)] ++ sp.drop g.toNat) := by
        unfold inL
        rw [List.map_append, List.map_append, List.map_take, List.map_drop]
        rfl
      rw [e]
      refine ⟨y3, sp.take g.toNat ++ [((plA m p p.length : Nat) : Int)] ++ sp.drop g.toNat, ?_, fun k hk => ?_, rfl⟩
      · rw [List.length_append, List.length_append, List.length_take, List.length_drop, List.length_singleton]; omega
      · rcases List.mem_append.mp hk with h | h
        · rcases List.mem_append.mp h with h | h
          · exact hr k (List.mem_of_mem_take h)
          · have := plA_lt ok (p := p) (j := p.length) hfit
            rw [List.mem_singleton.mp h]; omega
        · exact hr k (List.mem_of_mem_drop h)
    · refine go_next ?_
      exact ⟨y2, sp, by omega, hr, rfl⟩
  rintro s1 ⟨y2, sp, hl, hr, rfl⟩
  repeat walk_at "z4"
  
  refine vc_tupL (ds := inL sp) ⟨_, rfl, rfl⟩ ?_
  repeat walk_at "z4"
  
  refine ev_box (E := fun _ => E0) ?_
  repeat walk_at "z4"
  
  refine ⟨(y2, m.clocks.length, sc), y2, _, _, _, rfl, rfl, by rw [List.length_map]; rfl, rfl, rfl, ⟨by omega, s0⟩, fun r os' hr => ?_, fun _ _ h => h⟩
  obtain ⟨gd, y3, rfl, rfl, gl, hgd⟩ := hr
  refine ⟨y3, rfl, ?_⟩
  dsimp only [aft]
  repeat walk_at "z4"
  
  refine ⟨(sp, gd.map gC), y3, ?_, rfl, ?_, hl, by rw [List.length_map]; exact gl⟩
  · show Rv.val (.tuple [.tuple (inL sp), .tuple (gd.map cndD)]) = Rv.val (.tuple [.tuple (inL sp), .tuple ((gd.map gC).map gcD)])
    rw [cnds_gC]
  · show (sp.all _ && (gd.map gC).all _) = true
    rw [Bool.and_eq_true_iff]
    exact ⟨List.all_eq_true.mpr fun k hk => decide_eq_true (by first | exact hr k hk | assumption), List.all_eq_true.mpr (gds_ok hgd)⟩
end
def sp__law_bad_paths : Spc where
  I := Bx × Mch × Int × List Int
  args := fun (x, m, sc, p) => [.o 0, .d (tabD m sc), .d (.list (inL p))]
  cells := fun (x, _) => [bxA x, bxB x]
  pre := fun (_, m, sc, p) => m.Ok ∧ p.length ≤ 200
  post := fun (_, m, _, p) r os => ∃ (bs : List (List Int)) (y : Bx), r = .val (.list (psD bs)) ∧ os = [bxA y, bxB y] ∧ (∀ q, q ∈ bs → q.length ≤ 500) ∧ 0 < bs.length ∧ bs.length ≤ 10
section
variable {P : Program} {w : World} {K : PySem.W.Frag} {mg : Str → Option Value} {base : Heap}
theorem ok__law_bad_paths (T : Tx P K mg) : FnOk P w K mg base CX0 2 T.a__law_bad_paths T.d__law_bad_paths ["box", "table", "path"] (SpB K sp__law_bad_paths) := by
  refine T.F__law_bad_paths.ok sc__law_bad_paths (fun vs H Q E h => spB_len h (fun _ => rfl)) (fun cdv A outer s H vs Q E hr h => ⟨_, PSs.nox ((pss_cons (ps_set (i := 3) sc__law_bad_paths.nd rfl (.inl rfl) (pe_callB call_len (by rfl) T.z_len (by decide +kernel) (pa_cons (pe_ix ix_seq (pv 1) pe_int (fun _ _ => rfl)) pa_nil)))
      (pss_cons (ps_set (i := 4) sc__law_bad_paths.nd rfl (.inl rfl) (pe_call (ok__law_take T) (hr.mono (by decide)) (by rfl) T.g__law_take T.F__law_take.kp (b__law_take T.F__law_take) .nil pass0 (pa_cons (pv 0) (pa_cons (pe_op op_addA (pe_callB call_len (by rfl) T.z_len (by decide +kernel) (pa_cons (pv 2) pa_nil)) pe_int) pa_nil))))
      (pss_cons (ps_set (i := 5) sc__law_bad_paths.nd rfl (.inl rfl) (pe_lst (pa_cons (pe_op op_addA (pe_op op_addA (pe_slice sl_any (pv 2) po_none (po_some (pv 4))) (pe_lst (pa_cons (pe_un un_neg pe_int) pa_nil))) (pe_slice sl_any (pv 2) (po_some (pv 4)) po_none)) (pa_cons (pe_op op_addA (pe_op op_addA (pe_slice sl_any (pv 2) po_none (po_some (pv 4))) (pe_lst (pa_cons (pv 3) pa_nil))) (pe_slice sl_any (pv 2) (po_some (pv 4)) po_none)) (pa_cons (pe_op op_addA (pe_slice sl_any (pv 2) po_none (po_some (pv 4))) (pe_lst (pa_cons (pe_op op_addA (pv 3) pe_int) (pa_cons (pe_un un_neg pe_int) pa_nil)))) pa_nil)))))
      (pss_cons (ps_expr (pe_bm PySem.F.plainAttrs_list PySem.F.slot_list_append PySem.F.type_list_append mt_append (pv 5) (pa_cons (pe_op op_addA (pe_op op_addA (pe_slice sl_any (pv 2) po_none (po_some (pv 4))) (pe_lst (pa_cons (pe_call (ok__law_take T) (hr.mono (by decide)) (by rfl) T.g__law_take T.F__law_take.kp (b__law_take T.F__law_take) .nil pass0 (pa_cons (pv 0) (pa_cons (pe_op op_addA (pv 3) pe_int) pa_nil))) pa_nil))) (pe_slice sl_any (pv 2) (po_some (pv 4)) po_none)) pa_nil)))
      (pss_cons (ps_expr (pe_bm PySem.F.plainAttrs_list PySem.F.slot_list_append PySem.F.type_list_append mt_append (pv 5) (pa_cons (pe_op op_addA (pe_slice sl_any (pv 2) po_none (po_some (pv 4))) (pe_slice sl_any (pv 2) (po_some (pe_op op_addA (pv 4) pe_int)) po_none)) pa_nil)))
      (pss_cons (ps_expr (pe_bm PySem.F.plainAttrs_list PySem.F.slot_list_append PySem.F.type_list_append mt_append (pv 5) (pa_cons (pe_lstRev rfl (by rfl) T.z_list (by rfl) T.z_reversed (pe_callTy call_list_of (by rfl) T.z_list (by decide +kernel) (pa_cons (pv 2) pa_nil))) pa_nil)))
      (pss_cons (ps_if (pt_cmpR op_ltA (pv 4) (pe_callB call_len (by rfl) T.z_len (by decide +kernel) (pa_cons (pv 2) pa_nil)) (nomark _))
      (pss_one (ps_expr (pe_bm PySem.F.plainAttrs_list PySem.F.slot_list_append PySem.F.type_list_append mt_append (pv 5) (pa_cons (pe_op op_addA (pe_op op_addA (pe_slice sl_any (pv 2) po_none (po_some (pv 4))) (pe_lst (pa_cons (pe_op op_sub (pe_ix ix_seq (pv 2) (pv 4) (fun _ _ => rfl)) (pv 3)) pa_nil))) (pe_slice sl_any (pv 2) (po_some (pe_op op_addA (pv 4) pe_int)) po_none)) pa_nil))))
      pss_nil)
      (pss_one (ps_ret (pv 5))))))))))), ?_⟩)
  refine go_fn (L := ["box", "table", "path", "many", "cut", "bad"]) h (fun b i hp hX => ?_)
  try dsimp only [cxOf, L2H.cxH, L2.Cx.nox, L2.Cx.wish]
  have kLET := cLET T
  have kNMC := cNMC T
  have kLON := cLON T
  have kSIG := T.w_SIGNS
  have kSTA := T.w_STAY_SIGNS
  have kSID := T.w_SIDES
  
  obtain ⟨x, m, sc, p⟩ := i
  obtain ⟨ok, h2⟩ := hp
  have h2 : p.length ≤ 200 := h2
  have m1 : m.moves.length ≤ 1000 := ok.m1
  show GO K b _ ⟨[some (.o 0), some (.d (.list [strsT m.clocks, plcsT m.places, movsT m.moves, .int m.start, strsT m.rush, .int sc])), some (.d (.list (inL p))), none, none, none], [bxA x, bxB x]⟩ _
  refine go_mid (fun s => s = ⟨[some (.o 0), some (.d (.list [strsT m.clocks, plcsT m.places, movsT m.moves, .int m.start, strsT m.rush, .int sc])), some (.d (.list (inL p))), some (.d (.int (m.moves.length : Nat))), none, none], [bxA x, bxB x]⟩) ?_ ?_
  · repeat walk_at "z4"
  
    rw [List.length_map]
    exact rfl
  rintro s1 rfl
  refine go_mid (fun s => ∃ (y : Bx) (cut : Int), (0 ≤ cut ∧ cut ≤ p.length) ∧ s = ⟨[some (.o 0), some (.d (.list [strsT m.clocks, plcsT m.places, movsT m.moves, .int m.start, strsT m.rush, .int sc])), some (.d (.list (inL p))), some (.d (.int (m.moves.length : Nat))), some (.d (.int cut)), none], [bxA y, bxB y]⟩) ?_ ?_
  · repeat walk_at "z4"
  
    refine ev_tk (E := fun _ => E0) ?_
    repeat walk_at "z4"
  
    rw [inL_len]
    repeat walk_at "z4"
  
    refine ⟨x, _, _, _, rfl, rfl, by omega, fun g y g0 g1 => ?_⟩
    have g1 := g1 (by omega)
    repeat walk_at "z4"
  
    exact ⟨y, g, ⟨g0, by omega⟩, rfl⟩
  rintro s1 ⟨y, cut, ⟨c0, c1⟩, rfl⟩
  obtain ⟨a1, e1, l1⟩ := cutL p none (some cut)
  obtain ⟨a2, e2, l2⟩ := cutL p (some cut) none
  obtain ⟨a3, e3, l3⟩ := cutL p (some (cut + 1)) none
  refine go_mid (fun s => ∃ (y : Bx) (bs : List (List Int)), ((∀ q, q ∈ bs → q.length ≤ 500) ∧ 0 < bs.length ∧ bs.length ≤ 3) ∧ s = ⟨[some (.o 0), some (.d (.list [strsT m.clocks, plcsT m.places, movsT m.moves, .int m.start, strsT m.rush, .int sc])), some (.d (.list (inL p))), some (.d (.int (m.moves.length : Nat))), some (.d (.int cut)), some (.o 2)], [bxA y, bxB y, .lst (psD bs)]⟩) ?_ ?_
  · refine go_asg (ev_lstO ?_)
    repeat walk_at "z4"
    refine vs_list (ds := inL p) rfl ?_
    rw [e1]
    repeat walk_at "z4"
    refine ev_lst ?_
    repeat walk_at "z4"
    refine v2_addL rfl rfl (Nat.le_trans (show _ ≤ 2000 by simp only [List.length_append, inL_len, List.length_cons, List.length_nil]; omega) (by decide)) ?_
    repeat walk_at "z4"
    refine vs_list (ds := inL p) rfl ?_
    rw [e2]
    refine v2_addL rfl rfl (Nat.le_trans (show _ ≤ 2000 by simp only [List.length_append, inL_len, List.length_cons, List.length_nil]; omega) (by decide)) ?_
    repeat walk_at "z4"
    refine vs_list (ds := inL p) rfl ?_
    rw [e1]
    repeat walk_at "z4"
    refine ev_lst ?_
    repeat walk_at "z4"
    refine v2_addL rfl rfl (Nat.le_trans (show _ ≤ 2000 by simp only [List.length_append, inL_len, List.length_cons, List.length_nil]; omega) (by decide)) ?_
    repeat walk_at "z4"
    refine vs_list (ds := inL p) rfl ?_
    rw [e2]
    refine v2_addL rfl rfl (Nat.le_trans (show _ ≤ 2000 by simp only [List.length_append, inL_len, List.length_cons, List.length_nil]; omega) (by decide)) ?_
    repeat walk_at "z4"
    refine vs_list (ds := inL p) rfl ?_
    rw [e1]
    repeat walk_at "z4"
    refine ev_lst ?_
    repeat walk_at "z4"
    refine v2_addL rfl rfl (Nat.le_trans (show _ ≤ 2000 by simp only [List.length_append, inL_len, List.length_cons, List.length_nil]; omega) (by decide)) ?_
    repeat walk_at "z4"
  
    refine ⟨y, [a1 ++ [-1] ++ a2, a1 ++ [((m.moves.length : Nat) : Int)] ++ a2, a1 ++ [((m.moves.length : Nat) : Int) + 5, -1]], ⟨fun q hq => ?_, (show 0 < 3 by decide), (show 3 ≤ 3 by decide)⟩, ?_⟩
    · simp only [List.mem_cons, List.not_mem_nil, or_false] at hq
      rcases hq with rfl | rfl | rfl <;> simp <;> omega
    · simp only [psD, List.map_cons, List.map_nil, inL_app]
      rfl
  rintro s1 ⟨y, bs, ⟨hb, hb0, hbl⟩, rfl⟩
  refine go_mid (fun s => ∃ (y : Bx) (bs : List (List Int)), ((∀ q, q ∈ bs → q.length ≤ 500) ∧ 0 < bs.length ∧ bs.length ≤ 4) ∧ s = ⟨[some (.o 0), some (.d (.list [strsT m.clocks, plcsT m.places, movsT m.moves, .int m.start, strsT m.rush, .int sc])), some (.d (.list (inL p))), some (.d (.int (m.moves.length : Nat))), some (.d (.int cut)), some (.o 2)], [bxA y, bxB y, .lst (psD bs)]⟩) ?_ ?_
  · repeat walk_at "z4"
    refine ev_bmL (ev_var (a := .o 2) rfl ⟨⟨2, _, rfl, rfl⟩, ?_⟩)
    repeat walk_at "z4"
    refine vs_list (ds := inL p) rfl ?_
    rw [e1]
    repeat walk_at "z4"
    refine ev_lst ?_
    repeat walk_at "z4"
    refine ev_tk (E := fun _ => E0) ?_
    repeat walk_at "z4"
    refine ⟨y, _, _, _, rfl, rfl, by omega, fun g y2 g0 g1 => ?_⟩
    repeat walk_at "z4"
    refine v2_addL rfl rfl (Nat.le_trans (show _ ≤ 2000 by simp only [List.length_append, inL_len, List.length_cons, List.length_nil]; omega) (by decide)) ?_
    repeat walk_at "z4"
    refine vs_list (ds := inL p) rfl ?_
    rw [e2]
    refine v2_addL rfl rfl (Nat.le_trans (show _ ≤ 2000 by simp only [List.length_append, inL_len, List.length_cons, List.length_nil]; omega) (by decide)) ?_
    repeat walk_at "z4"
    refine vm_append (n := 2) rfl (Nat.lt_of_le_of_lt (show _ ≤ 1000 by rw [psD, List.length_map]; omega) (by decide)) ?_
    refine ⟨y2, bs ++ [a1 ++ [g] ++ a2], ⟨fun q hq => ?_, by rw [List.length_append]; omega, by rw [List.length_append, List.length_singleton]; omega⟩, ?_⟩
    · rcases List.mem_append.mp hq with h | h
      · exact hb q h
      · rw [List.mem_singleton.mp h]; simp only [List.length_append, List.length_singleton, List.length_reverse]; omega
    · rw [show psD (bs ++ [a1 ++ [g] ++ a2]) = psD bs ++ [.list (inL a1 ++ [.int g] ++ inL a2)] by rw [psD, psD, List.map_append]; simp [inL]]
      rfl
  
  clear hb hb0 hbl y bs
  rintro s1 ⟨y, bs, ⟨hb, hb0, hbl⟩, rfl⟩
  refine go_mid (fun s => ∃ (y : Bx) (bs : List (List Int)), ((∀ q, q ∈ bs → q.length ≤ 500) ∧ 0 < bs.length ∧ bs.length ≤ 5) ∧ s = ⟨[some (.o 0), some (.d (.list [strsT m.clocks, plcsT m.places, movsT m.moves, .int m.start, strsT m.rush, .int sc])), some (.d (.list (inL p))), some (.d (.int (m.moves.length : Nat))), some (.d (.int cut)), some (.o 2)], [bxA y, bxB y, .lst (psD bs)]⟩) ?_ ?_
  · repeat walk_at "z4"
    refine ev_bmL (ev_var (a := .o 2) rfl ⟨⟨2, _, rfl, rfl⟩, ?_⟩)
    repeat walk_at "z4"
    refine vs_list (ds := inL p) rfl ?_
    rw [e1]
    repeat walk_at "z4"
    refine vs_list (ds := inL p) rfl ?_
    rw [e3]
    refine v2_addL rfl rfl (Nat.le_trans (show _ ≤ 2000 by simp only [List.length_append, inL_len, List.length_cons, List.length_nil]; omega) (by decide)) ?_
    repeat walk_at "z4"
    refine vm_append (n := 2) rfl (Nat.lt_of_le_of_lt (show _ ≤ 1000 by rw [psD, List.length_map]; omega) (by decide)) ?_
    refine ⟨y, bs ++ [a1 ++ a3], ⟨fun q hq => ?_, by rw [List.length_append]; omega, by rw [List.length_append, List.length_singleton]; omega⟩, ?_⟩
    · rcases List.mem_append.mp hq with h | h
      · exact hb q h
      · rw [List.mem_singleton.mp h]; simp only [List.length_append, List.length_singleton, List.length_reverse]; omega
    · rw [show psD (bs ++ [a1 ++ a3]) = psD bs ++ [.list (inL a1 ++ inL a3)] by rw [psD, psD, List.map_append]; simp [inL]]
      rfl
  
  clear hb hb0 hbl y bs
  rintro s1 ⟨y, bs, ⟨hb, hb0, hbl⟩, rfl⟩
  refine go_mid (fun s => ∃ (y : Bx) (bs : List (List Int)), ((∀ q, q ∈ bs → q.length ≤ 500) ∧ 0 < bs.length ∧ bs.length ≤ 6) ∧ s = ⟨[some (.o 0), some (.d (.list [strsT m.clocks, plcsT m.places, movsT m.moves, .int m.start, strsT m.rush, .int sc])), some (.d (.list (inL p))), some (.d (.int (m.moves.length : Nat))), some (.d (.int cut)), some (.o 2)], [bxA y, bxB y, .lst (psD bs), .dead]⟩) ?_ ?_
  · repeat walk_at "z4"
    refine ev_bmL (ev_var (a := .o 2) rfl ⟨⟨2, _, rfl, rfl⟩, ?_⟩)
    refine ea_cons (ev_dat (ev_lstRev ?_))
    repeat walk_at "z4"
    refine vc_list (ds := inL p) (.inl rfl) ?_
    refine ⟨inL p, rfl, ?_⟩
    refine ⟨3, _, rfl, rfl, ?_⟩
    refine ea_nil ?_
    refine vm_append (n := 2) rfl (Nat.lt_of_le_of_lt (show _ ≤ 1000 by rw [psD, List.length_map]; omega) (by decide)) ?_
    refine ⟨y, bs ++ [p.reverse], ⟨fun q hq => ?_, by rw [List.length_append]; omega, by rw [List.length_append, List.length_singleton]; omega⟩, ?_⟩
    · rcases List.mem_append.mp hq with h | h
      · exact hb q h
      · rw [List.mem_singleton.mp h]; simp only [List.length_append, List.length_singleton, List.length_reverse]; omega
    · rw [show psD (bs ++ [p.reverse]) = psD bs ++ [.list ((inL p).reverse)] by rw [psD, psD, List.map_append]; simp [inL]]
      rfl
  
  clear hb hb0 hbl y bs
  rintro s1 ⟨y, bs, ⟨hb, hb0, hbl⟩, rfl⟩
  refine go_mid (fun s => ∃ (y : Bx) (bs : List (List Int)), ((∀ q, q ∈ bs → q.length ≤ 500) ∧ 0 < bs.length ∧ bs.length ≤ 7) ∧ s = ⟨[some (.o 0), some (.d (.list [strsT m.clocks, plcsT m.places, movsT m.moves, .int m.start, strsT m.rush, .int sc])), some (.d (.list (inL p))), some (.d (.int (m.moves.length : Nat))), some (.d (.int cut)), some (.o 2)], [bxA y, bxB y, .lst (psD bs), .dead]⟩) ?_ ?_
  · repeat walk_at "z4"
  
    rw [inL_len]
    repeat walk_at "z4"
  
    refine ⟨fun z => ?_, fun z => ?_⟩
    · have z : cut < p.length := by have := of_decide_eq_true z; omega
      obtain ⟨k, hk⟩ : ∃ k, p[cut.toNat]? = some k := ⟨_, List.getElem?_eq_getElem (by omega)⟩
      have hix : atI (inL p) cut = some (.int k) := at_map c0 hk
      repeat walk_at "z4"
      refine ev_bmL (ev_var (a := .o 2) rfl ⟨⟨2, _, rfl, rfl⟩, ?_⟩)
      repeat walk_at "z4"
      refine vs_list (ds := inL p) rfl ?_
      rw [e1]
      repeat walk_at "z4"
      refine ev_lst ?_
      repeat walk_at "z4"
      refine v2_addL rfl rfl (Nat.le_trans (show _ ≤ 2000 by simp only [List.length_append, inL_len, List.length_cons, List.length_nil]; omega) (by decide)) ?_
      repeat walk_at "z4"
      refine vs_list (ds := inL p) rfl ?_
      rw [e3]
      refine v2_addL rfl rfl (Nat.le_trans (show _ ≤ 2000 by simp only [List.length_append, inL_len, List.length_cons, List.length_nil]; omega) (by decide)) ?_
      repeat walk_at "z4"
      refine vm_append (n := 2) rfl (Nat.lt_of_le_of_lt (show _ ≤ 1000 by rw [psD, List.length_map]; omega) (by decide)) ?_
      refine ⟨y, bs ++ [a1 ++ [k - ((m.moves.length : Nat) : Int)] ++ a3], ⟨fun q hq => ?_, by rw [List.length_append]; omega, by rw [List.length_append, List.length_singleton]; omega⟩, ?_⟩
      · rcases List.mem_append.mp hq with h | h
        · exact hb q h
        · rw [List.mem_singleton.mp h]; simp only [List.length_append, List.length_singleton, List.length_reverse]; omega
      · rw [show psD (bs ++ [a1 ++ [k - ((m.moves.length : Nat) : Int)] ++ a3]) = psD bs ++ [.list (inL a1 ++ [.int (k - ((m.moves.length : Nat) : Int))] ++ inL a3)] by rw [psD, psD, List.map_append]; simp [inL]]
        rfl
  
    · refine go_next ?_
      exact ⟨y, bs, ⟨hb, hb0, by omega⟩, rfl⟩
  clear hb hb0 hbl y bs
  rintro s1 ⟨y, bs, ⟨hb, hb0, hbl⟩, rfl⟩
  refine go_ret (ev_dat (ev_var rfl ⟨2, _, rfl, rfl, ?_⟩))
  exact ⟨bs, y, rfl, rfl, hb, hb0, by omega⟩
end
def sp__law_bad_aims : Spc where
  I := Bx × Mch × Int × Gl
  args := fun (x, m, sc, g) => [.o 0, .d (tabD m sc), .d (glD g)]
  cells := fun (x, _) => [bxA x, bxB x]
  pre := fun (_, m, sc, g) => m.Ok ∧ g.1.length ≤ 200 ∧ g.2.length ≤ 200
  post := fun (_, m, _, g) r os => ∃ (gs : List Gl) (y : Bx), r = .val (.list (gs.map glD)) ∧ os = [bxA y, bxB y] ∧ (∀ g, g ∈ gs → goalB m g = false ∧ g.2.length ≤ 1000)
section
variable {P : Program} {w : World} {K : PySem.W.Frag} {mg : Str → Option Value} {base : Heap}
theorem ok__law_bad_aims (T : Tx P K mg) : FnOk P w K mg base CX0 2 T.a__law_bad_aims T.d__law_bad_aims ["box", "table", "aim"] (SpB K sp__law_bad_aims) := by
  refine T.F__law_bad_aims.ok sc__law_bad_aims (fun vs H Q E h => spB_len h (fun _ => rfl)) (fun cdv A outer s H vs Q E hr h => ⟨_, PSs.nox ((pss_cons (ps_set (i := 3) sc__law_bad_aims.nd rfl (.inl rfl) (pe_ix ix_seq (pv 2) pe_int (fun _ _ => rfl)))
      (pss_cons (ps_set (i := 4) sc__law_bad_aims.nd rfl (.inl rfl) (pe_ix ix_seq (pv 2) pe_int (fun _ _ => rfl)))
      (pss_cons (ps_set (i := 5) sc__law_bad_aims.nd rfl (.inl rfl) (pe_callB call_len (by rfl) T.z_len (by decide +kernel) (pa_cons (pe_ix ix_seq (pv 1) pe_int (fun _ _ => rfl)) pa_nil)))
      (pss_cons (ps_set (i := 6) sc__law_bad_aims.nd rfl (.inl rfl) (pe_call (ok__law_take T) (hr.mono (by decide)) (by rfl) T.g__law_take T.F__law_take.kp (b__law_take T.F__law_take) .nil pass0 (pa_cons (pv 0) (pa_cons (pe_op op_addA (pe_callB call_len (by rfl) T.z_len (by decide +kernel) (pa_cons (pv 3) pa_nil)) pe_int) pa_nil))))
      (pss_cons (ps_set (i := 7) sc__law_bad_aims.nd rfl (.inl rfl) (pe_lst (pa_cons (pe_tup (pa_cons (pe_op op_addA (pe_op op_addA (pe_slice sl_any (pv 3) po_none (po_some (pv 6))) (pe_tup (pa_cons (pe_un un_neg pe_int) pa_nil))) (pe_slice sl_any (pv 3) (po_some (pv 6)) po_none)) (pa_cons (pv 4) pa_nil))) (pa_cons (pe_tup (pa_cons (pe_op op_addA (pe_op op_addA (pe_slice sl_any (pv 3) po_none (po_some (pv 6))) (pe_tup (pa_cons (pe_callB call_len (by rfl) T.z_len (by decide +kernel) (pa_cons (pe_ix ix_seq (pv 1) pe_int (fun _ _ => rfl)) pa_nil)) pa_nil))) (pe_slice sl_any (pv 3) (po_some (pv 6)) po_none)) (pa_cons (pv 4) pa_nil))) pa_nil))))
      (pss_cons (ps_set (i := 6) sc__law_bad_aims.nd rfl (.inl rfl) (pe_call (ok__law_take T) (hr.mono (by decide)) (by rfl) T.g__law_take T.F__law_take.kp (b__law_take T.F__law_take) .nil pass0 (pa_cons (pv 0) (pa_cons (pe_op op_addA (pe_callB call_len (by rfl) T.z_len (by decide +kernel) (pa_cons (pv 4) pa_nil)) pe_int) pa_nil))))
      (pss_cons (ps_set (i := 8) sc__law_bad_aims.nd rfl (.inl rfl) (pe_lst (pa_cons (pe_tup (pa_cons (pe_un un_neg pe_int) (pa_cons pe_str (pa_cons pe_int pa_nil)))) (pa_cons (pe_tup (pa_cons (pv 5) (pa_cons pe_str (pa_cons pe_int pa_nil)))) (pa_cons (pe_tup (pa_cons (pe_op op_addA (pv 5) pe_int) (pa_cons pe_str (pa_cons pe_int pa_nil)))) pa_nil)))))
      (pss_cons (ps_if (pt_cmpR op_gtA (pv 5) pe_int (nomark _))
      (pss_cons (ps_set (i := 9) sc__law_bad_aims.nd rfl (.inl rfl) (pe_call (ok__law_take T) (hr.mono (by decide)) (by rfl) T.g__law_take T.F__law_take.kp (b__law_take T.F__law_take) .nil pass0 (pa_cons (pv 0) (pa_cons (pv 5) pa_nil))))
      (pss_cons (ps_expr (pe_bm PySem.F.plainAttrs_list PySem.F.slot_list_extend PySem.F.type_list_extend mt_extend (pv 8) (pa_cons (pe_lst (pa_cons (pe_tup (pa_cons (pv 9) (pa_cons pe_str (pa_cons pe_int pa_nil)))) (pa_cons (pe_tup (pa_cons (pv 9) (pa_cons pe_str (pa_cons pe_int pa_nil)))) (pa_cons (pe_tup (pa_cons (pv 9) (pa_cons pe_str (pa_cons pe_int pa_nil)))) (pa_cons (pe_tup (pa_cons (pv 9) (pa_cons pe_str (pa_cons pe_int pa_nil)))) (pa_cons (pe_tup (pa_cons (pv 9) (pa_cons pe_str (pa_cons (pe_un un_neg pe_int) pa_nil)))) pa_nil)))))) pa_nil)))
      (pss_one (ps_expr (pe_bm PySem.F.plainAttrs_list PySem.F.slot_list_extend PySem.F.type_list_extend mt_extend (pv 8) (pa_cons (pe_lst (pa_cons (pe_tup (pa_cons (pv 9) (pa_cons pe_str (pa_cons (pe_op op_sub (pe_un un_neg pe_int) (pe_call (ok__law_take T) (hr.mono (by decide)) (by rfl) T.g__law_take T.F__law_take.kp (b__law_take T.F__law_take) .nil pass0 (pa_cons (pv 0) (pa_cons pe_int pa_nil)))) pa_nil)))) pa_nil)) pa_nil))))))
      pss_nil)
      (pss_cons (ps_for PassesOwn.never rfl (pi_any (pv 8)) (pg_name (i := 10) sc__law_bad_aims.nd rfl (.inl rfl) (.inr rfl))
      (pss_one (ps_expr (pe_bm PySem.F.plainAttrs_list PySem.F.slot_list_append PySem.F.type_list_append mt_append (pv 7) (pa_cons (pe_tup (pa_cons (pv 3) (pa_cons (pe_op op_addA (pe_op op_addA (pe_slice sl_any (pv 4) po_none (po_some (pv 6))) (pe_tup (pa_cons (pv 10) pa_nil))) (pe_slice sl_any (pv 4) (po_some (pv 6)) po_none)) pa_nil))) pa_nil)))))
      (pss_one (ps_ret (pv 7))))))))))))), ?_⟩)
  refine go_fn (L := ["box", "table", "aim", "spots", "rows", "many", "cut", "bad", "odd", "clock", "row"]) h (fun b i hp hX => ?_)
  try dsimp only [cxOf, L2H.cxH, L2.Cx.nox, L2.Cx.wish]
  have kLET := cLET T
  have kNMC := cNMC T
  have kLON := cLON T
  have kSIG := T.w_SIGNS
  have kSTA := T.w_STAY_SIGNS
  have kSID := T.w_SIDES
  
  obtain ⟨x, m, sc, g1, g2⟩ := i
  obtain ⟨ok, h1, h2⟩ := hp
  have h1 : g1.length ≤ 200 := h1
  have h2 : g2.length ≤ 200 := h2
  have c8 : m.clocks.length ≤ 8 := ok.c8
  have p2 : m.places.length ≤ 200 := ok.p2
  show GO K b _ ⟨[some (.o 0), some (.d (.list [strsT m.clocks, plcsT m.places, movsT m.moves, .int m.start, strsT m.rush, .int sc])), some (.d (.tuple [.tuple (inL g1), .tuple (g2.map gcD)])), none, none, none, none, none, none, none, none], [bxA x, bxB x]⟩ _
  refine go_mid (fun s => s = ⟨[some (.o 0), some (.d (.list [strsT m.clocks, plcsT m.places, movsT m.moves, .int m.start, strsT m.rush, .int sc])), some (.d (.tuple [.tuple (inL g1), .tuple (g2.map gcD)])), some (.d (.tuple (inL g1))), none, none, none, none, none, none, none], [bxA x, bxB x]⟩) ?_ ?_
  · repeat walk_at "z4"
  
    exact rfl
  rintro s1 rfl
  refine go_mid (fun s => s = ⟨[some (.o 0), some (.d (.list [strsT m.clocks, plcsT m.places, movsT m.moves, .int m.start, strsT m.rush, .int sc])), some (.d (.tuple [.tuple (inL g1), .tuple (g2.map gcD)])), some (.d (.tuple (inL g1))), some (.d (.tuple (g2.map gcD))), none, none, none, none, none, none], [bxA x, bxB x]⟩) ?_ ?_
  · repeat walk_at "z4"
  
    exact rfl
  rintro s1 rfl
  refine go_mid (fun s => s = ⟨[some (.o 0), some (.d (.list [strsT m.clocks, plcsT m.places, movsT m.moves, .int m.start, strsT m.rush, .int sc])), some (.d (.tuple [.tuple (inL g1), .tuple (g2.map gcD)])), some (.d (.tuple (inL g1))), some (.d (.tuple (g2.map gcD))), some (.d (.int (m.clocks.length : Nat))), none, none, none, none, none], [bxA x, bxB x]⟩) ?_ ?_
  · repeat walk_at "z4"
  
    rw [List.length_map]
    exact rfl
  rintro s1 rfl
  refine go_mid (fun s => ∃ (y : Bx) (cut : Int), (0 ≤ cut ∧ cut ≤ g1.length) ∧ s = ⟨[some (.o 0), some (.d (.list [strsT m.clocks, plcsT m.places, movsT m.moves, .int m.start, strsT m.rush, .int sc])), some (.d (.tuple [.tuple (inL g1), .tuple (g2.map gcD)])), some (.d (.tuple (inL g1))), some (.d (.tuple (g2.map gcD))), some (.d (.int (m.clocks.length : Nat))), some (.d (.int cut)), none, none, none, none], [bxA y, bxB y]⟩) ?_ ?_
  · repeat walk_at "z4"
  
    refine ev_tk (E := fun _ => E0) ?_
    repeat walk_at "z4"
  
    rw [inL_len]
    repeat walk_at "z4"
  
    refine ⟨x, _, _, _, rfl, rfl, by omega, fun g y u0 u1 => ?_⟩
    have u1 := u1 (by omega)
    repeat walk_at "z4"
  
    exact ⟨y, g, ⟨u0, by omega⟩, rfl⟩
  rintro s1 ⟨y, cut, ⟨c0, c1⟩, rfl⟩
  obtain ⟨a1, e1, l1⟩ := cutL g1 none (some cut)
  obtain ⟨a2, e2, l2⟩ := cutL g1 (some cut) none
  refine go_mid (fun s => ∃ (y : Bx) (gs : List Gl), ((∀ g, g ∈ gs → goalB m g = false ∧ g.2.length ≤ 1000) ∧ gs.length ≤ 2) ∧ s = ⟨[some (.o 0), some (.d (.list [strsT m.clocks, plcsT m.places, movsT m.moves, .int m.start, strsT m.rush, .int sc])), some (.d (.tuple [.tuple (inL g1), .tuple (g2.map gcD)])), some (.d (.tuple (inL g1))), some (.d (.tuple (g2.map gcD))), some (.d (.int (m.clocks.length : Nat))), some (.d (.int cut)), some (.o 2), none, none, none], [bxA y, bxB y, .lst (gs.map glD)]⟩) ?_ ?_
  · refine go_asg (ev_lstO ?_)
    repeat walk_at "z4"
    refine vs_tup ?_
    rw [e1]
    repeat walk_at "z4"
    refine v2_addU (Nat.le_trans (show _ ≤ 2000 by simp only [List.length_append, inL_len, List.length_map, List.length_cons, List.length_nil]; omega) (by decide)) ?_
    repeat walk_at "z4"
    refine vs_tup ?_
    rw [e2]
    refine v2_addU (Nat.le_trans (show _ ≤ 2000 by simp only [List.length_append, inL_len, List.length_map, List.length_cons, List.length_nil]; omega) (by decide)) ?_
    repeat walk_at "z4"
    refine vs_tup ?_
    rw [e1]
    repeat walk_at "z4"
    rw [List.length_map]
    refine v2_addU (Nat.le_trans (show _ ≤ 2000 by simp only [List.length_append, inL_len, List.length_map, List.length_cons, List.length_nil]; omega) (by decide)) ?_
    repeat walk_at "z4"
    refine vs_tup ?_
    rw [e2]
    refine v2_addU (Nat.le_trans (show _ ≤ 2000 by simp only [List.length_append, inL_len, List.length_map, List.length_cons, List.length_nil]; omega) (by decide)) ?_
    repeat walk_at "z4"
  
    refine ⟨y, [(a1 ++ [-1] ++ a2, g2), (a1 ++ [((m.places.length : Nat) : Int)] ++ a2, g2)], ⟨fun g hg => ?_, (show 2 ≤ 2 by decide)⟩, ?_⟩
    · simp only [List.mem_cons, List.not_mem_nil, or_false] at hg
      rcases hg with rfl | rfl
      · exact ⟨goal_no1 (k := -1) (by simp) (by omega), Nat.le_trans h2 (by decide)⟩
      · exact ⟨goal_no1 (k := ((m.places.length : Nat) : Int)) (by simp) (by omega), Nat.le_trans h2 (by decide)⟩
    · simp only [List.map_cons, List.map_nil, glD, inL_app]
      rfl
  rintro s1 ⟨y, gs, ⟨hg, hgl⟩, rfl⟩
  clear e1 e2 l1 l2 c0 c1 a1 a2
  refine go_mid (fun s => ∃ (y : Bx) (cut : Int), (0 ≤ cut ∧ cut ≤ g2.length) ∧ s = ⟨[some (.o 0), some (.d (.list [strsT m.clocks, plcsT m.places, movsT m.moves, .int m.start, strsT m.rush, .int sc])), some (.d (.tuple [.tuple (inL g1), .tuple (g2.map gcD)])), some (.d (.tuple (inL g1))), some (.d (.tuple (g2.map gcD))), some (.d (.int (m.clocks.length : Nat))), some (.d (.int cut)), some (.o 2), none, none, none], [bxA y, bxB y, .lst (gs.map glD)]⟩) ?_ ?_
  · repeat walk_at "z4"
  
    refine ev_tk (E := fun _ => E0) ?_
    repeat walk_at "z4"
  
    rw [List.length_map]
    repeat walk_at "z4"
  
    refine ⟨y, _, _, _, rfl, rfl, by omega, fun g y u0 u1 => ?_⟩
    have u1 := u1 (by omega)
    repeat walk_at "z4"
  
    exact ⟨y, g, ⟨u0, by omega⟩, rfl⟩
  clear y cut
  rintro s1 ⟨y, cut, ⟨c0, c1⟩, rfl⟩
  obtain ⟨a1, e1, l1, _⟩ := cutM (f := gcD) g2 none (some cut)
  obtain ⟨a2, e2, l2, _⟩ := cutM (f := gcD) g2 (some cut) none
  refine go_mid (fun s => s = ⟨[some (.o 0), some (.d (.list [strsT m.clocks, plcsT m.places, movsT m.moves, .int m.start, strsT m.rush, .int sc])), some (.d (.tuple [.tuple (inL g1), .tuple (g2.map gcD)])), some (.d (.tuple (inL g1))), some (.d (.tuple (g2.map gcD))), some (.d (.int (m.clocks.length : Nat))), some (.d (.int cut)), some (.o 2), some (.o 3), none, none], [bxA y, bxB y, .lst (gs.map glD), .lst (([(-1, "<=", 1), (((m.clocks.length : Nat) : Int), "<", 1), (((m.clocks.length : Nat) : Int) + 3, "==", 0)] : List Gc).map gcD)]⟩) ?_ ?_
  · refine go_asg (ev_lstO ?_)
    repeat walk_at "z4"
  
    exact rfl
  rintro s1 rfl
  refine go_mid (fun s => ∃ (y : Bx) (odd : List Gc) (xc : Option Dw.A), ((∀ o, o ∈ odd → grdB m.clocks.length o = false) ∧ odd.length ≤ 9) ∧ s = ⟨[some (.o 0), some (.d (.list [strsT m.clocks, plcsT m.places, movsT m.moves, .int m.start, strsT m.rush, .int sc])), some (.d (.tuple [.tuple (inL g1), .tuple (g2.map gcD)])), some (.d (.tuple (inL g1))), some (.d (.tuple (g2.map gcD))), some (.d (.int (m.clocks.length : Nat))), some (.d (.int cut)), some (.o 2), some (.o 3), xc, none], [bxA y, bxB y, .lst (gs.map glD), .lst (odd.map gcD)]⟩) ?_ ?_
  · have o3 : ∀ o, o ∈ ([(-1, "<=", 1), (((m.clocks.length : Nat) : Int), "<", 1), (((m.clocks.length : Nat) : Int) + 3, "==", 0)] : List Gc) → grdB m.clocks.length o = false := fun o ho => by
      simp only [List.mem_cons, List.not_mem_nil, or_false] at ho
      rcases ho with rfl | rfl | rfl
      · exact grd_no1 (by omega)
      · exact grd_no1 (by omega)
      · exact grd_no1 (by omega)
    generalize hodd : ([(-1, "<=", 1), (((m.clocks.length : Nat) : Int), "<", 1), (((m.clocks.length : Nat) : Int) + 3, "==", 0)] : List Gc) = odd at o3 ⊢
    have ol : odd.length = 3 := by rw [← hodd]; rfl
    clear hodd
    repeat walk_at "z4"
  
    refine ⟨fun z => ?_, fun z => ?_⟩
    rotate_left
    · refine go_next ?_
      exact ⟨y, odd, none, ⟨o3, by omega⟩, rfl⟩
    have z : 0 < m.clocks.length := by have := of_decide_eq_true z; omega
    repeat walk_at "z4"
    refine ev_tk (E := fun _ => E0) ?_
    repeat walk_at "z4"
    refine ⟨y, m.clocks.length, _, _, rfl, rfl, by omega, fun c y2 c0 c1 => ?_⟩
    have c1 := c1 (by omega)
  
    repeat walk_at "z4"
  
    refine ev_bmL (ev_var (a := .o 3) rfl ⟨⟨3, _, rfl, rfl⟩, ?_⟩)
    refine ea_cons (ev_lst ?_)
    repeat walk_at "z4"
  
    refine vm_extend (n := 3) rfl rfl (Nat.le_trans (show _ + 5 ≤ 1000 by rw [List.length_map]; omega) (by decide)) ?_
    repeat walk_at "z4"
  
    refine ev_bmL (ev_var (a := .o 3) rfl ⟨⟨3, _, rfl, rfl⟩, ?_⟩)
    refine ea_cons (ev_lst ?_)
    repeat walk_at "z4"
    refine ev_tk (E := fun _ => E0) ?_
    repeat walk_at "z4"
    refine ⟨y2, 50, _, _, rfl, rfl, by decide, fun d y3 d0 d1 => ?_⟩
    have d1 := d1 (by decide)
  
    repeat walk_at "z4"
  
    refine vm_extend (n := 3) rfl rfl (Nat.le_trans (show _ + 1 ≤ 1000 by rw [List.length_append, List.length_map, ol]; simp) (by decide)) ?_
    refine ⟨y3, odd ++ [(c, ("=" : Str), 1), (c, "!=", 1), (c, "", 0), (c, "=>", 2), (c, "<=", -1), (c, ">", -3 - d)], some (.d (.int c)), ⟨fun o ho => ?_, by rw [List.length_append, ol]; exact Nat.le_refl 9⟩, ?_⟩
    · rcases List.mem_append.mp ho with h | h
      · exact o3 o h
      · simp only [List.mem_cons, List.not_mem_nil, or_false] at h
        rcases h with rfl | rfl | rfl | rfl | rfl | rfl
        · exact grd_no2 (by decide +kernel)
        · exact grd_no2 (by decide +kernel)
        · exact grd_no2 (by decide +kernel)
        · exact grd_no2 (by decide +kernel)
        · exact grd_no3 (by decide)
        · exact grd_no3 (by omega)
    · rw [List.map_append]
      show S.mk _ [_, _, _, C.lst (odd.map gcD ++ _ ++ _)] = _
      rw [List.append_assoc]
      rfl
  clear y
  rintro s1 ⟨y, odd, xc, ⟨ho, hol⟩, rfl⟩
  refine go_seq (go_for (ei_anyL (ei_list (ev_var rfl ⟨odd.map gcD, fun os => os[3]? = some (.lst (odd.map gcD)), .inr ⟨3, rfl, fun _ h => h⟩, rfl, ?_⟩))))
  refine ⟨fun j s => ∃ (gs : List Gl) (xr : Option Dw.A), ((∀ g, g ∈ gs → goalB m g = false ∧ g.2.length ≤ 1000) ∧ gs.length ≤ 2 + j) ∧ s = ⟨[some (.o 0), some (.d (.list [strsT m.clocks, plcsT m.places, movsT m.moves, .int m.start, strsT m.rush, .int sc])), some (.d (.tuple [.tuple (inL g1), .tuple (g2.map gcD)])), some (.d (.tuple (inL g1))), some (.d (.tuple (g2.map gcD))), some (.d (.int (m.clocks.length : Nat))), some (.d (.int cut)), some (.o 2), some (.o 3), xc, xr], [bxA y, bxB y, .lst (gs.map glD), .lst (odd.map gcD)]⟩, ⟨gs, none, ⟨hg, hgl⟩, rfl⟩, (fun j s hj ⟨_, _, _, e⟩ => by rw [e]; rfl), ?_, ?_⟩
  · clear hg hgl gs
    rintro j v s2 hx ⟨gs, xr, ⟨hg, hgl⟩, rfl⟩
    obtain ⟨o, hoj, rfl⟩ := map_get hx
    have hj := (List.getElem?_eq_some_iff.mp hoj).1
    refine gt_name ?_
    repeat walk_at "z4"
  
    refine ev_bmL (ev_var (a := .o 2) rfl ⟨⟨2, _, rfl, rfl⟩, ?_⟩)
    repeat walk_at "z4"
    refine vs_tup ?_
    rw [e1]
    repeat walk_at "z4"
    refine v2_addU (Nat.le_trans (show _ ≤ 2000 by simp only [List.length_append, inL_len, List.length_map, List.length_cons, List.length_nil]; omega) (by decide)) ?_
    repeat walk_at "z4"
    refine vs_tup ?_
    rw [e2]
    refine v2_addU (Nat.le_trans (show _ ≤ 2000 by simp only [List.length_append, inL_len, List.length_map, List.length_cons, List.length_nil]; omega) (by decide)) ?_
    repeat walk_at "z4"
  
    refine vm_append (n := 2) rfl (Nat.lt_of_le_of_lt (show _ ≤ 1000 by rw [List.length_map]; omega) (by decide)) ?_
    refine ⟨gs ++ [(g1, a1 ++ [o] ++ a2)], some (.d (gcD o)), ⟨fun g hg' => ?_, by rw [List.length_append, List.length_singleton]; omega⟩, ?_⟩
    · rcases List.mem_append.mp hg' with h | h
      · exact hg g h
      · rw [List.mem_singleton.mp h]
        exact ⟨goal_no2 (c := o) (by simp) (ho o (List.mem_of_getElem? hoj)), by show (a1 ++ [o] ++ a2).length ≤ 1000; simp only [List.length_append, List.length_singleton]; omega⟩
    · simp only [List.map_append, List.map_cons, List.map_nil, glD]
      rfl
  clear hg hgl gs
  rintro s2 ⟨gs, xr, ⟨hg, hgl⟩, rfl⟩
  dsimp only
  refine go_ret (ev_dat (ev_var rfl ⟨2, _, rfl, rfl, ?_⟩))
  exact ⟨gs, y, rfl, rfl, hg⟩
end
def sp__law_due : Spc where
  I := Mch × Int × List Int × Option Gl
  args := fun (m, sc, p, g) => [.d (tabD m sc), .d (.list (inL p)), .d (ogD g)]
  cells := fun _ => []
  pre := fun (m, _, p, g) => m.Ok ∧ p.length ≤ 1000 ∧ ∀ gg, g = some gg → goalB m gg = true ∧ gg.2.length ≤ 1000
  post := fun (m, _, p, g) r _ => ∃ a : Nat, Mis m p a ∧ ((a < p.length ∧ r = .val (.list [.str "BadPath", .int a])) ∨ (a = p.length ∧ r = .val (.list [.str "limits", .tuple [.int ((p.length : Int) + 2), .list ((limA m p g).map l4D)]])))
section
variable {P : Program} {w : World} {K : PySem.W.Frag} {mg : Str → Option Value} {base : Heap}
theorem ok__law_due (T : Tx P K mg) : FnOk P w K mg base CX0 3 T.a__law_due T.d__law_due ["table", "path", "aim"] (SpB K sp__law_due) := by
  refine T.F__law_due.ok sc__law_due (fun vs H Q E h => spB_len h (fun _ => rfl)) (fun cdv A outer s H vs Q E hr h => ⟨_, PSs.nox ((pss_cons (ps_set (i := 3) sc__law_due.nd rfl (.inl rfl) (pe_call (ok__law_misfit T) (hr.mono (by decide)) (by rfl) T.g__law_misfit T.F__law_misfit.kp (b__law_misfit T.F__law_misfit) .nil pass0 (pa_cons (pv 0) (pa_cons (pv 1) pa_nil))))
      (pss_cons (ps_if (pt_cmpR op_ltA (pv 3) (pe_callB call_len (by rfl) T.z_len (by decide +kernel) (pa_cons (pv 1) pa_nil)) (nomark _))
      (pss_one (ps_ret (pe_lst (pa_cons pe_str (pa_cons (pv 3) pa_nil)))))
      pss_nil)
      (pss_one (ps_ret (pe_lst (pa_cons pe_str (pa_cons (pe_tup (pa_cons (pe_op op_addA (pe_callB call_len (by rfl) T.z_len (by decide +kernel) (pa_cons (pv 1) pa_nil)) pe_int) (pa_cons (pe_call (ok__law_limits T) (hr.mono (by decide)) (by rfl) T.g__law_limits T.F__law_limits.kp (b__law_limits T.F__law_limits) .nil pass0 (pa_cons (pv 0) (pa_cons (pv 1) (pa_cons (pv 2) pa_nil)))) pa_nil))) pa_nil)))))))), ?_⟩)
  refine go_fn (L := ["table", "path", "aim", "at"]) h (fun b i hp hX => ?_)
  try dsimp only [cxOf, L2H.cxH, L2.Cx.nox, L2.Cx.wish]
  have kLET := cLET T
  have kNMC := cNMC T
  have kLON := cLON T
  have kSIG := T.w_SIGNS
  have kSTA := T.w_STAY_SIGNS
  have kSID := T.w_SIDES
  
  obtain ⟨m, sc, p, g⟩ := i
  obtain ⟨ok, h2, h3⟩ := hp
  have h2 : p.length ≤ 1000 := h2
  show GO K b _ ⟨[some (.d (.list [strsT m.clocks, plcsT m.places, movsT m.moves, .int m.start, strsT m.rush, .int sc])), some (.d (.list (inL p))), some (.d (ogD g)), none], []⟩ _
  refine go_sAsg (ev_call0 (E := fun _ => E0) ?_)
  repeat walk_at "z4"
  
  refine ⟨(m, sc, p), rfl, rfl, rfl, ⟨ok, h2⟩, fun r os' hr => ?_, xok_no⟩
  obtain ⟨a, hm, rfl⟩ := hr
  have hal := hm.le
  refine gt_name ?_
  repeat walk_at "z4"
  
  rw [inL_len]
  refine ⟨fun z => ?_, fun z => ?_⟩
  · have z : a < p.length := by have := of_decide_eq_true z; omega
    repeat walk_at "z4"
  
    refine ev_lst ?_
    repeat walk_at "z4"
  
    exact ⟨a, hm, .inl ⟨z, rfl⟩⟩
  have z : a = p.length := by have := of_decide_eq_false z; omega
  have hfit : ∀ j, j < p.length → FitA m p j := fun j hj => hm.fit j (by omega)
  refine go_next ?_
  refine go_ret (ev_lst ?_)
  repeat walk_at "z4"
  
  rw [inL_len]
  repeat walk_at "z4"
  
  refine ev_callV (E := fun _ => E0) ?_
  repeat walk_at "z4"
  
  refine ⟨(m, sc, p, g), _, rfl, rfl, rfl, ⟨ok, h2, hfit, h3⟩, fun _ _ h => h, fun _ _ h => h, ?_⟩
  repeat walk_at "z4"
  
  exact ⟨a, hm, .inr ⟨z, rfl⟩⟩
end
section
variable {K : PySem.W.Frag} {b : B} {s : S} {t : TA} {Φ : Dw.A → S → Prop}
theorem ev_due {E : L2.St → XK} (h : EA K b t s fun as s1 => ∃ (m : Mch) (sc : Int) (p : List Int) (g : Option Gl) (u : Tl), as = [.d (tabD m sc), .d (.list (inL p)), .d (ogD g)] ∧ (m.Ok ∧ p.length ≤ 1000 ∧ ∀ gg, g = some gg → goalB m gg = true ∧ gg.2.length ≤ 1000) ∧ Res m p g u ∧ Φ (.d (tlD u)) s1) : EV K b (tCallG (SpB K sp__law_due) E t) s Φ := by
  refine ev_call0 fun σ H tv tl Hd ps R Q kk => h σ H tv tl Hd ps R Q fun vs H1 as s1 Hd1 ps1 h1 R1 a1 => kk vs H1 as s1 Hd1 ps1 ?_ R1 a1
  obtain ⟨m, sc, p, g, u, rfl, hp, hu, q⟩ := h1
  have hg : ∀ gg, g = some gg → goalB m gg = true := fun gg e => (hp.2.2 gg e).1
  refine ⟨(m, sc, p, g), rfl, rfl, rfl, hp, fun r os' hr => ?_, xok_no⟩
  obtain ⟨a, hm, ⟨ha, rfl⟩ | ⟨ha, rfl⟩⟩ := hr
  · obtain rfl : u = .p a := hu.uni (show Res m p g (.p a) from ⟨hg, ha, hm⟩)
    exact q
  · obtain rfl : u = .l ((p.length : Int) + 2) (limA m p g) := hu.uni (show Res m p g (.l _ _) from ⟨hg, fun j hj => hm.fit j (by omega), rfl, rfl⟩)
    exact q
end
def sp__law_told (K : PySem.W.Frag) (c : Addr) : Spc where
  I := Mch × List Int × Option Gl × Int
  args := fun (m, p, g, w) => [insP K c (mF m), .o 0, .d (ogD g), .d (.int w)]
  cells := fun (_, p, _) => [.lst (inL p)]
  pre := fun (m, p, g, _) => m.Ok ∧ p.length ≤ 1000 ∧ ∀ gg, g = some gg → gg.2.length ≤ 1000
  post := fun (m, p, g, _) r os => os = [.lst (inL p)] ∧ ((∃ gg, g = some gg ∧ goalB m gg = false ∧ r = .new (.lst [.str "BadGoal", .bool true])) ∨
    ((∀ gg, g = some gg → goalB m gg = true) ∧ ((∃ a : Nat, a < p.length ∧ Mis m p a ∧ r = .new (.lst [.str "BadPath", .int a, .bool true])) ∨
      ((∀ j, j < p.length → FitA m p j) ∧ r = .nw (.o 0) [.la [.d (.str "limits"), .t [.d (.int ((p.length : Int) + 2)), .o 1]], .lst ((limA m p g).map l4D)]))))
section
variable {P : Program} {w : World} {K : PySem.W.Frag} {mg : Str → Option Value} {base : Heap}
theorem ok__law_told (T : Tx P K mg) : FnOk P w K mg base CX0 5 T.a__law_told T.d__law_told ["machine", "path", "aim", "way"] (SpB K (sp__law_told K T.c_Machine)) := by
  refine T.F__law_told.ok sc__law_told (fun vs H Q E h => spB_len h (fun _ => rfl)) (fun cdv A outer s H vs Q E hr h => ⟨_, PSs.nox ((pss_cons (L2N.ps_try_manyAs (Wout := fun _ _ _ _ => False) rfl rfl sc__law_told.nd takesN
      (fun W pn xe tk po => (pss_one (ps_if (PW.pt (pw_and (pt_cmpR (op_eqDK (K := K) rfl hr.units) (pv 3) pe_int (nomark _)) (pw_and1 (pt_cmpR op_isA (pv 2) pe_non (nomark _)))))
      (pss_one (ps_set (i := 4) sc__law_told.nd rfl (.inl rfl) (pe_callSD (ok_path_limits T) (hr.mono (by decide)) (by rfl) T.g_path_limits T.F_path_limits.kp (bd_path_limits T.F_path_limits).choose_spec.2 (bd_path_limits T.F_path_limits).choose_spec.1 (fun σ => L2N.passAt tk σ) (by exact (pa_cons (pv 0) (pa_cons (pv 1) pa_nil))))))
      (pss_one (ps_if (pt_cmpR (op_eqDK (K := K) rfl hr.units) (pv 3) pe_int (nomark _))
      (pss_one (ps_set (i := 4) sc__law_told.nd rfl (.inl rfl) (pe_callNS (ok_path_limits T) (hr.mono (by decide)) (by rfl) T.g_path_limits T.F_path_limits.kp T.kb_path_limits (fun σ => L2N.passAt tk σ) (by exact (pa_cons (pv 0) (pa_cons (pv 1) pa_nil))) (by exact (pk_cons (pv 2) pk_nil)))))
      (pss_one (ps_set (i := 4) sc__law_told.nd rfl (.inl rfl) (pe_callS (ok_path_limits T) (hr.mono (by decide)) (by rfl) T.g_path_limits T.F_path_limits.kp (b_path_limits T.F_path_limits) (fun σ => L2N.passAt tk σ) (by exact (pa_cons (pv 0) (pa_cons (pv 1) (pa_cons (pv 2) pa_nil))))))))))))
      (L2N.HdsAs.cons (h := ⟨_, 5, _⟩) rfl rfl ⟨rfl, by decide, .inl T.gc_BadPath⟩
      (fun a oe cls d pn hz hf => pss_guard (p := cls = .ref (clsA cls) ∧ ExcC K (clsA cls)) (fun hP => (pss_cons (ps_set (i := 6) sc__law_told.nd rfl (.inl rfl) (pe_and (pe_callB (call_isY (K := K) rfl hP.2 hP.1 hz hf) (by rfl) T.z_isinstance (by decide +kernel) (by exact (pa_cons (pv 5) (pa_cons (pe_glob (v := .ref T.c_DwellError) rfl T.gc_DwellError rfl) pa_nil)))) (pe_and (pe_notTK (K := K) rfl (pe_callB (call_isY (K := K) rfl hP.2 hP.1 hz hf) (by rfl) T.z_isinstance (by decide +kernel) (by exact (pa_cons (pv 5) (pa_cons (pe_glob (v := .ref T.c_BadGoal) rfl T.gc_BadGoal rfl) pa_nil))))) (pe_one (pe_notTK (K := K) rfl (pe_callB (call_isY (K := K) rfl hP.2 hP.1 hz hf) (by rfl) T.z_isinstance (by decide +kernel) (by exact (pa_cons (pv 5) (pa_cons (pe_glob (v := .ref T.c_BadPlace) rfl T.gc_BadPlace rfl) pa_nil)))))))))
      (pss_one (ps_ret (pe_lst (pa_cons pe_str (pa_cons (pe_xf (C := T.c_BadPath) (Dw.ExcC.xf T.ec_BadPath) T.na_BadPath_place hz.zc hf (pv 5)) (pa_cons (pv 6) pa_nil)))))))))
      (L2N.HdsAs.cons (h := ⟨_, 7, _⟩) rfl rfl ⟨rfl, by decide, .inl T.gc_BadGoal⟩
      (fun a oe cls d pn hz hf => pss_guard (p := cls = .ref (clsA cls) ∧ ExcC K (clsA cls)) (fun hP => (pss_one (ps_ret (pe_lst (pa_cons pe_str (pa_cons (pe_and (pe_callB (call_isY (K := K) rfl hP.2 hP.1 hz hf) (by rfl) T.z_isinstance (by decide +kernel) (by exact (pa_cons (pv 7) (pa_cons (pe_glob (v := .ref T.c_DwellError) rfl T.gc_DwellError rfl) pa_nil)))) (pe_one (pe_callB (call_isY (K := K) rfl hP.2 hP.1 hz hf) (by rfl) T.z_isinstance (by decide +kernel) (by exact (pa_cons (pv 7) (pa_cons (pe_bltn (v := .ty "ValueError") (by rfl) T.z_ValueError (by decide +kernel) rfl) pa_nil)))))) pa_nil)))))))
      L2N.HdsAs.nil)))
      (pss_one (ps_ret (pe_lst (pa_cons pe_str (pa_cons (pv 4) pa_nil))))))), ?_⟩)
  refine go_fn (L := ["machine", "path", "aim", "way", "told", "e", "sound", "late"]) h (fun b i hp hX => ?_)
  try dsimp only [cxOf, L2H.cxH, L2.Cx.nox, L2.Cx.wish]
  have kLET := cLET T
  have kNMC := cNMC T
  have kLON := cLON T
  have kSIG := T.w_SIGNS
  have kSTA := T.w_STAY_SIGNS
  have kSID := T.w_SIDES
  have clM := T.cl_Machine
  have nfc := T.nf_Machine_clocks
  have nfp := T.nf_Machine_places
  have nfm := T.nf_Machine_moves
  have nfs := T.nf_Machine_start
  have nfr := T.nf_Machine_rush
  have nfe := T.nf_Machine__pressing
  
  obtain ⟨m, p, g, w⟩ := i
  obtain ⟨ok, h2, h3⟩ := hp
  have h2 : p.length ≤ 1000 := h2
  show GO K b _ ⟨[some (insP K T.c_Machine (mF m)), some (.o 0), some (.d (ogD g)), some (.d (.int w)), none, none, none, none], [.lst (inL p)]⟩ _
  refine go_mid (fun s => (∀ gg, g = some gg → goalB m gg = true) ∧ (∀ j, j < p.length → FitA m p j) ∧ s = ⟨[some (insP K T.c_Machine (mF m)), some (.o 0), some (.d (ogD g)), some (.d (.int w)), some (.t [.d (.int ((p.length : Int) + 2)), .o 1]), none, none, none], [.lst (inL p), .lst ((limA m p g).map l4D)]⟩) (go_tryT (fun x s => s = ⟨[some (insP K T.c_Machine (mF m)), some (.o 0), some (.d (ogD g)), some (.d (.int w)), none, none, none, none], [.lst (inL p)]⟩ ∧ ((∃ gg, g = some gg ∧ goalB m gg = false ∧ x = ⟨.ref T.c_BadGoal, none⟩) ∨ ((∀ gg, g = some gg → goalB m gg = true) ∧ ∃ a, a < p.length ∧ Mis m p a ∧ x = ⟨.ref T.c_BadPath, some [("place", .int (a : Nat))]⟩))) (fun b' W hW => ?_) ?_) ?_
  · have key : ∀ {t : TA} {Φ : Dw.A → S → Prop}, EA K b' t ⟨[some (insP K T.c_Machine (mF m)), some (.o 0), some (.d (ogD g)), some (.d (.int w)), none, none, none, none], [.lst (inL p)]⟩ (fun as s1 => as = [insP K T.c_Machine (mF m), .o 0, .d (ogD g)] ∧ s1 = ⟨[some (insP K T.c_Machine (mF m)), some (.o 0), some (.d (ogD g)), some (.d (.int w)), none, none, none, none], [.lst (inL p)]⟩) →
        ((∀ gg, g = some gg → goalB m gg = true) → (∀ j, j < p.length → FitA m p j) → Φ (.t [.d (.int ((p.length : Int) + 2)), .o 1]) ⟨[some (insP K T.c_Machine (mF m)), some (.o 0), some (.d (ogD g)), some (.d (.int w)), none, none, none, none], [.lst (inL p), .lst ((limA m p g).map l4D)]⟩) → EV K b' (tCallG (SpB K (sp_path_limits K T.c_Machine T.c_BadGoal T.c_BadPath)) (fun σ => WE W σ) t) ⟨[some (insP K T.c_Machine (mF m)), some (.o 0), some (.d (ogD g)), some (.d (.int w)), none, none, none, none], [.lst (inL p)]⟩ Φ := fun {t Φ} h q => by
      refine ev_callX [0] (by decide) fun σ H tv tl Hd ps R Q k => h σ H tv tl Hd ps R Q fun vs H1 as s1 Hd1 ps1 h1 R1 a1 => k vs H1 as s1 Hd1 ps1 ?_ R1 a1
      obtain ⟨rfl, rfl⟩ := h1
      refine ⟨(m, p, g), rfl, ⟨trivial, List.mem_singleton_self _, trivial, trivial⟩, rfl, fun j hj => by rw [List.mem_singleton.mp hj]; exact ⟨_, rfl, (fun z => nomatch z), trivial⟩, ⟨ok, h2, h3⟩, fun r os' hr _ => ?_, fun x os' hx _ => ?_⟩
      · obtain ⟨hg, hf, rfl, rfl⟩ := hr
        exact ⟨rfl, q hg hf⟩
      · obtain ⟨rfl, hx⟩ := hx
        exact ⟨rfl, fun d σ H' tv ta Hd' ps' R hd => hW x d σ H' _ tv ta Hd' ps' ⟨rfl, hx⟩ R hd⟩
    cases g with
    | none =>
      show GO K b' _ ⟨[some (insP K T.c_Machine (mF m)), some (.o 0), some (.d .none), some (.d (.int w)), none, none, none, none], [.lst (inL p)]⟩ _
      repeat walk_at "z4"
  
      refine ⟨fun z => ?_, fun z => ?_⟩
      · repeat walk_at "z4"
        refine ev_SD (key (ea_app (d := .none) (fun _ => .non) ?_) fun hg hf => ?_)
        · repeat walk_at "z4"
          exact rfl
        · refine gt_name ?_
          exact ⟨hg, hf, rfl⟩
  
      · repeat walk_at "z4"
  
        refine ⟨fun y => ?_, fun y => ?_⟩
        · repeat walk_at "z4"
          refine ev_NS (key (ea_both ?_) fun hg hf => ?_)
          · repeat walk_at "z4"
            exact ⟨rfl, rfl, rfl, rfl⟩
          · refine gt_name ?_
            exact ⟨hg, hf, rfl⟩
        · repeat walk_at "z4"
          refine ev_S (key ?_ fun hg hf => ?_)
          · repeat walk_at "z4"
            exact rfl
          · refine gt_name ?_
            exact ⟨hg, hf, rfl⟩
  
    | some gg =>
      show GO K b' _ ⟨[some (insP K T.c_Machine (mF m)), some (.o 0), some (.d (.tuple [.tuple (inL gg.1), .tuple (gg.2.map gcD)])), some (.d (.int w)), none, none, none, none], [.lst (inL p)]⟩ _
      repeat walk_at "z4"
  
      refine ⟨fun z => ?_, fun z => ?_⟩
      · repeat walk_at "z4"
  
        refine ⟨fun y => ?_, fun y => ?_⟩
        · repeat walk_at "z4"
          refine ev_NS (key (ea_both ?_) fun hg hf => ?_)
          · repeat walk_at "z4"
            exact ⟨rfl, rfl, rfl, rfl⟩
          · refine gt_name ?_
            exact ⟨hg, hf, rfl⟩
        · repeat walk_at "z4"
          refine ev_S (key ?_ fun hg hf => ?_)
          · repeat walk_at "z4"
            exact rfl
          · refine gt_name ?_
            exact ⟨hg, hf, rfl⟩
  
      · repeat walk_at "z4"
  
        refine ⟨fun y => ?_, fun y => ?_⟩
        · repeat walk_at "z4"
          refine ev_NS (key (ea_both ?_) fun hg hf => ?_)
          · repeat walk_at "z4"
            exact ⟨rfl, rfl, rfl, rfl⟩
          · refine gt_name ?_
            exact ⟨hg, hf, rfl⟩
        · repeat walk_at "z4"
          refine ev_S (key ?_ fun hg hf => ?_)
          · repeat walk_at "z4"
            exact rfl
          · refine gt_name ?_
            exact ⟨hg, hf, rfl⟩
  
  · rintro x s1 ⟨rfl, ⟨gg, hgg, hb, rfl⟩ | ⟨hg, a, hal, hm, rfl⟩⟩
    · refine .inr ⟨T.em_BadGoal_BadPath, .inl ⟨T.em_BadGoal_BadGoal, fun aa d => go_guard ⟨rfl, T.ec_BadGoal⟩ ?_⟩⟩
      dsimp only [clsA]
      show GO K b _ ⟨[some (insP K T.c_Machine (mF m)), some (.o 0), some (.d (ogD g)), some (.d (.int w)), none, none, none, some (exX K aa d none)], [.lst (inL p)]⟩ _
      have k1 := T.k_BadGoal_DwellError
      have k2 := T.kt_BadGoal_ValueError
      refine go_ret (ev_lstO ?_)
      repeat walk_at "z4"
  
      exact .inl ⟨_, (show 1 ≤ 1 by decide), rfl, (fun z => nomatch z), rfl, .inl ⟨gg, hgg, hb, rfl⟩⟩
    · refine .inl ⟨T.em_BadPath_BadPath, fun aa d => go_guard ⟨rfl, T.ec_BadPath⟩ ?_⟩
      dsimp only [clsA]
      show GO K b _ ⟨[some (insP K T.c_Machine (mF m)), some (.o 0), some (.d (ogD g)), some (.d (.int w)), none, some (exX K aa d (some [("place", .int (a : Nat))])), none, none], [.lst (inL p)]⟩ _
      have k1 := T.k_BadPath_DwellError
      have k2 := T.k_BadPath_BadGoal
      have k3 := T.k_BadPath_BadPlace
      repeat walk_at "z4"
  
      refine ev_lstO ?_
      repeat walk_at "z4"
  
      refine ev_xf (z := .int (a : Nat)) rfl rfl rfl ?_
      repeat walk_at "z4"
  
      exact .inl ⟨_, (show 1 ≤ 1 by decide), rfl, (fun z => nomatch z), rfl, .inr ⟨hg, .inl ⟨a, hal, hm, rfl⟩⟩⟩
  rintro s1 ⟨hg, hf, rfl⟩
  refine go_ret (ev_lstA ?_)
  repeat walk_at "z4"
  
  refine ⟨rfl, ?_⟩
  refine .inr ⟨[2, 1], ⟨by decide, fun j hj => ?_, List.mem_cons_self, fun j hj => ?_⟩, rfl, .inr ⟨hg, .inr ⟨hf, rfl⟩⟩⟩
  · rcases List.mem_cons.mp hj with rfl | hj
    · exact (show 1 ≤ 2 by decide)
    · rw [List.mem_singleton.mp hj]; exact (show 1 ≤ 1 by decide)
  · rcases List.mem_cons.mp hj with rfl | hj
    · exact ⟨_, rfl, (fun z => nomatch z), ⟨trivial, ⟨trivial, show 1 ∈ [2, 1] by decide, trivial⟩, trivial⟩⟩
    · rw [List.mem_singleton.mp hj]
      exact ⟨_, rfl, (fun z => nomatch z), trivial⟩
end
section
variable {K : PySem.W.Frag} {b : B} {s : S} {t : TA} {Φ : Dw.A → S → Prop} {c : Addr}
theorem ev_told {E : L2.St → XK} (u : Tl) (k : Nat) (h : EA K b t s fun as s1 => ∃ (m : Mch) (p : List Int) (g : Option Gl) (w : Int) (ss : List (Option Dw.A)) (pre : List C), pre.length = k ∧ as = [insP K c (mF m), .o k, .d (ogD g), .d (.int w)] ∧ s1 = ⟨ss, pre ++ [.lst (inL p)]⟩ ∧
    (m.Ok ∧ p.length ≤ 1000 ∧ ∀ gg, g = some gg → gg.2.length ≤ 1000) ∧ Res m p g u ∧ Φ (.o (k + 1)) ⟨ss, pre ++ .lst (inL p) :: tlS (k + 1) u⟩) : EV K b (tCallG (SpB K (sp__law_told K c)) E t) s Φ := by
  refine ev_callM [k] (List.pairwise_singleton _ _) fun σ H tv tl Hd ps R Q kk => h σ H tv tl Hd ps R Q fun vs H1 as s1 Hd1 ps1 h1 R1 a1 => kk vs H1 as s1 Hd1 ps1 ?_ R1 a1
  obtain ⟨m, p, g, w, ss, pre, rfl, rfl, rfl, hp, hu, q⟩ := h1
  have ix : [pre.length].idxOf pre.length = 0 := List.idxOf_cons_self
  have gd : (pre ++ [C.lst (inL p)])[pre.length]? = some (C.lst (inL p)) := gl0
  refine ⟨(m, p, g, w), ?_, ⟨trivial, List.mem_singleton_self _, trivial, trivial, trivial⟩, ?_, fun j hj => by rw [List.mem_singleton.mp hj]; exact ⟨_, gd, (fun z => nomatch z), trivial⟩, hp, fun r os' hr _ => ?_, fun _ _ h => h⟩
  · show [insP K c (mF m), Dw.A.o 0, Dw.A.d (ogD g), Dw.A.d (.int w)] = [insP K c (mF m), Dw.A.o ([pre.length].idxOf pre.length), Dw.A.d (ogD g), Dw.A.d (.int w)]
    rw [ix]
  · show [C.lst (inL p)] = [renC [pre.length] ((pre ++ [C.lst (inL p)]).getD pre.length .dead)]
    rw [List.getD_eq_getElem?_getD, gd]
    rfl
  obtain ⟨rfl, hr⟩ := hr
  refine ⟨rfl, ?_⟩
  have eos : setAll (pre ++ [C.lst (inL p)]) [pre.length] ([C.lst (inL p)].map (unC [pre.length])) = pre ++ [C.lst (inL p)] := by
    show (pre ++ [C.lst (inL p)]).set pre.length (C.lst (inL p)) = _
    exact gs0
  rw [eos]
  have el : (pre ++ [C.lst (inL p)]).length = pre.length + 1 := by simp
  have ea : ∀ X : List C, pre ++ [C.lst (inL p)] ++ X = pre ++ .lst (inL p) :: X := fun X => by simp
  have key : ∀ v : Tl, Res m p g v → u = v := fun v hv => hu.uni hv
  rcases hr with ⟨gg, e, hb, rfl⟩ | ⟨hg, ⟨a, ha, hm, rfl⟩ | ⟨hf, rfl⟩⟩
  · obtain rfl := key .g ⟨gg, e, hb⟩
    show Φ (.o (pre ++ [C.lst (inL p)]).length) ⟨ss, pre ++ [C.lst (inL p)] ++ [.lst [.str "BadGoal", .bool true]]⟩
    rw [el, ea]
    exact q
  · obtain rfl := key (.p a) ⟨hg, ha, hm⟩
    show Φ (.o (pre ++ [C.lst (inL p)]).length) ⟨ss, pre ++ [C.lst (inL p)] ++ [.lst [.str "BadPath", .int a, .bool true]]⟩
    rw [el, ea]
    exact q
  · obtain rfl := key (.l _ _) ⟨hg, hf, rfl, rfl⟩
    show Φ (.o (0 + (pre ++ [C.lst (inL p)]).length)) ⟨ss, pre ++ [C.lst (inL p)] ++ [.la [.d (.str "limits"), .t [.d (.int ((p.length : Int) + 2)), .o (1 + (pre ++ [C.lst (inL p)]).length)]], .lst ((limA m p g).map l4D)]⟩
    rw [el, ea, Nat.zero_add, Nat.add_comm 1]
    exact q
end
local macro_rules | `(tactic| walk_at "z1") => `(tactic| (first
  | (with_reducible refine v2_ixU (by with_unfolding_all exact rfl) ?_)
  | (with_reducible refine vc_lenU ?_)))
def sp__law_is_system : Spc where
  I := Int × List Lm4
  args := fun (n, ls) => [.t [.d (.int n), .o 0]]
  cells := fun (_, ls) => [.lst (ls.map l4D)]
  pre := fun _ => True
  post := fun (_, ls) r os => r = .val (.bool true) ∧ os = [.lst (ls.map l4D)]
section
variable {P : Program} {w : World} {K : PySem.W.Frag} {mg : Str → Option Value} {base : Heap}
theorem ok__law_is_system (T : Tx P K mg) : FnOk P w K mg base CX0 2 T.a__law_is_system T.d__law_is_system ["told"] (SpB K sp__law_is_system) := by
  refine T.F__law_is_system.ok sc__law_is_system (fun vs H Q E h => spB_len h (fun _ => rfl)) (fun cdv A outer s H vs Q E hr h => ⟨_, PSs.nox ((pss_cons (ps_if (PW.pt (pw_or (pt_not (pt_truth (pe_callB call_isi (by rfl) T.z_isinstance (by decide +kernel) (pa_cons (pv 0) (pa_cons (pe_bltn (v := .ty "tuple") (by rfl) T.z_tuple (by decide +kernel) rfl) pa_nil))) (by intro _; rfl))) (pw_or (pt_cmpR (op_neD hr.units) (pe_callB call_len (by rfl) T.z_len (by decide +kernel) (pa_cons (pv 0) pa_nil)) pe_int (nomark _)) (pw_or1 (pt_not (pt_truth (pe_call (ok__law_is_integer T) (hr.mono (by decide)) (by rfl) T.g__law_is_integer T.F__law_is_integer.kp (b__law_is_integer T.F__law_is_integer) .nil pass0 (pa_cons (pe_ix ix_seq (pv 0) pe_int (fun _ _ => rfl)) pa_nil)) (by intro _; rfl)))))))
      (pss_one (ps_ret pe_bl))
      pss_nil)
      (pss_cons (ps_if (pt_not (pt_truth (pe_callB call_isi (by rfl) T.z_isinstance (by decide +kernel) (pa_cons (pe_ix ix_seq (pv 0) pe_int (fun _ _ => rfl)) (pa_cons (pe_bltn (v := .ty "list") (by rfl) T.z_list (by decide +kernel) rfl) pa_nil))) (by intro _; rfl)))
      (pss_one (ps_ret pe_bl))
      pss_nil)
      (pss_cons (ps_for PassesOwn.never rfl (pi_any (pe_ix ix_seq (pv 0) pe_int (fun _ _ => rfl))) (pg_name (i := 1) sc__law_is_system.nd rfl (.inl rfl) (.inr rfl))
      (pss_cons (ps_if (PW.pt (pw_or (pt_not (pt_truth (pe_callB call_isi (by rfl) T.z_isinstance (by decide +kernel) (pa_cons (pv 1) (pa_cons (pe_bltn (v := .ty "tuple") (by rfl) T.z_tuple (by decide +kernel) rfl) pa_nil))) (by intro _; rfl))) (pw_or1 (pt_cmpR (op_neD hr.units) (pe_callB call_len (by rfl) T.z_len (by decide +kernel) (pa_cons (pv 1) pa_nil)) pe_int (nomark _)))))
      (pss_one (ps_ret pe_bl))
      pss_nil)
      (pss_one (ps_if (pt_not (pt_truth (pe_callB (cr_all rfl) (by rfl) T.z_all (by decide +kernel) (pa_cons (pe_lc (own := [("part", 2)]) rfl sc__law_is_system.nd (pi_any (pv 1)) (blkOk_by (own := [("part", 2)]) (N := ["told", "row", "part"]) (sc := defScope s__law_is_system) (by decide +kernel)) (fun _ _ _ _ _ => (pg_name (i := 2) sc__law_is_system.nd rfl (.inl rfl) (.inr rfl))) (fun _ _ _ _ _ => pts_nil) (fun _ _ _ _ _ => (pe_call (ok__law_is_integer T) (hr.mono (by decide)) (by rfl) T.g__law_is_integer T.F__law_is_integer.kp (b__law_is_integer T.F__law_is_integer) .nil pass0 (pa_cons (pv 2) pa_nil)))) pa_nil)) (by intro _; rfl)))
      (pss_one (ps_ret pe_bl))
      pss_nil))))
      (pss_one (ps_ret pe_bl)))))), ?_⟩)
  refine go_fn (L := ["told", "row", "part"]) h (fun b i hp hX => ?_)
  try dsimp only [cxOf, L2H.cxH, L2.Cx.nox, L2.Cx.wish]
  have kLET := cLET T
  have kNMC := cNMC T
  have kLON := cLON T
  have kSIG := T.w_SIGNS
  have kSTA := T.w_STAY_SIGNS
  have kSID := T.w_SIDES
  
  obtain ⟨n, ls⟩ := i
  show GO K b _ ⟨[some (.t [.d (.int n), .o 0]), none, none], [.lst (ls.map l4D)]⟩ _
  refine go_mid (fun s => s = ⟨[some (.t [.d (.int n), .o 0]), none, none], [.lst (ls.map l4D)]⟩) ?_ ?_
  · refine go_if (et_or (et_not (et_truth (ev_isiN (n := "tuple") (by decide) (ev_var rfl ⟨.tuple [.int n, .list (ls.map l4D)], .t (.cons .d (.cons (.l rfl) .nil)), ?_⟩)))))
    repeat walk_at "z4"
  
    refine ev_callV (E := fun _ => E0) ?_
    repeat walk_at "z4"
  
    refine ⟨n, .bool true, rfl, rfl, rfl, trivial, fun _ _ h => h, fun _ _ h => h, ?_⟩
    repeat walk_at "z4"
  
    exact rfl
  rintro s1 rfl
  refine go_mid (fun s => s = ⟨[some (.t [.d (.int n), .o 0]), none, none], [.lst (ls.map l4D)]⟩) ?_ ?_
  · refine go_if (et_not (et_truth (ev_isiN (n := "list") (by decide) (ev_op (ev_var rfl (ev_int (v2_ixU rfl ⟨.list (ls.map l4D), .l rfl, ?_⟩)))))))
    repeat walk_at "z4"
  
    exact rfl
  rintro s1 rfl
  refine go_seq (go_for (ei_anyL (ei_list (ev_op (ev_var rfl (ev_int (v2_ixU rfl ⟨ls.map l4D, fun os => os[0]? = some (.lst (ls.map l4D)), .inr ⟨0, rfl, fun _ h => h⟩, rfl, ?_⟩)))))))
  refine ⟨fun j s => ∃ (x1 : Option Dw.A) (cs : List C), s = ⟨[some (.t [.d (.int n), .o 0]), x1, none], .lst (ls.map l4D) :: cs⟩, ⟨none, [], rfl⟩, (fun j s hj ⟨_, _, e⟩ => by rw [e]; rfl), ?_, ?_⟩
  · rintro j v s2 hx ⟨x1, cs, rfl⟩
    obtain ⟨⟨la, lb, lc, ld⟩, hl, rfl⟩ := map_get hx
    show GT K b _ (.d (.tuple [.int la, .int lb, .int lc, .int ld])) _ _
    refine gt_name ?_
    repeat walk_at "z4"
  
    refine ev_lc (tg_name (.head _)) mg_name (ei_anyT (ei_tup (ev_var rfl ⟨[.int la, .int lb, .int lc, .int ld], rfl, ?_⟩)))
    refine ⟨fun i js s => js = (List.replicate i true).map .bool ∧ s = ⟨[some (.t [.d (.int n), .o 0]), some (.d (.tuple [.int la, .int lb, .int lc, .int ld])), none], .lst (ls.map l4D) :: (cs ++ [.lst js])⟩, ⟨rfl, rfl⟩, ?_, ?_, ?_⟩
    · rintro i js s3 _ ⟨rfl, rfl⟩
      exact ⟨trivial, cell1⟩
    · rintro i v js s3 hx ⟨rfl, rfl⟩
      have hi := (List.getElem?_eq_some_iff.mp hx).1
      have hi : i < 4 := hi
      obtain ⟨e, rfl⟩ : ∃ e : Int, v = .int e := by
        have := List.mem_of_getElem? hx
        simp only [List.mem_cons, List.not_mem_nil, or_false] at this
        rcases this with rfl | rfl | rfl | rfl <;> exact ⟨_, rfl⟩
      refine gt_name ?_
      refine fun σ H tv ta Hd ps R Q kk => kk true H _ Hd ps ⟨fun _ => ?_, fun h => (nomatch h)⟩ R
      refine ev_callV (E := fun _ => E0) ?_
      repeat walk_at "z1"
  
      refine ⟨e, .bool true, rfl, rfl, rfl, trivial, fun _ _ h => h, fun _ _ h => h, ?_⟩
      refine ⟨_, rfl, cell1, Nat.lt_of_le_of_lt (show _ ≤ 1000 by rw [List.length_map, List.length_replicate]; omega) (by decide), ?_, ?_⟩
      · rw [List.replicate_succ', List.map_append]
        rfl
      · show S.mk _ (List.set (C.lst (ls.map l4D) :: (cs ++ [C.lst ((List.replicate i true).map PyData.bool)])) (cs.length + 1) _) = S.mk _ _
        rw [set1]
        rfl
    rintro js s3 ⟨rfl, rfl⟩
    refine ea_nil ?_
    refine vc_all (bs := List.replicate 4 true) ⟨_, cell1, rfl⟩ ?_
    repeat walk_at "z4"
  
    exact ⟨_, _, rfl⟩
  rintro s2 ⟨x1, cs, rfl⟩
  dsimp only
  repeat walk_at "z4"
  
  exact ⟨rfl, rfl⟩
end
def sp__law_equal : Spc where
  I := Tl
  args := fun t => [.o 0, .d (tlD t)]
  cells := fun t => tlC t
  pre := fun _ => True
  post := fun t r os => r = .val (.bool true) ∧ os = tlC t
section
variable {P : Program} {w : World} {K : PySem.W.Frag} {mg : Str → Option Value} {base : Heap}
theorem ok__law_equal (T : Tx P K mg) : FnOk P w K mg base CX0 3 T.a__law_equal T.d__law_equal ["told", "due"] (SpB K sp__law_equal) := by
  refine T.F__law_equal.ok sc__law_equal (fun vs H Q E h => spB_len h (fun _ => rfl)) (fun cdv A outer s H vs Q E hr h => ⟨_, PSs.nox ((pss_cons (ps_if (pt_cmpR (op_neD hr.units) (pe_ix ix_seq (pv 0) pe_int (fun _ _ => rfl)) (pe_ix ix_seq (pv 1) pe_int (fun _ _ => rfl)) (nomark _))
      (pss_one (ps_ret pe_bl))
      pss_nil)
      (pss_cons (ps_if (pt_cmpR (op_eqD hr.units) (pe_ix ix_seq (pv 1) pe_int (fun _ _ => rfl)) pe_str (nomark _))
      (pss_one (ps_ret (pe_ix ix_seq (pv 0) pe_int (fun _ _ => rfl))))
      pss_nil)
      (pss_cons (ps_if (pt_cmpR (op_eqD hr.units) (pe_ix ix_seq (pv 1) pe_int (fun _ _ => rfl)) pe_str (nomark _))
      (pss_one (ps_ret (pe_and (pe_ix ix_seq (pv 0) pe_int (fun _ _ => rfl)) (pe_and (pe_call (ok__law_is_integer T) (hr.mono (by decide)) (by rfl) T.g__law_is_integer T.F__law_is_integer.kp (b__law_is_integer T.F__law_is_integer) .nil pass0 (pa_cons (pe_ix ix_seq (pv 0) pe_int (fun _ _ => rfl)) pa_nil)) (pe_one (pe_cmpR (op_eqD hr.units) (pe_ix ix_seq (pv 0) pe_int (fun _ _ => rfl)) (pe_ix ix_seq (pv 1) pe_int (fun _ _ => rfl)) (nomark _)))))))
      pss_nil)
      (pss_one (ps_ret (pe_and (pe_call (ok__law_is_system T) (hr.mono (by decide)) (by rfl) T.g__law_is_system T.F__law_is_system.kp (b__law_is_system T.F__law_is_system) .nil pass0 (pa_cons (pe_ix ix_seq (pv 0) pe_int (fun _ _ => rfl)) pa_nil)) (pe_one (pe_cmpR (op_eqD hr.units) (pe_ix ix_seq (pv 0) pe_int (fun _ _ => rfl)) (pe_ix ix_seq (pv 1) pe_int (fun _ _ => rfl)) (nomark _)))))))))), ?_⟩)
  refine go_fn (L := ["told", "due"]) h (fun b i hp hX => ?_)
  try dsimp only [cxOf, L2H.cxH, L2.Cx.nox, L2.Cx.wish]
  have kLET := cLET T
  have kNMC := cNMC T
  have kLON := cLON T
  have kSIG := T.w_SIGNS
  have kSTA := T.w_STAY_SIGNS
  have kSID := T.w_SIDES
  
  cases i with
  | g =>
    show GO K b _ ⟨[some (.o 0), some (.d (.list [.str "BadGoal"]))], [.lst [.str "BadGoal", .bool true]]⟩ _
    repeat walk_at "z4"
  
    exact ⟨rfl, rfl⟩
  | p a =>
    show GO K b _ ⟨[some (.o 0), some (.d (.list [.str "BadPath", .int (a : Nat)]))], [.lst [.str "BadPath", .int (a : Nat), .bool true]]⟩ _
    repeat walk_at "z4"
  
    refine ev_callV (E := fun _ => E0) ?_
    repeat walk_at "z4"
  
    refine ⟨((a : Nat) : Int), .bool true, rfl, rfl, rfl, trivial, fun _ _ h => h, fun _ _ h => h, ?_⟩
    repeat walk_at "z4"
  
    refine ⟨?_, rfl⟩
    show Rv.val (.bool (decide (((a : Nat) : Int) = ((a : Nat) : Int)))) = Rv.val (.bool true)
    rw [decide_eq_true rfl]
  | l n ls =>
    show GO K b _ ⟨[some (.o 0), some (.d (.list [.str "limits", .tuple [.int n, .list (ls.map l4D)]]))], [.la [.d (.str "limits"), .t [.d (.int n), .o 1]], .lst (ls.map l4D)]⟩ _
    repeat walk_at "z4"
  
    refine ev_callM (E := fun _ => E0) [1] (by decide) ?_
    repeat walk_at "z4"
  
    refine ⟨(n, ls), rfl, ⟨⟨trivial, List.mem_singleton_self _, trivial⟩, trivial⟩, rfl, fun j hj => by rw [List.mem_singleton.mp hj]; exact ⟨_, rfl, (fun z => nomatch z), trivial⟩, trivial, fun r os' hr _ => ?_, fun _ _ h => h⟩
    obtain ⟨rfl, rfl⟩ := hr
    refine ⟨rfl, ?_⟩
    dsimp only [aft]
    repeat walk_at "z4"
  
    refine v2_eqN1 (d := .tuple [.int n, .list (ls.map l4D)]) (.t (.cons .d (.cons (.l rfl) .nil))) .d shp_sys (by decide) ?_
    repeat walk_at "z4"
  
    exact ⟨rfl, rfl⟩
end
section
variable {K : PySem.W.Frag} {b : B} {s : S} {t : TA} {Φ : Dw.A → S → Prop}
theorem ev_equal {E : L2.St → XK} (u : Tl) (k : Nat) (h : EA K b t s fun as s1 => ∃ (ss : List (Option Dw.A)) (pre : List C), pre.length = k ∧ as = [.o k, .d (tlD u)] ∧ s1 = ⟨ss, pre ++ tlS k u⟩ ∧ Φ (.d (.bool true)) ⟨ss, pre ++ tlS k u⟩) : EV K b (tCallG (SpB K sp__law_equal) E t) s Φ := by
  have one : ∀ (u : Tl) (xs : List PyData), tlC u = [.lst xs] → tlS k u = [.lst xs] → (EA K b t s fun as s1 => ∃ (ss : List (Option Dw.A)) (pre : List C), pre.length = k ∧ as = [.o k, .d (tlD u)] ∧ s1 = ⟨ss, pre ++ tlS k u⟩ ∧ Φ (.d (.bool true)) ⟨ss, pre ++ tlS k u⟩) → EV K b (tCallG (SpB K sp__law_equal) E t) s Φ := by
    intro u xs e1 e2 h
    refine ev_callM [k] (List.pairwise_singleton _ _) fun σ H tv tl Hd ps R Q kk => h σ H tv tl Hd ps R Q fun vs H1 as s1 Hd1 ps1 h1 R1 a1 => kk vs H1 as s1 Hd1 ps1 ?_ R1 a1
    obtain ⟨ss, pre, rfl, rfl, rfl, q⟩ := h1
    rw [e2] at q ⊢
    have ix : [pre.length].idxOf pre.length = 0 := List.idxOf_cons_self
    have gd : (pre ++ [C.lst xs])[pre.length]? = some (C.lst xs) := gl0
    refine ⟨u, ?_, ⟨List.mem_singleton_self _, trivial, trivial⟩, ?_, fun j hj => by rw [List.mem_singleton.mp hj]; exact ⟨_, gd, (fun z => nomatch z), trivial⟩, trivial, fun r os' hr _ => ?_, fun _ _ h => h⟩
    · show [Dw.A.o 0, Dw.A.d (tlD u)] = [Dw.A.o ([pre.length].idxOf pre.length), Dw.A.d (tlD u)]
      rw [ix]
    · show tlC u = [renC [pre.length] ((pre ++ [C.lst xs]).getD pre.length .dead)]
      rw [List.getD_eq_getElem?_getD, gd, e1]
      rfl
    obtain ⟨rfl, rfl⟩ := hr
    rw [e1]
    refine ⟨rfl, ?_⟩
    have eos : setAll (pre ++ [C.lst xs]) [pre.length] ([C.lst xs].map (unC [pre.length])) = pre ++ [C.lst xs] := by
      show (pre ++ [C.lst xs]).set pre.length (C.lst xs) = _
      exact gs0
    rw [eos]
    exact q
  cases u with
  | g => exact one .g _ rfl rfl h
  | p a => exact one (.p a) _ rfl rfl h
  | l n ls =>
    have nd : [k, k + 1].Nodup := by simp
    refine ev_callM [k, k + 1] nd fun σ H tv tl Hd ps R Q kk => h σ H tv tl Hd ps R Q fun vs H1 as s1 Hd1 ps1 h1 R1 a1 => kk vs H1 as s1 Hd1 ps1 ?_ R1 a1
    obtain ⟨ss, pre, rfl, rfl, rfl, q⟩ := h1
    have ix0 : [pre.length, pre.length + 1].idxOf pre.length = 0 := List.idxOf_cons_self
    have ix1 : [pre.length, pre.length + 1].idxOf (pre.length + 1) = 1 := by
      simp only [List.idxOf_cons, List.idxOf_nil]
      rw [show (pre.length == pre.length + 1) = false from beq_eq_false_iff_ne.mpr (by omega)]
      simp
    have g0 : (pre ++ tlS pre.length (.l n ls))[pre.length]? = some (C.la [.d (.str "limits"), .t [.d (.int n), .o (pre.length + 1)]]) := gl0
    have g1 : (pre ++ tlS pre.length (.l n ls))[pre.length + 1]? = some (C.lst (ls.map l4D)) := gl1
    refine ⟨.l n ls, ?_, ⟨List.mem_cons_self, trivial, trivial⟩, ?_, fun j hj => ?_, trivial, fun r os' hr _ => ?_, fun _ _ h => h⟩
    · show [Dw.A.o 0, Dw.A.d _] = [Dw.A.o ([pre.length, pre.length + 1].idxOf pre.length), Dw.A.d _]
      rw [ix0]
    · show [C.la [.d (.str "limits"), .t [.d (.int n), .o 1]], C.lst (ls.map l4D)] = [renC [pre.length, pre.length + 1] ((pre ++ tlS pre.length (.l n ls)).getD pre.length .dead), renC [pre.length, pre.length + 1] ((pre ++ tlS pre.length (.l n ls)).getD (pre.length + 1) .dead)]
      rw [List.getD_eq_getElem?_getD, g0, List.getD_eq_getElem?_getD, g1]
      show _ = [C.la [.d (.str "limits"), .t [.d (.int n), .o ([pre.length, pre.length + 1].idxOf (pre.length + 1))]], C.lst (ls.map l4D)]
      rw [ix1]
    · rcases List.mem_cons.mp hj with rfl | hj
      · exact ⟨_, g0, (fun z => nomatch z), ⟨trivial, ⟨trivial, by show pre.length + 1 ∈ [pre.length, pre.length + 1]; simp, trivial⟩, trivial⟩⟩
      · rw [List.mem_singleton.mp hj]
        exact ⟨_, g1, (fun z => nomatch z), trivial⟩
    · obtain ⟨rfl, rfl⟩ := hr
      refine ⟨rfl, ?_⟩
      have eos : setAll (pre ++ tlS pre.length (.l n ls)) [pre.length, pre.length + 1] ((tlC (.l n ls)).map (unC [pre.length, pre.length + 1])) = pre ++ tlS pre.length (.l n ls) := by
        show ((pre ++ tlS pre.length (.l n ls)).set pre.length (C.la [.d (.str "limits"), .t [.d (.int n), .o (pre.length + 1)]])).set (pre.length + 1) (C.lst (ls.map l4D)) = _
        show ((pre ++ _ :: _ :: []).set pre.length _).set (pre.length + 1) _ = _
        rw [gs0, gs1]
        rfl
      rw [eos]
      exact q
theorem ev_eq2 {E : L2.St → XK} (u : Tl) (k : Nat) (h : EA K b t s fun as s1 => ∃ (ss : List (Option Dw.A)) (os pre : List C), pre.length = k ∧ as = [.o k, .d (tlD u)] ∧ s1 = ⟨ss, os⟩ ∧ os = pre ++ tlS k u ∧ Φ (.d (.bool true)) ⟨ss, os⟩) : EV K b (tCallG (SpB K sp__law_equal) E t) s Φ := by
  refine ev_equal u k fun σ H tv tl Hd ps R Q kk => h σ H tv tl Hd ps R Q fun vs H1 as s1 Hd1 ps1 h1 R1 a1 => kk vs H1 as s1 Hd1 ps1 ?_ R1 a1
  obtain ⟨ss, os, pre, e1, e2, e3, rfl, q⟩ := h1
  exact ⟨ss, pre, e1, e2, e3, q⟩
end
def sp_law (K : PySem.W.Frag) : Spc where
  I := List Int
  args := fun ns => [scrP K ns]
  cells := fun _ => []
  pre := fun _ => True
  post := fun _ r _ => r = .val (.bool true)
section
variable {P : Program} {w : World} {K : PySem.W.Frag} {mg : Str → Option Value} {base : Heap}
theorem ok_law (T : Tx P K mg) : FnOk P w K mg base CX0 8 T.a_law T.d_law ["script"] (SpB K (sp_law K)) := by
  refine T.F_law.ok sc_law (fun vs H Q E h => spB_len h (fun _ => rfl)) (fun cdv A outer s H vs Q E hr h => ⟨_, PSs.nox ((pss_cons (ps_set (i := 1) sc_law.nd rfl (.inl rfl) (pe_call (ok__law_box T) (hr.mono (by decide)) (by rfl) T.g__law_box T.F__law_box.kp (b__law_box T.F__law_box) .nil pass0 (pa_cons (pv 0) pa_nil)))
      (pss_cons (ps_set (i := 2) sc_law.nd rfl (.inl rfl) (pe_call (ok__law_table T) (hr.mono (by decide)) (by rfl) T.g__law_table T.F__law_table.kp (b__law_table T.F__law_table) .nil pass0 (pa_cons (pv 1) pa_nil)))
      (pss_cons (ps_set (i := 3) sc_law.nd rfl (.inl rfl) (pe_makeK T.mk_Machine (ok_Machine___init__ T) (hr.mono (by decide)) (by rfl) T.gc_Machine T.kb_Machine passN (pa_cons (pe_ix ix_seq (pv 2) pe_int (fun _ _ => rfl)) (pa_cons (pe_ix ix_seq (pv 2) pe_int (fun _ _ => rfl)) (pa_cons (pe_ix ix_seq (pv 2) pe_int (fun _ _ => rfl)) pa_nil))) (pk_cons (pe_ix ix_seq (pv 2) pe_int (fun _ _ => rfl)) (pk_cons (pe_ix ix_seq (pv 2) pe_int (fun _ _ => rfl)) pk_nil))))
      (pss_cons (ps_set (i := 4) sc_law.nd rfl (.inl rfl) (pe_ix ix_seq (pe_lst (pa_cons pe_int (pa_cons pe_int (pa_cons pe_int (pa_cons pe_int (pa_cons pe_int (pa_cons pe_int (pa_cons pe_int (pa_cons pe_int pa_nil))))))))) (pe_call (ok__law_take T) (hr.mono (by decide)) (by rfl) T.g__law_take T.F__law_take.kp (b__law_take T.F__law_take) .nil pass0 (pa_cons (pv 1) (pa_cons pe_int pa_nil))) (fun _ _ => rfl)))
      (pss_cons (ps_if (pt_cmpR (op_eqD hr.units) (pe_call (ok__law_take T) (hr.mono (by decide)) (by rfl) T.g__law_take T.F__law_take.kp (b__law_take T.F__law_take) .nil pass0 (pa_cons (pv 1) (pa_cons pe_int pa_nil))) pe_int (nomark _))
      (pss_one (ps_set (i := 4) sc_law.nd rfl (.inl rfl) pe_int))
      pss_nil)
      (pss_cons (ps_set (i := 5) sc_law.nd rfl (.inl rfl) (pe_call (ok__law_path T) (hr.mono (by decide)) (by rfl) T.g__law_path T.F__law_path.kp (b__law_path T.F__law_path) .nil pass0 (pa_cons (pv 1) (pa_cons (pv 2) (pa_cons (pv 4) pa_nil)))))
      (pss_cons (ps_set (i := 6) sc_law.nd rfl (.inl rfl) (pe_call (ok__law_aim T) (hr.mono (by decide)) (by rfl) T.g__law_aim T.F__law_aim.kp (b__law_aim T.F__law_aim) .nil pass0 (pa_cons (pv 1) (pa_cons (pv 2) (pa_cons (pv 5) pa_nil)))))
      (pss_cons (ps_for PassesOwn.never rfl (pi_any (pe_lst (pa_cons pe_non (pa_cons (pv 6) (pa_cons (pe_tup (pa_cons (pe_tup pa_nil) (pa_cons (pe_ix ix_seq (pv 6) pe_int (fun _ _ => rfl)) pa_nil))) pa_nil))))) (pg_name (i := 7) sc_law.nd rfl (.inl rfl) (.inr rfl))
      (pss_cons (ps_set (i := 8) sc_law.nd rfl (.inl rfl) (pe_call (ok__law_due T) (hr.mono (by decide)) (by rfl) T.g__law_due T.F__law_due.kp (b__law_due T.F__law_due) .nil pass0 (pa_cons (pv 2) (pa_cons (pv 5) (pa_cons (pv 7) pa_nil)))))
      (pss_cons (ps_set (i := 9) sc_law.nd rfl (.inl rfl) (pe_callTy call_list_of (by rfl) T.z_list (by decide +kernel) (pa_cons (pv 5) pa_nil)))
      (pss_cons (ps_set (i := 10) sc_law.nd rfl (.inl rfl) (pe_call (ok__law_told T) (hr.mono (by decide)) (by rfl) T.g__law_told T.F__law_told.kp (b__law_told T.F__law_told) .nil pass0 (pa_cons (pv 3) (pa_cons (pv 9) (pa_cons (pv 7) (pa_cons (pe_call (ok__law_take T) (hr.mono (by decide)) (by rfl) T.g__law_take T.F__law_take.kp (b__law_take T.F__law_take) .nil pass0 (pa_cons (pv 1) (pa_cons pe_int pa_nil))) pa_nil))))))
      (pss_cons (ps_if (PW.pt (pw_or (pt_not (pt_truth (pe_call (ok__law_equal T) (hr.mono (by decide)) (by rfl) T.g__law_equal T.F__law_equal.kp (b__law_equal T.F__law_equal) .nil pass0 (pa_cons (pv 10) (pa_cons (pv 8) pa_nil))) (by intro _; rfl))) (pw_or1 (pt_cmpR (op_neD hr.units) (pv 9) (pv 5) (nomark _)))))
      (pss_one (ps_ret pe_bl))
      pss_nil)
      (pss_cons (ps_expr (pe_bm PySem.F.plainAttrs_list PySem.F.slot_list_append PySem.F.type_list_append mt_append (pv 9) (pa_cons pe_int pa_nil)))
      (pss_cons (ps_if (pt_cmpR (op_neD hr.units) (pe_ix ix_seq (pv 10) pe_int (fun _ _ => rfl)) (pe_ix ix_seq (pv 8) pe_int (fun _ _ => rfl)) (nomark _))
      (pss_one (ps_ret pe_bl))
      pss_nil)
      (pss_cons (ps_set (i := 11) sc_law.nd rfl (.inl rfl) (pe_ix ix_seq (pe_ix ix_seq (pv 10) pe_int (fun _ _ => rfl)) pe_int (fun _ _ => rfl)))
      (pss_cons (ps_expr (pe_bm PySem.F.plainAttrs_list PySem.F.slot_list_append PySem.F.type_list_append mt_append (pv 11) (pa_cons (pe_tup (pa_cons pe_int (pa_cons pe_int (pa_cons pe_int (pa_cons pe_int pa_nil))))) pa_nil)))
      (pss_cons (ps_expr (pe_bm PySem.F.plainAttrs_list PySem.F.slot_list_insert PySem.F.type_list_insert mt_insert (pv 11) (pa_cons pe_int (pa_cons (pe_tup (pa_cons pe_int (pa_cons pe_int (pa_cons pe_int (pa_cons pe_int pa_nil))))) pa_nil))))
      (pss_one (ps_if (pt_not (pt_truth (pe_call (ok__law_equal T) (hr.mono (by decide)) (by rfl) T.g__law_equal T.F__law_equal.kp (b__law_equal T.F__law_equal) .nil pass0 (pa_cons (pe_call (ok__law_told T) (hr.mono (by decide)) (by rfl) T.g__law_told T.F__law_told.kp (b__law_told T.F__law_told) .nil pass0 (pa_cons (pv 3) (pa_cons (pe_callTy call_list_of (by rfl) T.z_list (by decide +kernel) (pa_cons (pv 5) pa_nil)) (pa_cons (pv 7) (pa_cons (pe_call (ok__law_take T) (hr.mono (by decide)) (by rfl) T.g__law_take T.F__law_take.kp (b__law_take T.F__law_take) .nil pass0 (pa_cons (pv 1) (pa_cons pe_int pa_nil))) pa_nil))))) (pa_cons (pv 8) pa_nil))) (by intro _; rfl)))
      (pss_one (ps_ret pe_bl))
      pss_nil))))))))))))
      (pss_cons (ps_set (i := 12) sc_law.nd rfl (.inl rfl) (pe_call (ok__law_bad_paths T) (hr.mono (by decide)) (by rfl) T.g__law_bad_paths T.F__law_bad_paths.kp (b__law_bad_paths T.F__law_bad_paths) .nil pass0 (pa_cons (pv 1) (pa_cons (pv 2) (pa_cons (pv 5) pa_nil)))))
      (pss_cons (ps_for PassesOwn.never rfl (pi_any (pv 12)) (pg_name (i := 11) sc_law.nd rfl (.inl rfl) (.inr rfl))
      (pss_cons (ps_set (i := 7) sc_law.nd rfl (.inl rfl) (pe_ix ix_seq (pe_lst (pa_cons pe_non (pa_cons (pv 6) pa_nil))) (pe_call (ok__law_take T) (hr.mono (by decide)) (by rfl) T.g__law_take T.F__law_take.kp (b__law_take T.F__law_take) .nil pass0 (pa_cons (pv 1) (pa_cons pe_int pa_nil))) (fun _ _ => rfl)))
      (pss_cons (ps_set (i := 10) sc_law.nd rfl (.inl rfl) (pe_call (ok__law_told T) (hr.mono (by decide)) (by rfl) T.g__law_told T.F__law_told.kp (b__law_told T.F__law_told) .nil pass0 (pa_cons (pv 3) (pa_cons (pe_callTy call_list_of (by rfl) T.z_list (by decide +kernel) (pa_cons (pv 11) pa_nil)) (pa_cons (pv 7) (pa_cons (pe_call (ok__law_take T) (hr.mono (by decide)) (by rfl) T.g__law_take T.F__law_take.kp (b__law_take T.F__law_take) .nil pass0 (pa_cons (pv 1) (pa_cons pe_int pa_nil))) pa_nil))))))
      (pss_one (ps_if (pt_not (pt_truth (pe_call (ok__law_equal T) (hr.mono (by decide)) (by rfl) T.g__law_equal T.F__law_equal.kp (b__law_equal T.F__law_equal) .nil pass0 (pa_cons (pv 10) (pa_cons (pe_call (ok__law_due T) (hr.mono (by decide)) (by rfl) T.g__law_due T.F__law_due.kp (b__law_due T.F__law_due) .nil pass0 (pa_cons (pv 2) (pa_cons (pv 11) (pa_cons (pv 7) pa_nil)))) pa_nil))) (by intro _; rfl)))
      (pss_one (ps_ret pe_bl))
      pss_nil)))))
      (pss_cons (ps_for PassesOwn.never rfl (pi_any (pe_call (ok__law_bad_aims T) (hr.mono (by decide)) (by rfl) T.g__law_bad_aims T.F__law_bad_aims.kp (b__law_bad_aims T.F__law_bad_aims) .nil pass0 (pa_cons (pv 1) (pa_cons (pv 2) (pa_cons (pv 6) pa_nil))))) (pg_name (i := 7) sc_law.nd rfl (.inl rfl) (.inr rfl))
      (pss_cons (ps_set (i := 11) sc_law.nd rfl (.inl rfl) (pe_ix ix_seq (pe_lst (pa_cons (pv 5) (pa_cons (pe_ix ix_seq (pv 12) (pe_call (ok__law_take T) (hr.mono (by decide)) (by rfl) T.g__law_take T.F__law_take.kp (b__law_take T.F__law_take) .nil pass0 (pa_cons (pv 1) (pa_cons (pe_callB call_len (by rfl) T.z_len (by decide +kernel) (pa_cons (pv 12) pa_nil)) pa_nil))) (fun _ _ => rfl)) pa_nil))) (pe_call (ok__law_take T) (hr.mono (by decide)) (by rfl) T.g__law_take T.F__law_take.kp (b__law_take T.F__law_take) .nil pass0 (pa_cons (pv 1) (pa_cons pe_int pa_nil))) (fun _ _ => rfl)))
      (pss_one (ps_if (pt_not (pt_truth (pe_call (ok__law_equal T) (hr.mono (by decide)) (by rfl) T.g__law_equal T.F__law_equal.kp (b__law_equal T.F__law_equal) .nil pass0 (pa_cons (pe_call (ok__law_told T) (hr.mono (by decide)) (by rfl) T.g__law_told T.F__law_told.kp (b__law_told T.F__law_told) .nil pass0 (pa_cons (pv 3) (pa_cons (pe_callTy call_list_of (by rfl) T.z_list (by decide +kernel) (pa_cons (pv 11) pa_nil)) (pa_cons (pv 7) (pa_cons (pe_call (ok__law_take T) (hr.mono (by decide)) (by rfl) T.g__law_take T.F__law_take.kp (b__law_take T.F__law_take) .nil pass0 (pa_cons (pv 1) (pa_cons pe_int pa_nil))) pa_nil))))) (pa_cons (pe_lst (pa_cons pe_str pa_nil)) pa_nil))) (by intro _; rfl)))
      (pss_one (ps_ret pe_bl))
      pss_nil))))
      (pss_cons (ps_set (i := 13) sc_law.nd rfl (.inl rfl) (pe_lst (pa_cons (pe_ix ix_seq (pv 2) pe_int (fun _ _ => rfl)) (pa_cons (pe_ix ix_seq (pv 2) pe_int (fun _ _ => rfl)) (pa_cons (pe_ix ix_seq (pv 2) pe_int (fun _ _ => rfl)) (pa_cons (pe_op op_mod (pe_callTy call_int1 (by rfl) T.z_int (by decide +kernel) (pa_cons (pe_op op_addA (pe_ix ix_seq (pv 2) pe_int (fun _ _ => rfl)) pe_int) pa_nil)) (pe_callB call_len (by rfl) T.z_len (by decide +kernel) (pa_cons (pe_ix ix_seq (pv 2) pe_int (fun _ _ => rfl)) pa_nil))) (pa_cons (pe_ix ix_seq (pv 2) pe_int (fun _ _ => rfl)) (pa_cons (pe_ix ix_seq (pv 2) pe_int (fun _ _ => rfl)) pa_nil))))))))
      (pss_cons (ps_set (i := 14) sc_law.nd rfl (.inl rfl) (pe_makeK T.mk_Machine (ok_Machine___init__ T) (hr.mono (by decide)) (by rfl) T.gc_Machine T.kb_Machine passN (pa_cons (pe_ix ix_seq (pv 13) pe_int (fun _ _ => rfl)) (pa_cons (pe_ix ix_seq (pv 13) pe_int (fun _ _ => rfl)) (pa_cons (pe_ix ix_seq (pv 13) pe_int (fun _ _ => rfl)) pa_nil))) (pk_cons (pe_ix ix_seq (pv 13) pe_int (fun _ _ => rfl)) (pk_cons (pe_ix ix_seq (pv 13) pe_int (fun _ _ => rfl)) pk_nil))))
      (pss_cons (ps_for PassesOwn.never rfl (pi_range1 (by rfl) T.z_range (pa_cons pe_int pa_nil)) (pg_name (i := 15) sc_law.nd rfl (.inl rfl) (.inr rfl))
      (pss_cons (ps_if (pt_not (pt_truth (pe_call (ok__law_equal T) (hr.mono (by decide)) (by rfl) T.g__law_equal T.F__law_equal.kp (b__law_equal T.F__law_equal) .nil pass0 (pa_cons (pe_call (ok__law_told T) (hr.mono (by decide)) (by rfl) T.g__law_told T.F__law_told.kp (b__law_told T.F__law_told) .nil pass0 (pa_cons (pv 14) (pa_cons (pe_callTy call_list_of (by rfl) T.z_list (by decide +kernel) (pa_cons (pv 5) pa_nil)) (pa_cons (pv 6) (pa_cons (pv 15) pa_nil))))) (pa_cons (pe_call (ok__law_due T) (hr.mono (by decide)) (by rfl) T.g__law_due T.F__law_due.kp (b__law_due T.F__law_due) .nil pass0 (pa_cons (pv 13) (pa_cons (pv 5) (pa_cons (pv 6) pa_nil)))) pa_nil))) (by intro _; rfl)))
      (pss_one (ps_ret pe_bl))
      pss_nil)
      (pss_one (ps_if (pt_not (pt_truth (pe_call (ok__law_equal T) (hr.mono (by decide)) (by rfl) T.g__law_equal T.F__law_equal.kp (b__law_equal T.F__law_equal) .nil pass0 (pa_cons (pe_call (ok__law_told T) (hr.mono (by decide)) (by rfl) T.g__law_told T.F__law_told.kp (b__law_told T.F__law_told) .nil pass0 (pa_cons (pv 3) (pa_cons (pe_callTy call_list_of (by rfl) T.z_list (by decide +kernel) (pa_cons (pv 5) pa_nil)) (pa_cons (pv 6) (pa_cons (pv 15) pa_nil))))) (pa_cons (pe_call (ok__law_due T) (hr.mono (by decide)) (by rfl) T.g__law_due T.F__law_due.kp (b__law_due T.F__law_due) .nil pass0 (pa_cons (pv 2) (pa_cons (pv 5) (pa_cons (pv 6) pa_nil)))) pa_nil))) (by intro _; rfl)))
      (pss_one (ps_ret pe_bl))
      pss_nil))))
      (pss_one (ps_ret pe_bl))))))))))))))))), ?_⟩)
  refine go_fn (L := ["script", "box", "table", "machine", "most", "path", "aim", "want", "due", "given", "told", "row", "bad", "shifted", "other", "k"]) h (fun b i hp hX => ?_)
  try dsimp only [cxOf, L2H.cxH, L2.Cx.nox, L2.Cx.wish]
  have kLET := cLET T
  have kNMC := cNMC T
  have kLON := cLON T
  have kSIG := T.w_SIGNS
  have kSTA := T.w_STAY_SIGNS
  have kSID := T.w_SIDES
  
  show GO K b _ ⟨[some (scrP K i), none, none, none, none, none, none, none, none, none, none, none, none, none, none, none], []⟩ _
  refine go_sAsg (ev_call0 (E := fun _ => E0) (ea_cons (ev_var rfl (ea_nil ?_))))
  refine ⟨i, rfl, rfl, rfl, trivial, fun r os' hr => ?_, xok_no⟩
  obtain ⟨x, rfl⟩ := hr
  refine gt_name ?_
  show GO K b _ ⟨[some (scrP K i), some (.o 0), none, none, none, none, none, none, none, none, none, none, none, none, none, none], [bxA x, bxB x]⟩ _
  refine go_sAsg ?_
  refine ev_box (E := fun _ => E0) ?_
  repeat walk_at "z4"
  
  refine ⟨trivial, fun r os' hr => ?_, fun _ _ h => h⟩
  obtain ⟨m, sc, y, rfl, rfl, ok, sc0⟩ := hr
  have p0 : 0 < m.places.length := ok.p0
  have p200 : m.places.length ≤ 200 := ok.p2
  refine ⟨y, rfl, ?_⟩
  refine gt_name ?_
  show GO K b _ ⟨[some (scrP K i), some (.o 0), some (.d (.list [strsT m.clocks, plcsT m.places, movsT m.moves, .int m.start, strsT m.rush, .int sc])), none, none, none, none, none, none, none, none, none, none, none, none, none], [bxA y, bxB y]⟩ _
  refine go_sAsg (ev_makeK (gT := fun us ws => us ++ ws) (fun _ _ _ => rfl) ?_)
  repeat walk_at "z4"
  refine ⟨rfl, rfl, rfl, rfl, m, [.d (strsT m.clocks), .d (plcsT m.places), .d (movsT m.moves), .d (.int (m).start), .d (strsT m.rush)], fun _ _ _ _ h1 h2 => pair_app h1 h2, rfl, rfl, rfl, ok, fun r c' hr => ?_, fun _ _ h => h⟩
  obtain ⟨rfl, hc⟩ := hr
  cases hc
  refine ⟨mF (m), rfl, rfl, ?_⟩
  refine gt_name ?_
  
  refine go_sAsg (ev_op (ev_lst ?_))
  repeat walk_at "z4"
  refine ev_tk (E := fun _ => E0) ?_
  repeat walk_at "z4"
  refine ⟨y, 8, _, _, rfl, rfl, by decide, fun v y1 v0 v1 => ?_⟩
  have v1 := v1 (by decide)
  
  obtain ⟨n', hn, n0, n8⟩ := at_lit [0, 1, 2, 3, 4, 5, 6, 8] 0 8 (by decide) v0 v1
  refine v2_ixL (ds := inL [0, 1, 2, 3, 4, 5, 6, 8]) hn ?_
  obtain ⟨n, rfl⟩ : ∃ j : Nat, n' = j := ⟨n'.toNat, by omega⟩
  refine gt_name ?_
  refine go_mid (fun s => ∃ (y : Bx) (n : Nat), n ≤ 150 ∧ s = ⟨[some (scrP K i), some (.o 0), some (.d (.list [strsT m.clocks, plcsT m.places, movsT m.moves, .int m.start, strsT m.rush, .int sc])), some (insP K T.c_Machine (mF m)), some (.d (.int n)), none, none, none, none, none, none, none, none, none, none, none], bxA y :: bxB y :: []⟩) ?_ ?_
  · repeat walk_at "z4"
    refine ev_tk (E := fun _ => E0) ?_
    repeat walk_at "z4"
    refine ⟨y1, 24, _, _, rfl, rfl, by decide, fun u y2 u0 u1 => ?_⟩
    have u1 := u1 (by decide)
  
    repeat walk_at "z4"
  
    refine ⟨fun z => ?_, fun z => ?_⟩
    · repeat walk_at "z4"
  
      exact ⟨y2, 150, Nat.le_refl _, rfl⟩
    · refine go_next ?_
      exact ⟨y2, n, by omega, rfl⟩
  clear n0 n8 hn y n
  rintro s1 ⟨y, n, hn, rfl⟩
  refine go_sAsg ?_
  refine ev_box (E := fun _ => E0) ?_
  repeat walk_at "z4"
  
  refine ⟨(y, m, sc, n), y, _, _, _, rfl, rfl, rfl, rfl, rfl, ⟨ok, hn⟩, fun r os' hr => ?_, fun _ _ h => h⟩
  obtain ⟨p, y2, rfl, rfl, hpl, hfit⟩ := hr
  have hp150 : p.length ≤ 150 := by omega
  refine ⟨y2, rfl, ?_⟩
  refine gt_name ?_
  refine go_sAsg ?_
  refine ev_box (E := fun _ => E0) ?_
  repeat walk_at "z4"
  
  refine ⟨(y2, m, sc, p), y2, _, _, _, rfl, rfl, rfl, rfl, rfl, ⟨ok, by omega, hfit, sc0⟩, fun r os' hr => ?_, fun _ _ h => h⟩
  obtain ⟨g, y3, rfl, rfl, hgb, ga1, ga2⟩ := hr
  have hgw := good_want hgb ga2
  refine ⟨y3, rfl, ?_⟩
  refine gt_name ?_
  show GO K b _ ⟨[some (scrP K i), some (.o 0), some (.d (.list [strsT m.clocks, plcsT m.places, movsT m.moves, .int m.start, strsT m.rush, .int sc])), some (insP K T.c_Machine (mF m)), some (.d (.int n)), some (.d (.list (inL p))), some (.d (.tuple [.tuple (inL g.1), .tuple (g.2.map gcD)])), none, none, none, none, none, none, none, none, none], bxA y3 :: bxB y3 :: []⟩ _
  refine go_mid (fun s => ∃ (y : Bx) (cs : List C) (xw xd xg xt xr : Option Dw.A), s = ⟨[some (scrP K i), some (.o 0), some (.d (.list [strsT m.clocks, plcsT m.places, movsT m.moves, .int m.start, strsT m.rush, .int sc])), some (insP K T.c_Machine (mF m)), some (.d (.int n)), some (.d (.list (inL p))), some (.d (.tuple [.tuple (inL g.1), .tuple (g.2.map gcD)])), xw, xd, xg, xt, xr, none, none, none, none], bxA y :: bxB y :: cs⟩) ?_ ?_
  · refine go_for (ei_anyL (ei_list (ev_lst ?_)))
    repeat walk_at "z4"
  
    refine ⟨[none, some g, some (([] : List Int), g.2)].map ogD, fun _ => True, .inl rfl, trivial, ?_⟩
    refine ⟨fun j s => ∃ (y : Bx) (cs : List C) (xw xd xg xt xr : Option Dw.A), s = ⟨[some (scrP K i), some (.o 0), some (.d (.list [strsT m.clocks, plcsT m.places, movsT m.moves, .int m.start, strsT m.rush, .int sc])), some (insP K T.c_Machine (mF m)), some (.d (.int n)), some (.d (.list (inL p))), some (.d (.tuple [.tuple (inL g.1), .tuple (g.2.map gcD)])), xw, xd, xg, xt, xr, none, none, none, none], bxA y :: bxB y :: cs⟩, ⟨y3, [], none, none, none, none, none, rfl⟩, fun _ _ _ _ => trivial, ?_, ?_⟩
    rotate_left
    · rintro s2 ⟨y, cs, xw, xd, xg, xt, xr, rfl⟩
      exact ⟨y, cs, xw, xd, xg, xt, xr, rfl⟩
    rintro j v s2 hx ⟨y, cs, xw, xd, xg, xt, xr, rfl⟩
    obtain ⟨wt, hw, rfl⟩ := map_get hx
    have hg := hgw wt (List.mem_of_getElem? hw)
    have hg1 : ∀ gg, wt = some gg → goalB m gg = true := fun gg e => (hg gg e).1
    have hg2 : ∀ gg, wt = some gg → gg.2.length ≤ 1000 := fun gg e => (hg gg e).2
    have hres : Res m p wt (.l ((p.length : Int) + 2) (limA m p wt)) := ⟨hg1, hfit, rfl, rfl⟩
    have lll := lim_len ok (p := p) (g := wt) (by omega) hg2
    refine gt_name ?_
    refine go_sAsg (ev_due (E := fun _ => E0) ?_)
    repeat walk_at "z4"
  
    refine ⟨m, sc, p, wt, _, rfl, ⟨ok, by omega, hg⟩, hres, ?_⟩
    refine gt_name ?_
    refine go_sAsg ?_
    repeat walk_at "z4"
  
    refine vc_listO (ds := inL p) (.inl rfl) ?_
    refine gt_name ?_
    show GO K b _ ⟨[some (scrP K i), some (.o 0), some (.d (.list [strsT m.clocks, plcsT m.places, movsT m.moves, .int m.start, strsT m.rush, .int sc])), some (insP K T.c_Machine (mF m)), some (.d (.int n)), some (.d (.list (inL p))), some (.d (.tuple [.tuple (inL g.1), .tuple (g.2.map gcD)])), some (.d (ogD wt)), some (.d (.list [.str "limits", .tuple [.int ((p.length : Int) + 2), .list ((limA m p wt).map l4D)]])), some (.o (cs.length + 2)), xt, xr, none, none, none, none], bxA y :: bxB y :: (cs ++ [.lst (inL p)])⟩ _
    refine go_sAsg (ev_told (E := fun _ => E0) (.l ((p.length : Int) + 2) (limA m p wt)) (cs.length + 2) ?_)
    repeat walk_at "z4"
  
    refine ev_tk (E := fun _ => E0) ?_
    repeat walk_at "z4"
  
    refine ⟨y, 3, _, _, rfl, rfl, by decide, fun w y1 w0 w1 => ?_⟩
    repeat walk_at "z4"
  
    refine ⟨m, p, wt, w, _, bxA y1 :: bxB y1 :: cs, rfl, rfl, rfl, ⟨ok, by omega, hg2⟩, hres, ?_⟩
    refine gt_name ?_
    clear w0 w1 w y
    obtain ⟨y, rfl⟩ : ∃ y, y = y1 := ⟨_, rfl⟩
    show GO K b _ ⟨[some (scrP K i), some (.o 0), some (.d (.list [strsT m.clocks, plcsT m.places, movsT m.moves, .int m.start, strsT m.rush, .int sc])), some (insP K T.c_Machine (mF m)), some (.d (.int n)), some (.d (.list (inL p))), some (.d (.tuple [.tuple (inL g.1), .tuple (g.2.map gcD)])), some (.d (ogD wt)), some (.d (.list [.str "limits", .tuple [.int ((p.length : Int) + 2), .list ((limA m p wt).map l4D)]])), some (.o (cs.length + 2)), some (.o (cs.length + 3)), xr, none, none, none, none], bxA y :: bxB y :: (cs ++ .lst (inL p) :: .la [.d (.str "limits"), .t [.d (.int ((p.length : Int) + 2)), .o (cs.length + 4)]] :: .lst ((limA m p wt).map l4D) :: [])⟩ _
    refine go_mid (fun s => s = ⟨[some (scrP K i), some (.o 0), some (.d (.list [strsT m.clocks, plcsT m.places, movsT m.moves, .int m.start, strsT m.rush, .int sc])), some (insP K T.c_Machine (mF m)), some (.d (.int n)), some (.d (.list (inL p))), some (.d (.tuple [.tuple (inL g.1), .tuple (g.2.map gcD)])), some (.d (ogD wt)), some (.d (.list [.str "limits", .tuple [.int ((p.length : Int) + 2), .list ((limA m p wt).map l4D)]])), some (.o (cs.length + 2)), some (.o (cs.length + 3)), xr, none, none, none, none], bxA y :: bxB y :: (cs ++ .lst (inL p) :: .la [.d (.str "limits"), .t [.d (.int ((p.length : Int) + 2)), .o (cs.length + 4)]] :: .lst ((limA m p wt).map l4D) :: [])⟩) ?_ ?_
    · refine go_if (et_or (et_not (et_truth (ev_eq2 (E := fun _ => E0) (.l ((p.length : Int) + 2) (limA m p wt)) (cs.length + 3) ?_))))
      repeat walk_at "z4"
  
      refine ⟨_, _, bxA y :: bxB y :: (cs ++ [.lst (inL p)]), by simp, rfl, rfl, by simp [tlS], ?_⟩
      repeat walk_at "z4"
  
      refine v2_neS1 (d := .list (inL p)) (k := 1) ⟨_, gl0 (pre := (bxA y :: bxB y :: cs)), rfl⟩ rfl (shp_list shp_inL) (by decide) ?_
      repeat walk_at "z4"
  
      exact rfl
    rintro s3 rfl
    refine go_mid (fun s => s = ⟨[some (scrP K i), some (.o 0), some (.d (.list [strsT m.clocks, plcsT m.places, movsT m.moves, .int m.start, strsT m.rush, .int sc])), some (insP K T.c_Machine (mF m)), some (.d (.int n)), some (.d (.list (inL p))), some (.d (.tuple [.tuple (inL g.1), .tuple (g.2.map gcD)])), some (.d (ogD wt)), some (.d (.list [.str "limits", .tuple [.int ((p.length : Int) + 2), .list ((limA m p wt).map l4D)]])), some (.o (cs.length + 2)), some (.o (cs.length + 3)), xr, none, none, none, none], bxA y :: bxB y :: (cs ++ .lst (inL p ++ [.int 0]) :: .la [.d (.str "limits"), .t [.d (.int ((p.length : Int) + 2)), .o (cs.length + 4)]] :: .lst ((limA m p wt).map l4D) :: [])⟩) ?_ ?_
    · refine go_drop (ev_bmL (ev_var (a := .o (cs.length + 2)) rfl ⟨⟨cs.length + 2, inL p, rfl, gl0 (pre := (bxA y :: bxB y :: cs))⟩, ?_⟩))
      repeat walk_at "z4"
  
      refine vm_append (n := cs.length + 2) (ds := inL p) (gl0 (pre := (bxA y :: bxB y :: cs))) (Nat.lt_of_le_of_lt (show _ ≤ 1000 by rw [inL_len]; omega) (by decide)) ?_
      exact congrArg (S.mk _) (gs0 (pre := (bxA y :: bxB y :: cs)))
    rintro s3 rfl
    refine go_mid (fun s => s = ⟨[some (scrP K i), some (.o 0), some (.d (.list [strsT m.clocks, plcsT m.places, movsT m.moves, .int m.start, strsT m.rush, .int sc])), some (insP K T.c_Machine (mF m)), some (.d (.int n)), some (.d (.list (inL p))), some (.d (.tuple [.tuple (inL g.1), .tuple (g.2.map gcD)])), some (.d (ogD wt)), some (.d (.list [.str "limits", .tuple [.int ((p.length : Int) + 2), .list ((limA m p wt).map l4D)]])), some (.o (cs.length + 2)), some (.o (cs.length + 3)), xr, none, none, none, none], bxA y :: bxB y :: (cs ++ .lst (inL p ++ [.int 0]) :: .la [.d (.str "limits"), .t [.d (.int ((p.length : Int) + 2)), .o (cs.length + 4)]] :: .lst ((limA m p wt).map l4D) :: [])⟩) ?_ ?_
    · refine go_if ?_
      repeat walk_at "z4"
  
      refine v2_ixA (n := cs.length + 3) (gl1 (pre := (bxA y :: bxB y :: cs))) rfl ?_
      repeat walk_at "z4"
  
      refine v2_neN1 (d := .tuple [.int ((p.length : Int) + 2), .list ((limA m p wt).map l4D)]) (.t (.cons .d (.cons (.l (gl2 (pre := (bxA y :: bxB y :: cs)))) .nil))) .d shp_sys (by decide) ?_
      repeat walk_at "z4"
  
      exact rfl
    rintro s3 rfl
    refine go_mid (fun s => s = ⟨[some (scrP K i), some (.o 0), some (.d (.list [strsT m.clocks, plcsT m.places, movsT m.moves, .int m.start, strsT m.rush, .int sc])), some (insP K T.c_Machine (mF m)), some (.d (.int n)), some (.d (.list (inL p))), some (.d (.tuple [.tuple (inL g.1), .tuple (g.2.map gcD)])), some (.d (ogD wt)), some (.d (.list [.str "limits", .tuple [.int ((p.length : Int) + 2), .list ((limA m p wt).map l4D)]])), some (.o (cs.length + 2)), some (.o (cs.length + 3)), some (.o (cs.length + 4)), none, none, none, none], bxA y :: bxB y :: (cs ++ .lst (inL p ++ [.int 0]) :: .la [.d (.str "limits"), .t [.d (.int ((p.length : Int) + 2)), .o (cs.length + 4)]] :: .lst ((limA m p wt).map l4D) :: [])⟩) ?_ ?_
    · refine go_asg ?_
      repeat walk_at "z4"
  
      refine v2_ixA (n := cs.length + 3) (gl1 (pre := (bxA y :: bxB y :: cs))) rfl ?_
      repeat walk_at "z4"
  
      exact rfl
    rintro s3 rfl
    refine go_mid (fun s => s = ⟨[some (scrP K i), some (.o 0), some (.d (.list [strsT m.clocks, plcsT m.places, movsT m.moves, .int m.start, strsT m.rush, .int sc])), some (insP K T.c_Machine (mF m)), some (.d (.int n)), some (.d (.list (inL p))), some (.d (.tuple [.tuple (inL g.1), .tuple (g.2.map gcD)])), some (.d (ogD wt)), some (.d (.list [.str "limits", .tuple [.int ((p.length : Int) + 2), .list ((limA m p wt).map l4D)]])), some (.o (cs.length + 2)), some (.o (cs.length + 3)), some (.o (cs.length + 4)), none, none, none, none], bxA y :: bxB y :: (cs ++ .lst (inL p ++ [.int 0]) :: .la [.d (.str "limits"), .t [.d (.int ((p.length : Int) + 2)), .o (cs.length + 4)]] :: .lst ((limA m p wt).map l4D ++ [.tuple [.int 0, .int 0, .int 5, .int 1]]) :: [])⟩) ?_ ?_
    · refine go_drop (ev_bmL (ev_var (a := .o (cs.length + 4)) rfl ⟨⟨cs.length + 4, _, rfl, gl2 (pre := (bxA y :: bxB y :: cs))⟩, ?_⟩))
      repeat walk_at "z4"
  
      refine vm_append (n := cs.length + 4) (ds := (limA m p wt).map l4D) (gl2 (pre := (bxA y :: bxB y :: cs))) (Nat.lt_of_le_of_lt (show _ ≤ 6000000 by rw [List.length_map]; exact lll) (by rw [sizeLine_eq]; decide)) ?_
      exact congrArg (S.mk _) (gs2 (pre := (bxA y :: bxB y :: cs)))
    rintro s3 rfl
    refine go_mid (fun s => s = ⟨[some (scrP K i), some (.o 0), some (.d (.list [strsT m.clocks, plcsT m.places, movsT m.moves, .int m.start, strsT m.rush, .int sc])), some (insP K T.c_Machine (mF m)), some (.d (.int n)), some (.d (.list (inL p))), some (.d (.tuple [.tuple (inL g.1), .tuple (g.2.map gcD)])), some (.d (ogD wt)), some (.d (.list [.str "limits", .tuple [.int ((p.length : Int) + 2), .list ((limA m p wt).map l4D)]])), some (.o (cs.length + 2)), some (.o (cs.length + 3)), some (.o (cs.length + 4)), none, none, none, none], bxA y :: bxB y :: (cs ++ .lst (inL p ++ [.int 0]) :: .la [.d (.str "limits"), .t [.d (.int ((p.length : Int) + 2)), .o (cs.length + 4)]] :: .lst (.tuple [.int 0, .int 0, .int 6, .int 1] :: ((limA m p wt).map l4D ++ [.tuple [.int 0, .int 0, .int 5, .int 1]])) :: [])⟩) ?_ ?_
    · refine go_drop (ev_bmL (ev_var (a := .o (cs.length + 4)) rfl ⟨⟨cs.length + 4, _, rfl, gl2 (pre := (bxA y :: bxB y :: cs))⟩, ?_⟩))
      repeat walk_at "z4"
  
      refine vm_insert (n := cs.length + 4) (gl2 (pre := (bxA y :: bxB y :: cs))) (Nat.lt_of_le_of_lt (show _ ≤ 6000001 by rw [List.length_append, List.length_map]; exact Nat.succ_le_succ lll) (by rw [sizeLine_eq]; decide)) (by decide) (by decide) ?_
      exact congrArg (S.mk _) (gs2 (pre := (bxA y :: bxB y :: cs)))
    rintro s3 rfl
    generalize (cs ++ .lst (inL p ++ [.int 0]) :: .la [.d (.str "limits"), .t [.d (.int ((p.length : Int) + 2)), .o (cs.length + 4)]] :: .lst (.tuple [.int 0, .int 0, .int 6, .int 1] :: ((limA m p wt).map l4D ++ [.tuple [.int 0, .int 0, .int 5, .int 1]])) :: []) = cs'
    refine (go_if (et_not (et_truth (ev_eq2 (E := fun _ => E0) (.l ((p.length : Int) + 2) (limA m p wt)) (cs'.length + 3) (ea_cons (ev_told (E := fun _ => E0) (.l ((p.length : Int) + 2) (limA m p wt)) (cs'.length + 2) ?_))))))
    repeat walk_at "z4"
    refine vc_listO (ds := inL (p)) (.inl rfl) ?_
    repeat walk_at "z4"
    refine ev_tk (E := fun _ => E0) ?_
    repeat walk_at "z4"
    refine ⟨y, 3, _, _, rfl, rfl, by decide, fun w y1 w0 w1 => ?_⟩
    repeat walk_at "z4"
    refine ⟨m, p, wt, w, _, bxA y1 :: bxB y1 :: cs', rfl, rfl, rfl, ⟨ok, by omega, hg2⟩, hres, ?_⟩
    repeat walk_at "z4"
    refine ⟨_, _, bxA y1 :: bxB y1 :: (cs' ++ [.lst (inL (p))]), by simp, rfl, rfl, by simp, ?_⟩
    repeat walk_at "z4"
  
    exact ⟨_, _, _, _, _, _, _, rfl⟩
  rintro s1 ⟨y, cs, xw, xd, xg, xt, xr, rfl⟩
  refine go_sAsg ?_
  refine ev_box (E := fun _ => E0) ?_
  repeat walk_at "z4"
  
  refine ⟨(y, m, sc, p), y, _, _, _, rfl, rfl, rfl, rfl, rfl, ⟨ok, by omega⟩, fun r os' hr => ?_, fun _ _ h => h⟩
  obtain ⟨bs, y1, rfl, rfl, hb, hb0, hbl⟩ := hr
  refine ⟨y1, rfl, ?_⟩
  refine gt_name ?_
  show GO K b _ ⟨[some (scrP K i), some (.o 0), some (.d (.list [strsT m.clocks, plcsT m.places, movsT m.moves, .int m.start, strsT m.rush, .int sc])), some (insP K T.c_Machine (mF m)), some (.d (.int n)), some (.d (.list (inL p))), some (.d (.tuple [.tuple (inL g.1), .tuple (g.2.map gcD)])), xw, xd, xg, xt, xr, some (.d (.list (psD bs))), none, none, none], bxA y1 :: bxB y1 :: cs⟩ _
  have wmem : ∀ wt, wt ∈ [none, some g] → wt ∈ [none, some g, some (([] : List Int), g.2)] := fun wt h => by
    simp only [List.mem_cons, List.not_mem_nil, or_false] at h ⊢
    rcases h with h | h
    · exact .inl h
    · exact .inr (.inl h)
  refine go_mid (fun s => ∃ (y : Bx) (cs : List C) (xw xt xr : Option Dw.A), s = ⟨[some (scrP K i), some (.o 0), some (.d (.list [strsT m.clocks, plcsT m.places, movsT m.moves, .int m.start, strsT m.rush, .int sc])), some (insP K T.c_Machine (mF m)), some (.d (.int n)), some (.d (.list (inL p))), some (.d (.tuple [.tuple (inL g.1), .tuple (g.2.map gcD)])), xw, xd, xg, xt, xr, some (.d (.list (psD bs))), none, none, none], bxA y :: bxB y :: cs⟩) ?_ ?_
  · refine go_for (ei_anyL (ei_list (ev_var rfl ⟨psD bs, fun _ => True, .inl rfl, trivial, ?_⟩)))
    refine ⟨fun j s => ∃ (y : Bx) (cs : List C) (xw xt xr : Option Dw.A), s = ⟨[some (scrP K i), some (.o 0), some (.d (.list [strsT m.clocks, plcsT m.places, movsT m.moves, .int m.start, strsT m.rush, .int sc])), some (insP K T.c_Machine (mF m)), some (.d (.int n)), some (.d (.list (inL p))), some (.d (.tuple [.tuple (inL g.1), .tuple (g.2.map gcD)])), xw, xd, xg, xt, xr, some (.d (.list (psD bs))), none, none, none], bxA y :: bxB y :: cs⟩, ⟨y1, cs, xw, xt, xr, rfl⟩, fun _ _ _ _ => trivial, ?_, ?_⟩
    rotate_left
    · rintro s2 ⟨y, cs, xw, xt, xr, rfl⟩
      exact ⟨y, cs, xw, xt, xr, rfl⟩
    clear y1 y xw xt xr cs
    rintro j v s2 hx ⟨y, cs, xw, xt, xr, rfl⟩
    obtain ⟨q, hq, rfl⟩ := map_get hx
    have hql := hb q (List.mem_of_getElem? hq)
    refine gt_name ?_
    refine go_sAsg (ev_op (ev_lst ?_))
    repeat walk_at "z4"
    refine ev_tk (E := fun _ => E0) ?_
    repeat walk_at "z4"
    refine ⟨y, 2, _, _, rfl, rfl, by decide, fun v y1 v0 v1 => ?_⟩
    have v1 := v1 (by decide)
  
    have vl : v.toNat < [none, some g].length := by show v.toNat < 2; omega
    have hat : atI ([none, some g].map ogD) v = some (ogD [none, some g][v.toNat]) := at_map v0 (List.getElem?_eq_getElem vl)
    have hmem := List.getElem_mem vl
    generalize [none, some g][v.toNat] = wt at hat hmem
    refine v2_ixL (ds := [none, some g].map ogD) hat ?_
    refine gt_name ?_
    have hg := hgw wt (wmem wt hmem)
    have hg1 : ∀ gg, wt = some gg → goalB m gg = true := fun gg e => (hg gg e).1
    have hg2 : ∀ gg, wt = some gg → gg.2.length ≤ 1000 := fun gg e => (hg gg e).2
    obtain ⟨u, hu⟩ := res_ex (p := q) hg1
    show GO K b _ ⟨[some (scrP K i), some (.o 0), some (.d (.list [strsT m.clocks, plcsT m.places, movsT m.moves, .int m.start, strsT m.rush, .int sc])), some (insP K T.c_Machine (mF m)), some (.d (.int n)), some (.d (.list (inL p))), some (.d (.tuple [.tuple (inL g.1), .tuple (g.2.map gcD)])), some (.d (ogD wt)), xd, xg, xt, some (.d (.list (inL q))), some (.d (.list (psD bs))), none, none, none], bxA y1 :: bxB y1 :: cs⟩ _
    clear hat
    obtain ⟨y, rfl⟩ : ∃ y, y = y1 := ⟨_, rfl⟩
    refine go_sAsg (ev_told (E := fun _ => E0) u (cs.length + 2) ?_)
    repeat walk_at "z4"
  
    refine vc_listO (ds := inL q) (.inl rfl) ?_
    repeat walk_at "z4"
  
    refine ev_tk (E := fun _ => E0) ?_
    repeat walk_at "z4"
  
    refine ⟨y, 3, _, _, rfl, rfl, by decide, fun w y1 w0 w1 => ?_⟩
    repeat walk_at "z4"
  
    refine ⟨m, q, wt, w, _, bxA y1 :: bxB y1 :: cs, rfl, rfl, rfl, ⟨ok, by omega, hg2⟩, hu, ?_⟩
    refine gt_name ?_
    show GO K b _ ⟨[some (scrP K i), some (.o 0), some (.d (.list [strsT m.clocks, plcsT m.places, movsT m.moves, .int m.start, strsT m.rush, .int sc])), some (insP K T.c_Machine (mF m)), some (.d (.int n)), some (.d (.list (inL p))), some (.d (.tuple [.tuple (inL g.1), .tuple (g.2.map gcD)])), some (.d (ogD wt)), xd, xg, some (.o (cs.length + 3)), some (.d (.list (inL q))), some (.d (.list (psD bs))), none, none, none], bxA y1 :: bxB y1 :: (cs ++ .lst (inL q) :: tlS (cs.length + 3) u)⟩ _
    refine (go_if (et_not (et_truth (ev_eq2 (E := fun _ => E0) u (cs.length + 3) ?_))))
    repeat walk_at "z4"
  
    refine ev_due (E := fun _ => E0) ?_
    repeat walk_at "z4"
  
    refine ⟨m, sc, q, wt, u, rfl, ⟨ok, by omega, hg⟩, hu, ?_⟩
    repeat walk_at "z4"
  
    refine ⟨_, _, bxA y1 :: bxB y1 :: (cs ++ [.lst (inL q)]), by simp, rfl, rfl, by simp, ?_⟩
    repeat walk_at "z4"
  
    exact ⟨_, _, _, _, _, rfl⟩
  clear xw xt xr y1 y cs
  rintro s1 ⟨y, cs, xw, xt, xr, rfl⟩
  refine go_mid (fun s => ∃ (y : Bx) (cs : List C) (xw xr : Option Dw.A), s = ⟨[some (scrP K i), some (.o 0), some (.d (.list [strsT m.clocks, plcsT m.places, movsT m.moves, .int m.start, strsT m.rush, .int sc])), some (insP K T.c_Machine (mF m)), some (.d (.int n)), some (.d (.list (inL p))), some (.d (.tuple [.tuple (inL g.1), .tuple (g.2.map gcD)])), xw, xd, xg, xt, xr, some (.d (.list (psD bs))), none, none, none], bxA y :: bxB y :: cs⟩) ?_ ?_
  · refine go_for (ei_anyL (ei_list ?_))
    refine ev_box (E := fun _ => E0) ?_
    repeat walk_at "z4"
  
    refine ⟨(y, m, sc, g), y, _, _, _, rfl, rfl, rfl, rfl, rfl, ⟨ok, by omega, by omega⟩, fun r os' hr => ?_, fun _ _ h => h⟩
    obtain ⟨gs, y1, rfl, rfl, hgs⟩ := hr
    refine ⟨y1, rfl, ?_⟩
    refine ⟨gs.map glD, fun _ => True, .inl rfl, trivial, ?_⟩
    refine ⟨fun j s => ∃ (y : Bx) (cs : List C) (xw xr : Option Dw.A), s = ⟨[some (scrP K i), some (.o 0), some (.d (.list [strsT m.clocks, plcsT m.places, movsT m.moves, .int m.start, strsT m.rush, .int sc])), some (insP K T.c_Machine (mF m)), some (.d (.int n)), some (.d (.list (inL p))), some (.d (.tuple [.tuple (inL g.1), .tuple (g.2.map gcD)])), xw, xd, xg, xt, xr, some (.d (.list (psD bs))), none, none, none], bxA y :: bxB y :: cs⟩, ⟨y1, cs, xw, xr, rfl⟩, fun _ _ _ _ => trivial, ?_, ?_⟩
    rotate_left
    · rintro s2 ⟨y, cs, xw, xr, rfl⟩
      exact ⟨y, cs, xw, xr, rfl⟩
    clear y1 y xw xr cs
    rintro j v s2 hx ⟨y, cs, xw, xr, rfl⟩
    obtain ⟨gw, hgg, rfl⟩ := map_get hx
    obtain ⟨gbad, gwl⟩ := hgs gw (List.mem_of_getElem? hgg)
    refine gt_name ?_
    refine go_mid (fun s => ∃ (y : Bx) (r : List Int), r.length ≤ 500 ∧ s = ⟨[some (scrP K i), some (.o 0), some (.d (.list [strsT m.clocks, plcsT m.places, movsT m.moves, .int m.start, strsT m.rush, .int sc])), some (insP K T.c_Machine (mF m)), some (.d (.int n)), some (.d (.list (inL p))), some (.d (.tuple [.tuple (inL g.1), .tuple (g.2.map gcD)])), some (.d (ogD (some gw))), xd, xg, xt, some (.d (.list (inL r))), some (.d (.list (psD bs))), none, none, none], bxA y :: bxB y :: cs⟩) ?_ ?_
    · refine go_asg (ev_op (ev_lst ?_))
      repeat walk_at "z4"
  
      refine ev_tk (E := fun _ => E0) ?_
      repeat walk_at "z4"
  
      rw [show (psD bs).length = bs.length from List.length_map ..]
      repeat walk_at "z4"
  
      refine ⟨y, _, _, _, rfl, rfl, by omega, fun v y1 v0 v1 => ?_⟩
      have v1 := v1 (by omega)
      have vl : v.toNat < bs.length := by omega
      have hat : atI (psD bs) v = some (.list (inL bs[v.toNat])) := at_map v0 (List.getElem?_eq_getElem vl)
      have hql := hb _ (List.getElem_mem vl)
      generalize bs[v.toNat] = q at hat hql
      refine v2_ixL (ds := psD bs) hat ?_
      repeat walk_at "z4"
      refine ev_tk (E := fun _ => E0) ?_
      repeat walk_at "z4"
      refine ⟨y1, 2, _, _, rfl, rfl, by decide, fun u y2 u0 u1 => ?_⟩
      have u1 := u1 (by decide)
  
      have ul : u.toNat < [p, q].length := by show u.toNat < 2; omega
      have hat2 : atI (psD [p, q]) u = some (.list (inL [p, q][u.toNat])) := at_map u0 (List.getElem?_eq_getElem ul)
      have hrl : [p, q][u.toNat].length ≤ 500 := by
        have := List.getElem_mem ul
        simp only [List.mem_cons, List.not_mem_nil, or_false] at this
        rcases this with e | e <;> rw [e] <;> omega
      generalize [p, q][u.toNat] = r at hat2 hrl
      refine v2_ixL (ds := psD [p, q]) hat2 ?_
      refine gt_name ?_
      exact ⟨y2, r, hrl, rfl⟩
    clear y
    rintro s3 ⟨y, r, hrl, rfl⟩
    refine (go_if (et_not (et_truth (ev_eq2 (E := fun _ => E0) (.g) (cs.length + 3) (ea_cons (ev_told (E := fun _ => E0) (.g) (cs.length + 2) ?_))))))
    repeat walk_at "z4"
    refine vc_listO (ds := inL (r)) (.inl rfl) ?_
    repeat walk_at "z4"
    refine ev_tk (E := fun _ => E0) ?_
    repeat walk_at "z4"
    refine ⟨y, 2, _, _, rfl, rfl, by decide, fun w y1 w0 w1 => ?_⟩
    repeat walk_at "z4"
    refine ⟨m, r, (some gw), w, _, bxA y1 :: bxB y1 :: cs, rfl, rfl, rfl, ⟨ok, by omega, fun gg e => by cases e; exact gwl⟩, ⟨gw, rfl, gbad⟩, ?_⟩
    repeat walk_at "z4"
    refine ev_lst ?_
    repeat walk_at "z4"
    refine ⟨_, _, bxA y1 :: bxB y1 :: (cs ++ [.lst (inL (r))]), by simp, rfl, rfl, by simp, ?_⟩
    repeat walk_at "z4"
  
    exact ⟨_, _, _, _, rfl⟩
  clear xw xr y cs
  rintro s1 ⟨y, cs, xw, xr, rfl⟩
  obtain ⟨s', hs'⟩ : ∃ s' : Nat, ((m.start : Int) + 1) % (m.places.length : Int) = s' := ⟨(((m.start : Int) + 1) % (m.places.length : Int)).toNat, by have := Int.emod_nonneg ((m.start : Int) + 1) (show (m.places.length : Int) ≠ 0 by omega); omega⟩
  have hsl : s' < m.places.length := by have := Int.emod_lt_of_pos ((m.start : Int) + 1) (show (0 : Int) < m.places.length by omega); omega
  have ok' := ok_at ok hsl
  refine go_mid (fun s => s = ⟨[some (scrP K i), some (.o 0), some (.d (.list [strsT m.clocks, plcsT m.places, movsT m.moves, .int m.start, strsT m.rush, .int sc])), some (insP K T.c_Machine (mF m)), some (.d (.int n)), some (.d (.list (inL p))), some (.d (.tuple [.tuple (inL g.1), .tuple (g.2.map gcD)])), xw, xd, xg, xt, xr, some (.d (.list (psD bs))), some (.d (.list [strsT m.clocks, plcsT m.places, movsT m.moves, .int s', strsT m.rush, .int sc])), none, none], bxA y :: bxB y :: cs⟩) ?_ ?_
  · refine go_asg (ev_lst ?_)
    repeat walk_at "z4"
  
    rw [List.length_map]
    repeat walk_at "z4"
  
    rw [hs']
    exact rfl
  rintro s3 rfl
  refine go_sAsg (ev_makeK (gT := fun us ws => us ++ ws) (fun _ _ _ => rfl) ?_)
  repeat walk_at "z4"
  refine ⟨rfl, rfl, rfl, rfl, m.at s', [.d (strsT m.clocks), .d (plcsT m.places), .d (movsT m.moves), .d (.int (m.at s').start), .d (strsT m.rush)], fun _ _ _ _ h1 h2 => pair_app h1 h2, rfl, rfl, rfl, ok', fun r c' hr => ?_, fun _ _ h => h⟩
  obtain ⟨rfl, hc⟩ := hr
  cases hc
  refine ⟨mF (m.at s'), rfl, rfl, ?_⟩
  refine gt_name ?_
  
  obtain ⟨u, hu⟩ := res_ex (m := m.at s') (p := p) (g := some g) (fun gg e => by cases e; exact hgb)
  have hu2 : Res m p (some g) (.l ((p.length : Int) + 2) (limA m p (some g))) := ⟨fun gg e => by cases e; exact hgb, hfit, rfl, rfl⟩
  have gok : ∀ gg, some g = some gg → goalB m gg = true ∧ gg.2.length ≤ 1000 := fun gg e => by cases e; exact ⟨hgb, by omega⟩
  have gok1 : ∀ gg, some g = some gg → gg.2.length ≤ 1000 := fun gg e => (gok gg e).2
  refine go_seq (go_for (ei_r1 (ea_cons (ev_int (ea_nil ⟨2, rfl, by decide, by decide, ?_⟩)))))
  refine ⟨fun j s => ∃ (cs : List C) (xk : Option Dw.A), s = ⟨[some (scrP K i), some (.o 0), some (.d (.list [strsT m.clocks, plcsT m.places, movsT m.moves, .int m.start, strsT m.rush, .int sc])), some (insP K T.c_Machine (mF m)), some (.d (.int n)), some (.d (.list (inL p))), some (.d (.tuple [.tuple (inL g.1), .tuple (g.2.map gcD)])), xw, xd, xg, xt, xr, some (.d (.list (psD bs))), some (.d (.list [strsT m.clocks, plcsT m.places, movsT m.moves, .int s', strsT m.rush, .int sc])), some (insP K T.c_Machine (mF (m.at s'))), xk], bxA y :: bxB y :: cs⟩, ⟨cs, none, rfl⟩, fun _ _ _ _ => trivial, ?_, ?_⟩
  · clear cs
    rintro j v s2 hx ⟨cs, xk, rfl⟩
    obtain ⟨hj, rfl⟩ := rngD_get hx
    refine gt_name ?_
    refine go_mid (fun s => ∃ (cs : List C), s = ⟨[some (scrP K i), some (.o 0), some (.d (.list [strsT m.clocks, plcsT m.places, movsT m.moves, .int m.start, strsT m.rush, .int sc])), some (insP K T.c_Machine (mF m)), some (.d (.int n)), some (.d (.list (inL p))), some (.d (.tuple [.tuple (inL g.1), .tuple (g.2.map gcD)])), xw, xd, xg, xt, xr, some (.d (.list (psD bs))), some (.d (.list [strsT m.clocks, plcsT m.places, movsT m.moves, .int s', strsT m.rush, .int sc])), some (insP K T.c_Machine (mF (m.at s'))), some (.d (.int (0 + (j : Int))))], bxA y :: bxB y :: cs⟩) ?_ ?_
    · refine (go_if (et_not (et_truth (ev_eq2 (E := fun _ => E0) (u) (cs.length + 3) (ea_cons (ev_told (E := fun _ => E0) (u) (cs.length + 2) ?_))))))
      repeat walk_at "z4"
      refine vc_listO (ds := inL (p)) (.inl rfl) ?_
      repeat walk_at "z4"
      refine ⟨(m.at s'), p, (some g), _, _, bxA y :: bxB y :: cs, rfl, rfl, rfl, ⟨ok', by omega, gok1⟩, hu, ?_⟩
      repeat walk_at "z4"
      refine ev_due (E := fun _ => E0) ?_
      repeat walk_at "z4"
      refine ⟨m.at s', sc, p, some g, u, rfl, ⟨ok', by omega, gok⟩, hu, ?_⟩
      repeat walk_at "z4"
      refine ⟨_, _, bxA y :: bxB y :: (cs ++ [.lst (inL (p))]), by simp, rfl, rfl, by simp, ?_⟩
      repeat walk_at "z4"
  
      exact ⟨_, rfl⟩
    clear cs
    rintro s3 ⟨cs, rfl⟩
    refine (go_if (et_not (et_truth (ev_eq2 (E := fun _ => E0) (.l ((p.length : Int) + 2) (limA m p (some g))) (cs.length + 3) (ea_cons (ev_told (E := fun _ => E0) (.l ((p.length : Int) + 2) (limA m p (some g))) (cs.length + 2) ?_))))))
    repeat walk_at "z4"
    refine vc_listO (ds := inL (p)) (.inl rfl) ?_
    repeat walk_at "z4"
    refine ⟨m, p, (some g), _, _, bxA y :: bxB y :: cs, rfl, rfl, rfl, ⟨ok, by omega, gok1⟩, hu2, ?_⟩
    repeat walk_at "z4"
    refine ev_due (E := fun _ => E0) ?_
    repeat walk_at "z4"
    refine ⟨m, sc, p, some g, _, rfl, ⟨ok, by omega, gok⟩, hu2, ?_⟩
    repeat walk_at "z4"
    refine ⟨_, _, bxA y :: bxB y :: (cs ++ [.lst (inL (p))]), by simp, rfl, rfl, by simp, ?_⟩
    repeat walk_at "z4"
  
    exact ⟨_, _, rfl⟩
  rintro s2 ⟨cs', xk, rfl⟩
  dsimp only
  repeat walk_at "z4"
  
  exact rfl
end
end K14
namespace K14
open PySem
open _root_.L2
open Dw
theorem mkT {K : PySem.W.Frag} {h : Heap} {mg : Str → Option Value} (X : K.In h) (G : h.Ns mainGlobals mg) (c : SaysY hfa hfn hfile hfs hfk K) : ∃ T : Tx R.prog K mg, T.a_law = He.ga K "law" := by
  have d := c.d
  have c : SaysY hfa hfn R.prog.main.file hfs hfk K := c
  obtain ⟨fd_exists, F_exists⟩ := d.def_ 0 (d := dd_exists) rfl
  obtain ⟨fd_is_name, F_is_name⟩ := d.def_ 1 (d := dd_is_name) rfl
  obtain ⟨fd_is_stay, F_is_stay⟩ := d.def_ 2 (d := dd_is_stay) rfl
  obtain ⟨fd_is_guard, F_is_guard⟩ := d.def_ 3 (d := dd_is_guard) rfl
  obtain ⟨fd_are_resets, F_are_resets⟩ := d.def_ 4 (d := dd_are_resets) rfl
  obtain ⟨fd_is_place, F_is_place⟩ := d.def_ 5 (d := dd_is_place) rfl
  obtain ⟨fd_is_move, F_is_move⟩ := d.def_ 6 (d := dd_is_move) rfl
  obtain ⟨fd_bad_clock, F_bad_clock⟩ := d.def_ 7 (d := dd_bad_clock) rfl
  obtain ⟨fd_bad_place, F_bad_place⟩ := d.def_ 8 (d := dd_bad_place) rfl
  obtain ⟨fd_bad_move, F_bad_move⟩ := d.def_ 9 (d := dd_bad_move) rfl
  obtain ⟨fd_bad_rush, F_bad_rush⟩ := d.def_ 10 (d := dd_bad_rush) rfl
  obtain ⟨fd_check_parts, F_check_parts⟩ := d.def_ 11 (d := dd_check_parts) rfl
  obtain ⟨fd_condition_tuples, F_condition_tuples⟩ := d.def_ 12 (d := dd_condition_tuples) rfl
  obtain ⟨fd_place_tuple, F_place_tuple⟩ := d.def_ 13 (d := dd_place_tuple) rfl
  obtain ⟨fd_move_tuple, F_move_tuple⟩ := d.def_ 14 (d := dd_move_tuple) rfl
  obtain ⟨fd_moves_by_source, F_moves_by_source⟩ := d.def_ 15 (d := dd_moves_by_source) rfl
  obtain ⟨fd_pressing_places, F_pressing_places⟩ := d.def_ 16 (d := dd_pressing_places) rfl
  obtain ⟨fd_Machine___init__, F_Machine___init__⟩ := d.def_ 17 (d := dd_Machine___init__) rfl
  obtain ⟨fd_Machine_is_pressing, F_Machine_is_pressing⟩ := d.def_ 18 (d := dd_Machine_is_pressing) rfl
  obtain ⟨fd_sign_limits, F_sign_limits⟩ := d.def_ 19 (d := dd_sign_limits) rfl
  obtain ⟨fd_has_move, F_has_move⟩ := d.def_ 20 (d := dd_has_move) rfl
  obtain ⟨fd_check_goal, F_check_goal⟩ := d.def_ 21 (d := dd_check_goal) rfl
  obtain ⟨fd_path_places, F_path_places⟩ := d.def_ 22 (d := dd_path_places) rfl
  obtain ⟨fd_moment_limits, F_moment_limits⟩ := d.def_ 23 (d := dd_moment_limits) rfl
  obtain ⟨fd_path_limits, F_path_limits⟩ := d.def_ 24 (d := dd_path_limits) rfl
  obtain ⟨fd__law_is_integer, F__law_is_integer⟩ := d.def_ 25 (d := dd__law_is_integer) rfl
  obtain ⟨fd__law_box, F__law_box⟩ := d.def_ 26 (d := dd__law_box) rfl
  obtain ⟨fd__law_take, F__law_take⟩ := d.def_ 27 (d := dd__law_take) rfl
  obtain ⟨fd__law_names, F__law_names⟩ := d.def_ 28 (d := dd__law_names) rfl
  obtain ⟨fd__law_condition, F__law_condition⟩ := d.def_ 29 (d := dd__law_condition) rfl
  obtain ⟨fd__law_stays, F__law_stays⟩ := d.def_ 30 (d := dd__law_stays) rfl
  obtain ⟨fd__law_guard, F__law_guard⟩ := d.def_ 31 (d := dd__law_guard) rfl
  obtain ⟨fd__law_move, F__law_move⟩ := d.def_ 32 (d := dd__law_move) rfl
  obtain ⟨fd__law_table, F__law_table⟩ := d.def_ 33 (d := dd__law_table) rfl
  obtain ⟨fd__law_pressing, F__law_pressing⟩ := d.def_ 34 (d := dd__law_pressing) rfl
  obtain ⟨fd__law_rows, F__law_rows⟩ := d.def_ 35 (d := dd__law_rows) rfl
  obtain ⟨fd__law_limits, F__law_limits⟩ := d.def_ 36 (d := dd__law_limits) rfl
  obtain ⟨fd__law_misfit, F__law_misfit⟩ := d.def_ 37 (d := dd__law_misfit) rfl
  obtain ⟨fd__law_bad_aims, F__law_bad_aims⟩ := d.def_ 38 (d := dd__law_bad_aims) rfl
  obtain ⟨fd__law_bad_paths, F__law_bad_paths⟩ := d.def_ 39 (d := dd__law_bad_paths) rfl
  obtain ⟨fd__law_path, F__law_path⟩ := d.def_ 40 (d := dd__law_path) rfl
  obtain ⟨fd__law_aim, F__law_aim⟩ := d.def_ 41 (d := dd__law_aim) rfl
  obtain ⟨fd__law_told, F__law_told⟩ := d.def_ 42 (d := dd__law_told) rfl
  obtain ⟨fd__law_due, F__law_due⟩ := d.def_ 43 (d := dd__law_due) rfl
  obtain ⟨fd__law_is_system, F__law_is_system⟩ := d.def_ 44 (d := dd__law_is_system) rfl
  obtain ⟨fd__law_equal, F__law_equal⟩ := d.def_ 45 (d := dd__law_equal) rfl
  obtain ⟨fd_law, F_law⟩ := d.def_ 46 (d := dd_law) rfl
  obtain ⟨fe_TooLarge, E_TooLarge⟩ := c.err 0 (d := de_TooLarge) rfl
  obtain ⟨fe_BadMachine, E_BadMachine⟩ := c.err 1 (d := de_BadMachine) rfl
  obtain ⟨fe_BadPath, E_BadPath⟩ := c.err 2 (d := de_BadPath) rfl
  obtain ⟨fe_BadPlace, E_BadPlace⟩ := c.err 3 (d := de_BadPlace) rfl
  have hSIGNS : hraw0 K = true := c.fact 8 (f := .raw hraw0) rfl
  have hSTAY_SIGNS : hraw1 K = true := c.fact 9 (f := .raw hraw1) rfl
  have hSIDES : hraw2 K = true := c.fact 10 (f := .raw hraw2) rfl
  have hMB : hraw3 K = true := c.fact 11 (f := .raw hraw3) rfl
  have hMT : hraw4 K = true := c.fact 12 (f := .raw hraw4) rfl
  exact ⟨{ a_rush0 := rushAt K, a_exists := _, d_exists := fd_exists, F_exists := F_exists, g_exists := He.glo_ok X G (d.fact 0 (f := .glo "exists") rfl), a_is_name := _, d_is_name := fd_is_name, F_is_name := F_is_name, g_is_name := He.glo_ok X G (d.fact 1 (f := .glo "is_name") rfl), a_is_stay := _, d_is_stay := fd_is_stay, F_is_stay := F_is_stay, g_is_stay := He.glo_ok X G (d.fact 2 (f := .glo "is_stay") rfl), a_is_guard := _, d_is_guard := fd_is_guard, F_is_guard := F_is_guard, g_is_guard := He.glo_ok X G (d.fact 3 (f := .glo "is_guard") rfl), a_are_resets := _, d_are_resets := fd_are_resets, F_are_resets := F_are_resets, g_are_resets := He.glo_ok X G (d.fact 4 (f := .glo "are_resets") rfl), a_is_place := _, d_is_place := fd_is_place, F_is_place := F_is_place, g_is_place := He.glo_ok X G (d.fact 5 (f := .glo "is_place") rfl), a_is_move := _, d_is_move := fd_is_move, F_is_move := F_is_move, g_is_move := He.glo_ok X G (d.fact 6 (f := .glo "is_move") rfl), a_bad_clock := _, d_bad_clock := fd_bad_clock, F_bad_clock := F_bad_clock, g_bad_clock := He.glo_ok X G (d.fact 7 (f := .glo "bad_clock") rfl), a_bad_place := _, d_bad_place := fd_bad_place, F_bad_place := F_bad_place, g_bad_place := He.glo_ok X G (d.fact 8 (f := .glo "bad_place") rfl), a_bad_move := _, d_bad_move := fd_bad_move, F_bad_move := F_bad_move, g_bad_move := He.glo_ok X G (d.fact 9 (f := .glo "bad_move") rfl), a_bad_rush := _, d_bad_rush := fd_bad_rush, F_bad_rush := F_bad_rush, g_bad_rush := He.glo_ok X G (d.fact 10 (f := .glo "bad_rush") rfl), a_check_parts := _, d_check_parts := fd_check_parts, F_check_parts := F_check_parts, g_check_parts := He.glo_ok X G (d.fact 11 (f := .glo "check_parts") rfl), a_condition_tuples := _, d_condition_tuples := fd_condition_tuples, F_condition_tuples := F_condition_tuples, g_condition_tuples := He.glo_ok X G (d.fact 12 (f := .glo "condition_tuples") rfl), a_place_tuple := _, d_place_tuple := fd_place_tuple, F_place_tuple := F_place_tuple, g_place_tuple := He.glo_ok X G (d.fact 13 (f := .glo "place_tuple") rfl), a_move_tuple := _, d_move_tuple := fd_move_tuple, F_move_tuple := F_move_tuple, g_move_tuple := He.glo_ok X G (d.fact 14 (f := .glo "move_tuple") rfl), a_moves_by_source := _, d_moves_by_source := fd_moves_by_source, F_moves_by_source := F_moves_by_source, g_moves_by_source := He.glo_ok X G (d.fact 15 (f := .glo "moves_by_source") rfl), a_pressing_places := _, d_pressing_places := fd_pressing_places, F_pressing_places := F_pressing_places, g_pressing_places := He.glo_ok X G (d.fact 16 (f := .glo "pressing_places") rfl), a_Machine___init__ := _, d_Machine___init__ := fd_Machine___init__, F_Machine___init__ := F_Machine___init__, a_Machine_is_pressing := _, d_Machine_is_pressing := fd_Machine_is_pressing, F_Machine_is_pressing := F_Machine_is_pressing, a_sign_limits := _, d_sign_limits := fd_sign_limits, F_sign_limits := F_sign_limits, g_sign_limits := He.glo_ok X G (d.fact 17 (f := .glo "sign_limits") rfl), a_has_move := _, d_has_move := fd_has_move, F_has_move := F_has_move, g_has_move := He.glo_ok X G (d.fact 18 (f := .glo "has_move") rfl), a_check_goal := _, d_check_goal := fd_check_goal, F_check_goal := F_check_goal, g_check_goal := He.glo_ok X G (d.fact 19 (f := .glo "check_goal") rfl), a_path_places := _, d_path_places := fd_path_places, F_path_places := F_path_places, g_path_places := He.glo_ok X G (d.fact 20 (f := .glo "path_places") rfl), a_moment_limits := _, d_moment_limits := fd_moment_limits, F_moment_limits := F_moment_limits, g_moment_limits := He.glo_ok X G (d.fact 21 (f := .glo "moment_limits") rfl), a_path_limits := _, d_path_limits := fd_path_limits, F_path_limits := F_path_limits, g_path_limits := He.glo_ok X G (d.fact 22 (f := .glo "path_limits") rfl), a__law_is_integer := _, d__law_is_integer := fd__law_is_integer, F__law_is_integer := F__law_is_integer, g__law_is_integer := He.glo_ok X G (d.fact 23 (f := .glo "_law_is_integer") rfl), a__law_box := _, d__law_box := fd__law_box, F__law_box := F__law_box, g__law_box := He.glo_ok X G (d.fact 24 (f := .glo "_law_box") rfl), a__law_take := _, d__law_take := fd__law_take, F__law_take := F__law_take, g__law_take := He.glo_ok X G (d.fact 25 (f := .glo "_law_take") rfl), a__law_names := _, d__law_names := fd__law_names, F__law_names := F__law_names, g__law_names := He.glo_ok X G (d.fact 26 (f := .glo "_law_names") rfl), a__law_condition := _, d__law_condition := fd__law_condition, F__law_condition := F__law_condition, g__law_condition := He.glo_ok X G (d.fact 27 (f := .glo "_law_condition") rfl), a__law_stays := _, d__law_stays := fd__law_stays, F__law_stays := F__law_stays, g__law_stays := He.glo_ok X G (d.fact 28 (f := .glo "_law_stays") rfl), a__law_guard := _, d__law_guard := fd__law_guard, F__law_guard := F__law_guard, g__law_guard := He.glo_ok X G (d.fact 29 (f := .glo "_law_guard") rfl), a__law_move := _, d__law_move := fd__law_move, F__law_move := F__law_move, g__law_move := He.glo_ok X G (d.fact 30 (f := .glo "_law_move") rfl), a__law_table := _, d__law_table := fd__law_table, F__law_table := F__law_table, g__law_table := He.glo_ok X G (d.fact 31 (f := .glo "_law_table") rfl), a__law_pressing := _, d__law_pressing := fd__law_pressing, F__law_pressing := F__law_pressing, g__law_pressing := He.glo_ok X G (d.fact 32 (f := .glo "_law_pressing") rfl), a__law_rows := _, d__law_rows := fd__law_rows, F__law_rows := F__law_rows, g__law_rows := He.glo_ok X G (d.fact 33 (f := .glo "_law_rows") rfl), a__law_limits := _, d__law_limits := fd__law_limits, F__law_limits := F__law_limits, g__law_limits := He.glo_ok X G (d.fact 34 (f := .glo "_law_limits") rfl), a__law_misfit := _, d__law_misfit := fd__law_misfit, F__law_misfit := F__law_misfit, g__law_misfit := He.glo_ok X G (d.fact 35 (f := .glo "_law_misfit") rfl), a__law_bad_aims := _, d__law_bad_aims := fd__law_bad_aims, F__law_bad_aims := F__law_bad_aims, g__law_bad_aims := He.glo_ok X G (d.fact 36 (f := .glo "_law_bad_aims") rfl), a__law_bad_paths := _, d__law_bad_paths := fd__law_bad_paths, F__law_bad_paths := F__law_bad_paths, g__law_bad_paths := He.glo_ok X G (d.fact 37 (f := .glo "_law_bad_paths") rfl), a__law_path := _, d__law_path := fd__law_path, F__law_path := F__law_path, g__law_path := He.glo_ok X G (d.fact 38 (f := .glo "_law_path") rfl), a__law_aim := _, d__law_aim := fd__law_aim, F__law_aim := F__law_aim, g__law_aim := He.glo_ok X G (d.fact 39 (f := .glo "_law_aim") rfl), a__law_told := _, d__law_told := fd__law_told, F__law_told := F__law_told, g__law_told := He.glo_ok X G (d.fact 40 (f := .glo "_law_told") rfl), a__law_due := _, d__law_due := fd__law_due, F__law_due := F__law_due, g__law_due := He.glo_ok X G (d.fact 41 (f := .glo "_law_due") rfl), a__law_is_system := _, d__law_is_system := fd__law_is_system, F__law_is_system := F__law_is_system, g__law_is_system := He.glo_ok X G (d.fact 42 (f := .glo "_law_is_system") rfl), a__law_equal := _, d__law_equal := fd__law_equal, F__law_equal := F__law_equal, g__law_equal := He.glo_ok X G (d.fact 43 (f := .glo "_law_equal") rfl), a_law := _, d_law := fd_law, F_law := F_law, g_law := He.glo_ok X G (d.fact 44 (f := .glo "law") rfl), z_ValueError := He.free_ok X G (d.fact 52 (f := .free "ValueError") rfl), z_all := He.free_ok X G (d.fact 53 (f := .free "all") rfl), z_bool := He.free_ok X G (d.fact 54 (f := .free "bool") rfl), z_enumerate := He.free_ok X G (d.fact 55 (f := .free "enumerate") rfl), z_int := He.free_ok X G (d.fact 56 (f := .free "int") rfl), z_isinstance := He.free_ok X G (d.fact 57 (f := .free "isinstance") rfl), z_len := He.free_ok X G (d.fact 58 (f := .free "len") rfl), z_list := He.free_ok X G (d.fact 59 (f := .free "list") rfl), z_max := He.free_ok X G (d.fact 60 (f := .free "max") rfl), z_min := He.free_ok X G (d.fact 61 (f := .free "min") rfl), z_range := He.free_ok X G (d.fact 62 (f := .free "range") rfl), z_reversed := He.free_ok X G (d.fact 63 (f := .free "reversed") rfl), z_sorted := He.free_ok X G (d.fact 64 (f := .free "sorted") rfl), z_str := He.free_ok X G (d.fact 65 (f := .free "str") rfl), z_super := He.free_ok X G (d.fact 66 (f := .free "super") rfl), z_tuple := He.free_ok X G (d.fact 67 (f := .free "tuple") rfl), z_zip := He.free_ok X G (d.fact 68 (f := .free "zip") rfl), c_TooLarge := _, gc_TooLarge := He.glo_ok X G (d.fact 45 (f := .glo "TooLarge") rfl), c_BadMachine := _, gc_BadMachine := He.glo_ok X G (d.fact 46 (f := .glo "BadMachine") rfl), c_BadPath := _, gc_BadPath := He.glo_ok X G (d.fact 47 (f := .glo "BadPath") rfl), c_BadPlace := _, gc_BadPlace := He.glo_ok X G (d.fact 48 (f := .glo "BadPlace") rfl), c_BadGoal := _, gc_BadGoal := He.glo_ok X G (d.fact 49 (f := .glo "BadGoal") rfl), c_DwellError := _, gc_DwellError := He.glo_ok X G (d.fact 50 (f := .glo "DwellError") rfl), c_Machine := _, gc_Machine := He.glo_ok X G (d.fact 51 (f := .glo "Machine") rfl), f_TooLarge := _, fd_TooLarge := fe_TooLarge, e_TooLarge := E_TooLarge, f_BadMachine := _, fd_BadMachine := fe_BadMachine, e_BadMachine := E_BadMachine, f_BadPath := _, fd_BadPath := fe_BadPath, e_BadPath := E_BadPath, f_BadPlace := _, fd_BadPlace := fe_BadPlace, e_BadPlace := E_BadPlace, p_BadGoal := errp_ok (d.fact 69 (f := .exc "BadGoal") rfl), em_BadPath_BadPath := He.exm_ok (d.fact 70 (f := .exm "BadPath" "BadPath" true) rfl), em_BadGoal_BadPath := He.exm_ok (d.fact 71 (f := .exm "BadGoal" "BadPath" false) rfl), em_BadGoal_BadGoal := He.exm_ok (d.fact 72 (f := .exm "BadGoal" "BadGoal" true) rfl), k_BadPath_DwellError := kit_ok (c.fact 0 (f := .kit "BadPath" "DwellError" true) rfl), k_BadPath_BadGoal := kit_ok (c.fact 1 (f := .kit "BadPath" "BadGoal" false) rfl), k_BadPath_BadPlace := kit_ok (c.fact 2 (f := .kit "BadPath" "BadPlace" false) rfl), k_BadGoal_DwellError := kit_ok (c.fact 3 (f := .kit "BadGoal" "DwellError" true) rfl), kt_BadGoal_ValueError := kty_ok (c.fact 4 (f := .kty "BadGoal" "ValueError" true) rfl), ec_BadPath := ecc_ok (c.fact 5 (f := .ecc "BadPath") rfl), ec_BadGoal := ecc_ok (c.fact 6 (f := .ecc "BadGoal") rfl), na_BadPath_place := noa_ok (c.fact 7 (f := .noat "BadPath" "place") rfl), ptop := by with_unfolding_all decide +kernel, cl_Machine := He.cls_ok (d.fact 73 (f := .cls "Machine") rfl), mk_Machine := He.mkr_ok (d.fact 74 (f := .mkr "Machine") rfl), mt_Machine_is_pressing := He.meth_ok (d.fact 75 (f := .meth "Machine" "is_pressing") rfl), nf_Machine_clocks := He.noat_ok (d.fact 76 (f := .noat "Machine" "clocks") rfl), nf_Machine_places := He.noat_ok (d.fact 77 (f := .noat "Machine" "places") rfl), nf_Machine_moves := He.noat_ok (d.fact 78 (f := .noat "Machine" "moves") rfl), nf_Machine_start := He.noat_ok (d.fact 79 (f := .noat "Machine" "start") rfl), nf_Machine_rush := He.noat_ok (d.fact 80 (f := .noat "Machine" "rush") rfl), nf_Machine__leaving := He.noat_ok (d.fact 81 (f := .noat "Machine" "_leaving") rfl), nf_Machine__pressing := He.noat_ok (d.fact 82 (f := .noat "Machine" "_pressing") rfl), u_LETTERS := (str_v X G (d.fact 83 (f := .str "LETTERS" "abcdefghijklmnopqrstuvwxyz") rfl)).choose, v_LETTERS := .str "abcdefghijklmnopqrstuvwxyz", g_LETTERS := (str_v X G (d.fact 83 (f := .str "LETTERS" "abcdefghijklmnopqrstuvwxyz") rfl)).choose_spec.1, r_LETTERS := (str_v X G (d.fact 83 (f := .str "LETTERS" "abcdefghijklmnopqrstuvwxyz") rfl)).choose_spec.2, w_LETTERS := rfl, u_NAME_CHARACTERS := (str_v X G (d.fact 84 (f := .str "NAME_CHARACTERS" "abcdefghijklmnopqrstuvwxyz0123456789._[]") rfl)).choose, v_NAME_CHARACTERS := .str "abcdefghijklmnopqrstuvwxyz0123456789._[]", g_NAME_CHARACTERS := (str_v X G (d.fact 84 (f := .str "NAME_CHARACTERS" "abcdefghijklmnopqrstuvwxyz0123456789._[]") rfl)).choose_spec.1, r_NAME_CHARACTERS := (str_v X G (d.fact 84 (f := .str "NAME_CHARACTERS" "abcdefghijklmnopqrstuvwxyz0123456789._[]") rfl)).choose_spec.2, w_NAME_CHARACTERS := rfl, u_LONGEST_NAME := (int_v X G (d.fact 85 (f := .int "LONGEST_NAME" 200) rfl)).choose, v_LONGEST_NAME := .int 200, g_LONGEST_NAME := (int_v X G (d.fact 85 (f := .int "LONGEST_NAME" 200) rfl)).choose_spec.1, r_LONGEST_NAME := (int_v X G (d.fact 85 (f := .int "LONGEST_NAME" 200) rfl)).choose_spec.2, w_LONGEST_NAME := rfl, u_SIGNS := .ref (He.ga K "SIGNS"), v_SIGNS := .ref (He.ga K "SIGNS"), g_SIGNS := He.glo_ok X G (d.fact 86 (f := .glo "SIGNS") rfl), r_SIGNS := rfl, u_STAY_SIGNS := .ref (He.ga K "STAY_SIGNS"), v_STAY_SIGNS := .ref (He.ga K "STAY_SIGNS"), g_STAY_SIGNS := He.glo_ok X G (d.fact 87 (f := .glo "STAY_SIGNS") rfl), r_STAY_SIGNS := rfl, u_SIDES := .ref (He.ga K "SIDES"), v_SIDES := .ref (He.ga K "SIDES"), g_SIDES := He.glo_ok X G (d.fact 88 (f := .glo "SIDES") rfl), r_SIDES := rfl, w_SIGNS := fun H => .tup (tupAt_ok hSIGNS H) (dr_strs (ns := ["<", "<=", "==", ">=", ">"])), w_STAY_SIGNS := fun H => .tup (tupAt_ok hSTAY_SIGNS H) (dr_strs (ns := ["<", "<="])), w_SIDES := fun H => .tup (tupAt_ok hSIDES H) (dr_strs (ns := ["ours", "world"])), mc_MOST := .type "type", cr_Machine := (mostB_ok hMB).1, v_MOST := .ref (mostAt K), u_MOST := .ref (mostAt K), cv_MOST := (mostB_ok hMB).2, w_MOST := fun H => .tup (tupAt_ok hMT H) (.cons (.int _) (.cons (.int _) (.cons (.int _) .nil))) }, rfl⟩
theorem lawP {K : PySem.W.Frag} (H : Hp) (a : Addr) (ns : List Int) (hS : SqL K H a (ns.map V.int)) : SpB K (sp_law K) [.ref a] H (fun v _ => v = .bl true) fun _ _ _ => False := by
  refine ⟨H, [], ns, fun _ _ e => e, .nil, rfl, fun p hp => by simp at hp, fun k cc p hk hp => by simp at hp, .cons ⟨a, rfl, hS⟩ .nil, trivial, fun r os' hr v Hd' H' _ _ hv => ?_, fun x os' hx => (show False from hx).elim⟩
  rw [show r = .val (.bool true) from hr] at hv
  cases (show Dr K Hd' v (.bool true) from hv)
  rfl
end K14
open PySem PySem.W PySem.Calls PyProof.Rows
theorem PySem.Challenge.cw_dwellhouse_k14_path_limits_holds : PySem.Challenge.rw_dwellhouse_k14_path_limits.Holds := by
  w_on; o_law
  refine HandSHeadRun.head_any (r := OpenLaw.row PySem.Challenge.rw_dwellhouse_k14_path_limits) (q := view (OpenLaw.row PySem.Challenge.rw_dwellhouse_k14_path_limits).prog [64]) (H := K14.hk) (ob := K14.ob) (M := 6000) (loose := K14.loose) (d := HandSHeadRun.topDef (OpenLaw.row PySem.Challenge.rw_dwellhouse_k14_path_limits).prog 64) (kwd := []) K14.ob_eq
    (by kernel_rfl) (fun s => by kernel_rfl) K14.run (by kernel_rfl) (by kernel_rfl) (by kernel_rfl) (by rfl) (by first | assumption | decide +kernel) (by decide +kernel) ⟨rfl, rfl, rfl, rfl, rfl, by decide +kernel⟩ ?hw ?hc
  case hw => w_witness2
  case hc =>
    refine L2.walk_ofE (l := PySem.Challenge.rw_dwellhouse_k14_path_limits) (n := 63) (k := 8) (x := "script") (CX := L2.CX0) rfl (by decide) (by kernel_rfl) ⟨rfl, by decide, by decide⟩ ?F (fun _ _ _ _ z => z)
    intro w mg fa h Y G hmg0
    obtain ⟨K, KX, c⟩ := Y
    have hmg : mg ("law" : PySem.Str) = some (.ref fa) := by
      have e : (HandSHeadRun.topDef (OpenLaw.row PySem.Challenge.rw_dwellhouse_k14_path_limits).prog 64).name = ("law" : PySem.Str) := by kernel_rfl
      rw [← e]
      exact hmg0
    obtain ⟨T, hT⟩ := K14.mkT KX G c
    have e := hmg.symm.trans T.g_law
    cases e
    have b := L2.FunD.bindsA (ps := ["script"]) T.F_law fun _ _ _ _ _ _ us hl => match us, hl with | [_], _ => rfl
    exact ⟨K, T.d_law, Dw.SpB K (K14.sp_law K), KX, fun s v => b s [v] rfl, fun H a ns hl _ hS => K14.lawP H a ns hS, fun base _ _ => K14.ok_law T⟩
