import PyProof.Rows.All
import Wide.All
import OpenK.AllK
import Wide.FinOn
import HandS.ForMost
import HandS.IsInst
import HandS.Zip
import HandS.TupAny
import HandS.Style
import HandS.NoneIn
import HandS.TupMul
import HandS.Star
import PySem.Challenge.RW_cutlore_k01_words_and_names
set_option Elab.async false
set_option linter.all false
set_option maxRecDepth 100000
set_option maxHeartbeats 2000000
/-! DL: evaluation over plain data (PyData), above the hand layer: the heap is hidden behind data (Dx) and objects (A.o) -/
namespace Cl
open PySem L2

/-! ### heaps, hidden parts -/
abbrev Hm := Addr → Bool
def hid (h : Hm) (H : Hp) : Hp := fun b => if h b = true then none else H b
section
variable {h h' m : Hm} {H H' H1 H2 : Hp} {a b : Addr} {o : HO}
theorem hid_of (n : h b = false) (e : H b = some o) : hid h H b = some o := by
  unfold hid; rw [n]; simpa using e
theorem of_hid (e : hid h H b = some o) : h b = false ∧ H b = some o := by
  unfold hid at e
  cases q : h b with
  | true => rw [q] at e; simp at e
  | false => rw [q] at e; exact ⟨rfl, by simpa using e⟩
theorem hid_le : Same (hid h H) H := fun _ _ e => (of_hid e).2
theorem hid_mono (e : ∀ b o, h b = false → H b = some o → h' b = false ∧ H' b = some o) : Same (hid h H) (hid h' H') := fun b o q =>
  let ⟨n, r⟩ := of_hid q; hid_of (e b o n r).1 (e b o n r).2
def Good (h : Hm) (H : Hp) : Prop := ∀ b, h b = true → H b ≠ none
/-- all that stands outside m is as it was; nothing vanishes -/
def Kp (m : Hm) (H H' : Hp) : Prop := (∀ b o, m b = false → H b = some o → H' b = some o) ∧ ∀ b, H b ≠ none → H' b ≠ none
theorem Kp.refl : Kp m H H := ⟨fun _ _ _ e => e, fun _ e => e⟩
theorem Kp.trans (x : Kp m H H1) (y : Kp m H1 H2) : Kp m H H2 := ⟨fun b o n e => y.1 b o n (x.1 b o n e), fun b e => y.2 b (x.2 b e)⟩
theorem Kp.same (e : Same H H') : Kp m H H' := ⟨fun b o _ q => e b o q, fun b q => by
  cases r : H b with
  | none => exact absurd r q
  | some o => rw [e b o r]; exact fun z => nomatch z⟩
theorem Kp.sub (x : Kp m H H') (e : ∀ b, m b = true → h b = true) : Same (hid h H) (hid h H') := hid_mono fun b o n q => ⟨n, x.1 b o (by
  cases r : m b with
  | false => rfl
  | true => rw [e b r] at n; cases n) q⟩
theorem Kp.weak (x : Kp m H H') (e : ∀ b, m b = true → h b = true) : Kp h H H' := ⟨fun b o n q => x.1 b o (by
  cases r : m b with
  | false => rfl
  | true => rw [e b r] at n; cases n) q, x.2⟩
theorem Good.kp (g : Good h H) (x : Kp m H H') : Good h H' := fun b q => x.2 b (g b q)
theorem same_new (n : H a = none) : Same H (upd H a o) := fun b u e => by rw [upd_ne (ne_of_none e n)]; exact e
theorem hid_new (n : H a = none) : Same (hid h H) (hid h (upd H a o)) := hid_mono fun b u q e => ⟨q, same_new n b u e⟩
/-- one more address hidden -/
def plus (h : Hm) (a : Addr) : Hm := fun b => h b || decide (b = a)
theorem plus_self : plus h a a = true := by simp [plus]
theorem plus_sub (q : h b = true) : plus h a b = true := by simp [plus, q]
theorem plus_ne (n : b ≠ a) : plus h a b = h b := by simp [plus, n]
theorem hid_plus (n : H a = none) : Same (hid h H) (hid (plus h a) (upd H a o)) := hid_mono fun b u q e => by
  have nb : b ≠ a := ne_of_none e n
  exact ⟨by rw [plus_ne nb]; exact q, by rw [upd_ne nb]; exact e⟩
theorem hid_minus : Same (hid (plus h a) H) (hid h H) := hid_mono fun b u q e => by
  refine ⟨?_, e⟩
  cases r : h b with
  | false => rfl
  | true =>
    rw [plus_sub r] at q
    cases q
theorem Good.plus (g : Good h H) (e : H a = some o) : Good (plus h a) H := fun b q => by
  by_cases nb : b = a
  · subst nb; rw [e]; exact fun z => nomatch z
  · rw [plus_ne nb] at q; exact g b q
end
theorem sqT_mono {K : PySem.W.Frag} {H H' : Hp} {a : Addr} {xs : List V} (e : Same H H') (h : SqT K H a xs) : SqT K H' a xs := by
  rcases h with (h | ⟨o, h⟩) | h
  · exact .inl (.inl (e _ _ h))
  · exact .inl (.inr ⟨o, e _ _ h⟩)
  · exact .inr h

/-! ### data -/
mutual
inductive Dx (K : PySem.W.Frag) (H : Hp) : V → PyData → Prop
  | non : Dx K H .non .none
  | bl (b : Bool) : Dx K H (.bl b) (.bool b)
  | int (i : Int) : Dx K H (.int i) (.int i)
  | str (x : Str) : Dx K H (.str x) (.str x)
  | lst {a : Addr} {xs : List V} {ds : List PyData} : H a = some (.lst xs) → DxAll K H xs ds → Dx K H (.ref a) (.list ds)
  | tup {a : Addr} {xs : List V} {ds : List PyData} : SqT K H a xs → DxAll K H xs ds → Dx K H (.ref a) (.tuple ds)
inductive DxAll (K : PySem.W.Frag) (H : Hp) : List V → List PyData → Prop
  | nil : DxAll K H [] []
  | cons {v : V} {vs : List V} {d : PyData} {ds : List PyData} : Dx K H v d → DxAll K H vs ds → DxAll K H (v :: vs) (d :: ds)
end
section
variable {K : PySem.W.Frag} {H H' : Hp}
mutual
theorem Dx.mono (e : Same H H') : ∀ {v : V} {d : PyData}, Dx K H v d → Dx K H' v d
  | _, _, .non => .non
  | _, _, .bl b => .bl b
  | _, _, .int i => .int i
  | _, _, .str x => .str x
  | _, _, .lst s a => .lst (e _ _ s) (DxAll.mono e a)
  | _, _, .tup s a => .tup (sqT_mono e s) (DxAll.mono e a)
theorem DxAll.mono (e : Same H H') : ∀ {vs : List V} {ds : List PyData}, DxAll K H vs ds → DxAll K H' vs ds
  | _, _, .nil => .nil
  | _, _, .cons x y => .cons (Dx.mono e x) (DxAll.mono e y)
end
mutual
theorem Dx.dp : ∀ {v : V} {d : PyData}, Dx K H v d → Dp K H v d
  | _, _, .non => .non
  | _, _, .bl b => .bl b
  | _, _, .int i => .int i
  | _, _, .str x => .str x
  | _, _, .lst s a => .lst (SqL.of s) (DxAll.dp a)
  | _, _, .tup s a => .tup s (DxAll.dp a)
theorem DxAll.dp : ∀ {vs : List V} {ds : List PyData}, DxAll K H vs ds → DpAll K H vs ds
  | _, _, .nil => .nil
  | _, _, .cons x y => .cons (Dx.dp x) (DxAll.dp y)
end
theorem DxAll.length : ∀ {vs : List V} {ds : List PyData}, DxAll K H vs ds → vs.length = ds.length
  | _, _, .nil => rfl
  | _, _, .cons _ y => by simp [DxAll.length y]
theorem DxAll.get : ∀ {vs : List V} {ds : List PyData} {i : Nat} {v : V}, DxAll K H vs ds → vs[i]? = some v → ∃ d, ds[i]? = some d ∧ Dx K H v d
  | _, _, _, _, .nil, e => by simp at e
  | _, _, 0, _, .cons x _, e => by simp at e; subst e; exact ⟨_, rfl, x⟩
  | _, _, i + 1, v, .cons _ y, e => by
    obtain ⟨d, h1, h2⟩ := DxAll.get (i := i) (v := v) y (by simpa using e)
    exact ⟨d, by simpa using h1, h2⟩
theorem DxAll.got : ∀ {vs : List V} {ds : List PyData} {i : Nat} {d : PyData}, DxAll K H vs ds → ds[i]? = some d → ∃ v, vs[i]? = some v ∧ Dx K H v d
  | _, _, _, _, .nil, e => by simp at e
  | _, _, 0, _, .cons x _, e => by simp at e; subst e; exact ⟨_, rfl, x⟩
  | _, _, i + 1, d, .cons _ y, e => by
    obtain ⟨v, h1, h2⟩ := DxAll.got (i := i) (d := d) y (by simpa using e)
    exact ⟨v, by simpa using h1, h2⟩
theorem DxAll.append : ∀ {vs ws : List V} {ds es : List PyData}, DxAll K H vs ds → DxAll K H ws es → DxAll K H (vs ++ ws) (ds ++ es)
  | _, _, _, _, .nil, y => y
  | _, _, _, _, .cons x z, y => .cons x (DxAll.append z y)
theorem DxAll.one {v : V} {d : PyData} (x : Dx K H v d) : DxAll K H [v] [d] := .cons x .nil
theorem DxAll.drop : ∀ {vs : List V} {ds : List PyData} (n : Nat), DxAll K H vs ds → DxAll K H (vs.drop n) (ds.drop n)
  | _, _, 0, x => by simpa using x
  | _, _, _ + 1, .nil => .nil
  | _, _, n + 1, .cons _ y => by simpa using DxAll.drop n y
theorem DxAll.take : ∀ {vs : List V} {ds : List PyData} (n : Nat), DxAll K H vs ds → DxAll K H (vs.take n) (ds.take n)
  | _, _, 0, _ => by simpa using DxAll.nil
  | _, _, _ + 1, .nil => .nil
  | _, _, n + 1, .cons x y => by simpa using DxAll.cons x (DxAll.take n y)
theorem DxAll.ints : ∀ {vs : List V} {ns : List Int}, DxAll K H vs (ns.map PyData.int) → vs = ns.map V.int
  | _, [], .nil => rfl
  | _, n :: ns, .cons x y => by cases x; rw [DxAll.ints (ns := ns) y]; rfl
theorem DxAll.strs : ∀ {vs : List V} {ns : List Str}, DxAll K H vs (ns.map PyData.str) → vs = ns.map V.str
  | _, [], .nil => rfl
  | _, n :: ns, .cons x y => by cases x; rw [DxAll.strs (ns := ns) y]; rfl
theorem DxAll.bls : ∀ {vs : List V} {ns : List Bool}, DxAll K H vs (ns.map PyData.bool) → vs = ns.map V.bl
  | _, [], .nil => rfl
  | _, n :: ns, .cons x y => by cases x; rw [DxAll.bls (ns := ns) y]; rfl
theorem DxAll.ofInts : ∀ (ns : List Int), DxAll K H (ns.map V.int) (ns.map PyData.int)
  | [] => .nil
  | n :: ns => .cons (.int n) (DxAll.ofInts ns)
theorem DxAll.ofStrs : ∀ (ns : List Str), DxAll K H (ns.map V.str) (ns.map PyData.str)
  | [] => .nil
  | n :: ns => .cons (.str n) (DxAll.ofStrs ns)
end

/-! ### abstract values, slots, contexts -/
inductive A where
  | d (x : PyData)
  | o (a : Addr)
def Rv (K : PySem.W.Frag) (h : Hm) (H : Hp) (v : V) : A → Prop
  | .d x => Dx K (hid h H) v x
  | .o a => v = .ref a
inductive Rvs (K : PySem.W.Frag) (h : Hm) (H : Hp) : List V → List A → Prop
  | nil : Rvs K h H [] []
  | cons {v : V} {vs : List V} {x : A} {xs : List A} : Rv K h H v x → Rvs K h H vs xs → Rvs K h H (v :: vs) (x :: xs)
theorem Rv.mono {K : PySem.W.Frag} {h h' : Hm} {H H' : Hp} {v : V} (e : Same (hid h H) (hid h' H')) : ∀ {x : A}, Rv K h H v x → Rv K h' H' v x
  | .d _, r => Dx.mono e r
  | .o _, r => r
theorem Rvs.mono {K : PySem.W.Frag} {h h' : Hm} {H H' : Hp} (e : Same (hid h H) (hid h' H')) : ∀ {vs : List V} {xs : List A}, Rvs K h H vs xs → Rvs K h' H' vs xs
  | _, _, .nil => .nil
  | _, _, .cons x y => .cons (Rv.mono e x) (Rvs.mono e y)
abbrev Gm := List (Option A)
/-- all of a list of abstract values are data -/
def allD : List A → Option (List PyData)
  | [] => some []
  | .d x :: r => (allD r).map (x :: ·)
  | .o _ :: _ => none
theorem Rvs.data {K : PySem.W.Frag} {h : Hm} {H : Hp} : ∀ {vs : List V} {xs : List A} {ds : List PyData}, Rvs K h H vs xs → allD xs = some ds → DxAll K (hid h H) vs ds
  | _, _, ds, .nil, e => by cases e; exact .nil
  | _, _, ds, .cons (x := .d x) r t, e => by
    unfold allD at e
    cases q : allD _ with
    | none => rw [q] at e; cases e
    | some es => rw [q] at e; cases e; exact .cons r (Rvs.data t q)
  | _, _, ds, .cons (x := .o a) r t, e => by cases e

structure Sl (K : PySem.W.Frag) (h : Hm) (H : Hp) (σ : St) (G : Gm) : Prop where
  len : σ.length = G.length
  at_ : ∀ (i : Nat) (x : A), G[i]? = some (some x) → ∃ v, σ[i]? = some (some v) ∧ Rv K h H v x
theorem Sl.mono {K : PySem.W.Frag} {h h' : Hm} {H H' : Hp} {σ : St} {G : Gm} (e : Same (hid h H) (hid h' H')) (s : Sl K h H σ G) : Sl K h' H' σ G :=
  ⟨s.len, fun i x q => let ⟨v, a, b⟩ := s.at_ i x q; ⟨v, a, b.mono e⟩⟩
theorem Sl.set {K : PySem.W.Frag} {h : Hm} {H : Hp} {σ : St} {G : Gm} {v : V} {x : A} (i : Nat) (s : Sl K h H σ G) (r : Rv K h H v x) : Sl K h H (σ.set i (some v)) (G.set i (some x)) := by
  refine ⟨by simp [s.len], fun j y q => ?_⟩
  by_cases e : i = j
  · subst e
    by_cases l : i < G.length
    · rw [List.getElem?_set_self l] at q
      cases q
      exact ⟨v, by rw [List.getElem?_set_self (by rw [s.len]; exact l)], r⟩
    · rw [List.getElem?_eq_none (by simpa using l)] at q; cases q
  · rw [List.getElem?_set_ne e] at q ⊢
    exact s.at_ j y q
theorem Sl.none {K : PySem.W.Frag} {h : Hm} {H : Hp} {σ : St} {G : Gm} {u : Option V} (i : Nat) (s : Sl K h H σ G) : Sl K h H (σ.set i u) (G.set i none) := by
  refine ⟨by simp [s.len], fun j y q => ?_⟩
  by_cases e : i = j
  · subst e
    by_cases l : i < G.length
    · rw [List.getElem?_set_self l] at q; cases q
    · rw [List.getElem?_eq_none (by simpa using l)] at q; cases q
  · rw [List.getElem?_set_ne e] at q ⊢
    exact s.at_ j y q
def wipeG (G : Gm) : List Nat → Gm
  | [] => G
  | v :: vs => (wipeG G vs).set v none
theorem Sl.wipe {K : PySem.W.Frag} {h : Hm} {H : Hp} {σ : St} {G : Gm} (s : Sl K h H σ G) : ∀ vs : List Nat, Sl K h H (wipe σ vs) (wipeG G vs)
  | [] => s
  | v :: vs => (s.wipe vs).none v
theorem wipe_at {σ : St} : ∀ {vs : List Nat} {i : Nat}, (wipe σ vs)[i]? = if i ∈ vs then (if i < σ.length then some none else none) else σ[i]?
  | [], i => by simp [L2.wipe]
  | v :: vs, i => by
    unfold L2.wipe
    by_cases e : v = i
    · subst e
      rw [if_pos (by simp)]
      by_cases l : v < σ.length
      · rw [if_pos l, List.getElem?_set_self (by rw [wipe_length]; exact l)]
      · rw [if_neg l, List.getElem?_eq_none (by simpa [wipe_length] using l)]
    · rw [List.getElem?_set_ne e, wipe_at (vs := vs)]
      have q : (i ∈ v :: vs) = (i ∈ vs) := by simp [Ne.symm e]
      simp only [q]
theorem wipe_set {σ : St} {x : Option V} {j : Nat} {vs : List Nat} (hj : j ∈ vs) : wipe (σ.set j x) vs = wipe σ vs := by
  apply List.ext_getElem?
  intro i
  rw [wipe_at, wipe_at, List.length_set]
  by_cases e : i ∈ vs
  · rw [if_pos e, if_pos e]
  · rw [if_neg e, if_neg e, List.getElem?_set_ne]
    intro q; subst q; exact e hj
theorem wipe_wipe {σ : St} {vs : List Nat} : wipe (wipe σ vs) vs = wipe σ vs := by
  apply List.ext_getElem?
  intro i
  rw [wipe_at, wipe_length, wipe_at]
  split <;> rfl

structure Cc (T : Type) where
  K : PySem.W.Frag
  m : Hm
  I : Hm → T → Hp → Prop
  good : ∀ {h : Hm} {s : T} {H : Hp} {b : Addr}, I h s H → m b = true → H b ≠ none
  mono : ∀ {h h' : Hm} {s : T} {H H' : Hp}, I h s H → Same (hid h H) (hid h' H') → (∀ b, m b = true → H' b = H b) → I h' s H'
structure O0 {T : Type} (C : Cc T) (h : Hm) (H : Hp) (s : T) : Prop where
  sub : ∀ b, C.m b = true → h b = true
  good : Good h H
  inv : C.I h s H
structure Ok {T : Type} (C : Cc T) (h : Hm) (σ : St) (H : Hp) (G : Gm) (s : T) : Prop where
  z : O0 C h H s
  sl : Sl C.K h H σ G
section
variable {T : Type} {C : Cc T} {h : Hm} {σ : St} {H H' : Hp} {G : Gm} {s s' : T}
theorem O0.go (z : O0 C h H s) (k : Kp C.m H H') (i : C.I h s' H') : O0 C h H' s' := ⟨z.sub, z.good.kp k, i⟩
theorem Ok.go (z : Ok C h σ H G s) (k : Kp C.m H H') (i : C.I h s' H') : Ok C h σ H' G s' := ⟨z.z.go k i, z.sl.mono (k.sub z.z.sub)⟩
theorem O0.same (z : O0 C h H s) (e : Same H H') : C.I h s H' := C.mono z.inv (hid_mono fun b o n q => ⟨n, e b o q⟩) fun b q => by
  cases r : H b with
  | none => exact absurd r (C.good z.inv q)
  | some o => exact e b o r
theorem O0.fresh (z : O0 C h H s) {p : Addr} (n : H p = none) : h p = false := by
  cases q : h p with
  | false => rfl
  | true => exact absurd n (z.good p q)
end

/-! ### evaluation -/
/-- what may be wanted behind a value: P over abstract values and states -/
def Wa {T : Type} (C : Cc T) (h : Hm) (H : Hp) (P : A → T → Prop) (Q : VK) : Prop := ∀ (x : A) (s' : T) (v : V) (H' : Hp), P x s' → Kp C.m H H' → C.I h s' H' → Rv C.K h H' v x → Q v H'
def EvE {T : Type} (C : Cc T) (te : TE) (G : Gm) (s : T) (P : A → T → Prop) : Prop :=
  ∀ (h : Hm) (σ : St) (H : Hp), Ok C h σ H G s → ∀ Q : VK, Wa C h H P Q → te σ H Q
def EvT {T : Type} (C : Cc T) (tt : TT) (G : Gm) (s : T) (P : Bool → T → Prop) : Prop :=
  ∀ (h : Hm) (σ : St) (H : Hp), Ok C h σ H G s → ∀ Q : Bool → Hp → Prop, (∀ b s' H', P b s' → Kp C.m H H' → C.I h s' H' → Q b H') → tt σ H Q
def EvA {T : Type} (C : Cc T) (ta : TA) (G : Gm) (s : T) (P : List A → T → Prop) : Prop :=
  ∀ (h : Hm) (σ : St) (H : Hp), Ok C h σ H G s → ∀ Q : List V → Hp → Prop, (∀ xs s' vs H', P xs s' → Kp C.m H H' → C.I h s' H' → Rvs C.K h H' vs xs → Q vs H') → ta σ H Q
def EvO {T : Type} (C : Cc T) (to : TO) (G : Gm) (s : T) (P : Option Int → T → Prop) : Prop :=
  ∀ (h : Hm) (σ : St) (H : Hp), Ok C h σ H G s → ∀ Q : Option Int → Hp → Prop, (∀ x s' H', P x s' → Kp C.m H H' → C.I h s' H' → Q x H') → to σ H Q
/-- operations on values -/
def RO {T : Type} (C : Cc T) (r : R2) (x y : A) (s : T) (P : A → T → Prop) : Prop :=
  ∀ (h : Hm) (H : Hp) (v u : V), O0 C h H s → Rv C.K h H v x → Rv C.K h H u y → ∀ Q : VK, Wa C h H P Q → r v u H Q
def RU {T : Type} (C : Cc T) (r : V → Hp → VK → Prop) (x : A) (s : T) (P : A → T → Prop) : Prop :=
  ∀ (h : Hm) (H : Hp) (v : V), O0 C h H s → Rv C.K h H v x → ∀ Q : VK, Wa C h H P Q → r v H Q
def RC {T : Type} (C : Cc T) (r : List V → Hp → VK → Prop) (xs : List A) (s : T) (P : A → T → Prop) : Prop :=
  ∀ (h : Hm) (H : Hp) (vs : List V), O0 C h H s → Rvs C.K h H vs xs → ∀ Q : VK, Wa C h H P Q → r vs H Q
def RM {T : Type} (C : Cc T) (r : V → List V → Hp → VK → Prop) (x : A) (xs : List A) (s : T) (P : A → T → Prop) : Prop :=
  ∀ (h : Hm) (H : Hp) (v : V) (vs : List V), O0 C h H s → Rv C.K h H v x → Rvs C.K h H vs xs → ∀ Q : VK, Wa C h H P Q → r v vs H Q
def RS {T : Type} (C : Cc T) (r : V → Option Int → Option Int → Hp → VK → Prop) (x : A) (lo hi : Option Int) (s : T) (P : A → T → Prop) : Prop :=
  ∀ (h : Hm) (H : Hp) (v : V), O0 C h H s → Rv C.K h H v x → ∀ Q : VK, Wa C h H P Q → r v lo hi H Q
section
variable {T : Type} {C : Cc T} {G : Gm} {s : T} {P : A → T → Prop} {ta tb tc te : TE} {tx : TA} {t u : TT}
theorem Wa.here {h : Hm} {H : Hp} {Q : VK} (k : Wa C h H P Q) {x : A} {v : V} (p : P x s) (i : C.I h s H) (r : Rv C.K h H v x) : Q v H := k x s v H p Kp.refl i r
/-- a new object -/
theorem Wa.new {h : Hm} {H : Hp} {Q : VK} (k : Wa C h H P Q) (z : O0 C h H s) {o : HO} {x : A} {p : Addr} (n : H p = none) (px : P x s) (r : Rv C.K h (upd H p o) (.ref p) x) : Q (.ref p) (upd H p o) :=
  k x s _ _ px (Kp.same (same_new n)) (z.same (same_new n)) r
theorem Wa.after {h : Hm} {H H1 : Hp} {Q : VK} {P' : A → T → Prop} (k : Wa C h H P Q) (e : Kp C.m H H1) (i : ∀ x s', P' x s' → P x s') : Wa C h H1 P' Q :=
  fun x s' v H' p e' i' r => k x s' v H' (i x s' p) (e.trans e') i' r
theorem EvE.imp {P' : A → T → Prop} (h : EvE C te G s P') (i : ∀ x s', P' x s' → P x s') : EvE C te G s P := fun hh σ H z Q k => h hh σ H z Q fun x s' v H' p => k x s' v H' (i x s' p)

theorem ev_var {i : Nat} {x : A} (e : G[i]? = some (some x)) (p : P x s) : EvE C (tVar i) G s P := fun h σ H z Q k =>
  let ⟨v, a, r⟩ := z.sl.at_ i x e
  ⟨v, a, k.here p z.z.inv r⟩
theorem ev_int {i : Int} (p : P (.d (.int i)) s) : EvE C (tC (.int i)) G s P := fun h σ H z Q k => k.here p z.z.inv (Dx.int i)
theorem ev_str {i : Str} (p : P (.d (.str i)) s) : EvE C (tC (.str i)) G s P := fun h σ H z Q k => k.here p z.z.inv (Dx.str i)
theorem ev_bl {i : Bool} (p : P (.d (.bool i)) s) : EvE C (tC (.bl i)) G s P := fun h σ H z Q k => k.here p z.z.inv (Dx.bl i)
theorem ev_non (p : P (.d .none) s) : EvE C (tC .non) G s P := fun h σ H z Q k => k.here p z.z.inv Dx.non
theorem ev_ref {a : Addr} (p : P (.o a) s) : EvE C (tC (.ref a)) G s P := fun h σ H z Q k => k.here p z.z.inv rfl
theorem ev_op {r : R2} (e : EvE C ta G s fun x s1 => EvE C tb G s1 fun y s2 => RO C r x y s2 P) : EvE C (tOp r ta tb) G s P := fun h σ H z Q k =>
  e h σ H z _ fun x s1 v H1 p1 k1 i1 r1 => p1 h σ H1 (z.go k1 i1) _ fun y s2 w H2 p2 k2 i2 r2 =>
    p2 h H2 v w ((z.go k1 i1).z.go k2 i2) (r1.mono (k2.sub z.z.sub)) r2 Q (k.after (k1.trans k2) fun _ _ q => q)
theorem ev_un {r : V → Hp → VK → Prop} (e : EvE C ta G s fun x s1 => RU C r x s1 P) : EvE C (tUn r ta) G s P := fun h σ H z Q k =>
  e h σ H z _ fun x s1 v H1 p1 k1 i1 r1 => p1 h H1 v (z.go k1 i1).z r1 Q (k.after k1 fun _ _ q => q)
theorem ev_cb {r : List V → Hp → VK → Prop} (e : EvA C tx G s fun xs s1 => RC C r xs s1 P) : EvE C (tCB r tx) G s P := fun h σ H z Q k =>
  e h σ H z _ fun x s1 v H1 p1 k1 i1 r1 => p1 h H1 v (z.go k1 i1).z r1 Q (k.after k1 fun _ _ q => q)
theorem ev_nil {P : List A → T → Prop} (p : P [] s) : EvA C tNil G s P := fun h σ H z Q k => k [] s [] H p Kp.refl z.z.inv .nil
theorem ev_cons {P : List A → T → Prop} (e : EvE C ta G s fun x s1 => EvA C tx G s1 fun xs s2 => P (x :: xs) s2) : EvA C (tCons ta tx) G s P := fun h σ H z Q k =>
  e h σ H z _ fun x s1 v H1 p1 k1 i1 r1 => p1 h σ H1 (z.go k1 i1) _ fun xs s2 vs H2 p2 k2 i2 r2 => k _ s2 _ H2 p2 (k1.trans k2) i2 (.cons (r1.mono (k2.sub z.z.sub)) r2)
theorem ev_call {sp : Sp} {dvs : List V} {E : XK} (e : EvA C tx G s fun xs s1 => RC C (fun vs H Q => sp (vs ++ dvs) H Q E) xs s1 P) : EvE C (tCall sp dvs E tx) G s P := fun h σ H z Q k =>
  e h σ H z _ fun x s1 v H1 p1 k1 i1 r1 => p1 h H1 v (z.go k1 i1).z r1 Q (k.after k1 fun _ _ q => q)
theorem ev_tup (e : EvA C tx G s fun xs s1 => ∃ ds, allD xs = some ds ∧ ds.length ≤ 100000 ∧ P (.d (.tuple ds)) s1) : EvE C (tTup tx) G s P := fun h σ H z Q k =>
  e h σ H z _ fun xs s1 vs H1 ⟨ds, e1, hl, p1⟩ k1 i1 r1 => by
    have rd := r1.data e1
    have zz := (z.go k1 i1).z
    refine ⟨by rw [rd.length]; exact Nat.le_trans hl (by decide), fun p hp => ?_⟩
    refine (k.after k1 fun _ _ q => q).new zz hp p1 ?_
    exact Dx.tup (SqT.of (hid_of (zz.fresh hp) upd_same)) (rd.mono (hid_mono fun b o n q => ⟨n, same_new hp b o q⟩))
theorem ev_lst (e : EvA C tx G s fun xs s1 => ∃ ds, allD xs = some ds ∧ ds.length ≤ 100000 ∧ P (.d (.list ds)) s1) : EvE C (tLst tx) G s P := fun h σ H z Q k =>
  e h σ H z _ fun xs s1 vs H1 ⟨ds, e1, hl, p1⟩ k1 i1 r1 => by
    have rd := r1.data e1
    have zz := (z.go k1 i1).z
    refine ⟨by rw [rd.length]; exact Nat.le_trans hl (by decide), fun p hp => ?_⟩
    refine (k.after k1 fun _ _ q => q).new zz hp p1 ?_
    exact Dx.lst (hid_of (zz.fresh hp) upd_same) (rd.mono (hid_mono fun b o n q => ⟨n, same_new hp b o q⟩))
end
end Cl

set_option Elab.async false
set_option linter.all false
set_option maxRecDepth 100000
set_option maxHeartbeats 2000000
namespace Cl
open PySem L2
section
variable {T : Type} {C : Cc T} {G : Gm} {s : T} {P : A → T → Prop} {ta tb tc te : TE} {tx : TA} {t u : TT}

/-! ### tests -/
theorem et_test {Pb : Bool → T → Prop} (e : EvE C te G s fun x s1 => ∃ b, x = .d (.bool b) ∧ Pb b s1) : EvT C (tTest te) G s Pb := fun h σ H z Q k =>
  e h σ H z _ fun x s1 v H1 ⟨b, e1, p1⟩ k1 i1 r1 => by subst e1; cases r1; exact ⟨b, rfl, k b s1 H1 p1 k1 i1⟩
theorem et_B {Pb : Bool → T → Prop} (e : EvE C te G s fun x s1 => ∃ b, x = .d (.bool b) ∧ Pb b s1) : EvT C (tB te) G s Pb := fun h σ H z Q k =>
  e h σ H z _ fun x s1 v H1 ⟨b, e1, p1⟩ k1 i1 r1 => by subst e1; cases r1; exact ⟨b, rfl, k b s1 H1 p1 k1 i1⟩
theorem et_and {Pb : Bool → T → Prop} (e : EvT C t G s fun b s1 => if b = true then EvT C u G s1 Pb else Pb false s1) : EvT C (tAnd t u) G s Pb := fun h σ H z Q k =>
  e h σ H z _ fun b s1 H1 p1 k1 i1 => by
    cases b with
    | true =>
      rw [if_pos rfl] at p1 ⊢
      exact p1 h σ H1 (z.go k1 i1) Q fun b s2 H2 p2 k2 i2 => k b s2 H2 p2 (k1.trans k2) i2
    | false =>
      rw [if_neg Bool.false_ne_true] at p1 ⊢
      exact k false s1 H1 p1 k1 i1
theorem et_or {Pb : Bool → T → Prop} (e : EvT C t G s fun b s1 => if b = true then Pb true s1 else EvT C u G s1 Pb) : EvT C (tOr t u) G s Pb := fun h σ H z Q k =>
  e h σ H z _ fun b s1 H1 p1 k1 i1 => by
    cases b with
    | false =>
      rw [if_neg Bool.false_ne_true] at p1 ⊢
      exact p1 h σ H1 (z.go k1 i1) Q fun b s2 H2 p2 k2 i2 => k b s2 H2 p2 (k1.trans k2) i2
    | true =>
      rw [if_pos rfl] at p1 ⊢
      exact k true s1 H1 p1 k1 i1
theorem et_not {Pb : Bool → T → Prop} (e : EvT C t G s fun b s1 => Pb (!b) s1) : EvT C (tNot t) G s Pb := fun h σ H z Q k =>
  e h σ H z _ fun b s1 H1 p1 k1 i1 => k (!b) s1 H1 p1 k1 i1
theorem et_yes {Pb : Bool → T → Prop} (p : Pb true s) : EvT C tYes G s Pb := fun h σ H z Q k => k true s H p Kp.refl z.z.inv
theorem ev_andV (e : EvE C ta G s fun x s1 => ∃ b, x = .d (.bool b) ∧ if b = true then EvE C tb G s1 P else P (.d (.bool false)) s1) : EvE C (tAndV ta tb) G s P := fun h σ H z Q k =>
  e h σ H z _ fun x s1 v H1 ⟨b, e1, p1⟩ k1 i1 r1 => by
    subst e1; cases r1
    refine ⟨b, rfl, ?_⟩
    cases b with
    | true =>
      rw [if_pos rfl] at p1 ⊢
      exact p1 h σ H1 (z.go k1 i1) Q (k.after k1 fun _ _ q => q)
    | false =>
      rw [if_neg Bool.false_ne_true] at p1 ⊢
      exact k _ s1 _ H1 p1 k1 i1 (Dx.bl false)
theorem ev_orV (e : EvE C ta G s fun x s1 => ∃ b, x = .d (.bool b) ∧ if b = true then P (.d (.bool true)) s1 else EvE C tb G s1 P) : EvE C (tOrV ta tb) G s P := fun h σ H z Q k =>
  e h σ H z _ fun x s1 v H1 ⟨b, e1, p1⟩ k1 i1 r1 => by
    subst e1; cases r1
    refine ⟨b, rfl, ?_⟩
    cases b with
    | false =>
      rw [if_neg Bool.false_ne_true] at p1 ⊢
      exact p1 h σ H1 (z.go k1 i1) Q (k.after k1 fun _ _ q => q)
    | true =>
      rw [if_pos rfl] at p1 ⊢
      exact k _ s1 _ H1 p1 k1 i1 (Dx.bl true)
theorem ev_notV (e : EvE C ta G s fun x s1 => ∃ b, x = .d (.bool b) ∧ P (.d (.bool (!b))) s1) : EvE C (tNotV ta) G s P := fun h σ H z Q k =>
  e h σ H z _ fun x s1 v H1 ⟨b, e1, p1⟩ k1 i1 r1 => by
    subst e1; cases r1
    exact ⟨b, rfl, k _ s1 _ H1 p1 k1 i1 (Dx.bl _)⟩
theorem ev_if (e : EvT C t G s fun b s1 => if b = true then EvE C ta G s1 P else EvE C tb G s1 P) : EvE C (tIf t ta tb) G s P := fun h σ H z Q k =>
  e h σ H z _ fun b s1 H1 p1 k1 i1 => by
    cases b with
    | true =>
      rw [if_pos rfl] at p1 ⊢
      exact p1 h σ H1 (z.go k1 i1) Q (k.after k1 fun _ _ q => q)
    | false =>
      rw [if_neg Bool.false_ne_true] at p1 ⊢
      exact p1 h σ H1 (z.go k1 i1) Q (k.after k1 fun _ _ q => q)
theorem ev_chain {r r' : R2} (e : EvE C ta G s fun x s1 => EvE C tb G s1 fun y s2 => RO C r x y s2 fun w s3 => ∃ b, w = .d (.bool b) ∧ if b = true then EvE C tc G s3 fun z s4 => RO C r' y z s4 P else P (.d (.bool false)) s3) :
    EvE C (tChain r r' ta tb tc) G s P := fun h σ H z Q k =>
  e h σ H z _ fun x s1 v H1 p1 k1 i1 r1 => p1 h σ H1 (z.go k1 i1) _ fun y s2 w H2 p2 k2 i2 r2 =>
    p2 h H2 v w ((z.go k1 i1).z.go k2 i2) (r1.mono (k2.sub z.z.sub)) r2 _ fun q s3 cv H3 ⟨b, e3, p3⟩ k3 i3 r3 => by
      subst e3; cases r3
      refine ⟨b, rfl, ?_⟩
      have z3 : Ok C h σ H3 G s3 := ((z.go k1 i1).go k2 i2).go k3 i3
      cases b with
      | true =>
        rw [if_pos rfl] at p3 ⊢
        exact p3 h σ H3 z3 _ fun cz s4 vz H4 p4 k4 i4 r4 => p4 h H4 w vz (z3.z.go k4 i4) (r2.mono ((k3.trans k4).sub z.z.sub)) r4 Q (k.after (((k1.trans k2).trans k3).trans k4) fun _ _ q => q)
      | false =>
        rw [if_neg Bool.false_ne_true] at p3 ⊢
        exact k _ s3 _ H3 p3 ((k1.trans k2).trans k3) i3 (Dx.bl false)

/-! ### operations on values -/
theorem RO.or1 {r r' : R2} {x y : A} (e : RO C r x y s P) : RO C (fun a b H Q => r a b H Q ∨ r' a b H Q) x y s P := fun h H v u z a b Q k => .inl (e h H v u z a b Q k)
theorem RO.or2 {r r' : R2} {x y : A} (e : RO C r' x y s P) : RO C (fun a b H Q => r a b H Q ∨ r' a b H Q) x y s P := fun h H v u z a b Q k => .inr (e h H v u z a b Q k)
theorem ro_int {g : Int → Int → V} {i j n : Int} (hg : g i j = .int n) (p : P (.d (.int n)) s) : RO C (rI0 g) (.d (.int i)) (.d (.int j)) s P := fun h H v u z a b Q k => by
  cases a; cases b
  exact ⟨i, j, rfl, rfl, by rw [hg]; exact k.here p z.inv (Dx.int n)⟩
theorem ro_bl {g : Int → Int → V} {i j : Int} {c : Bool} (hg : g i j = .bl c) (p : P (.d (.bool c)) s) : RO C (rI0 g) (.d (.int i)) (.d (.int j)) s P := fun h H v u z a b Q k => by
  cases a; cases b
  exact ⟨i, j, rfl, rfl, by rw [hg]; exact k.here p z.inv (Dx.bl c)⟩
theorem ro_intC {Cn : Int → Int → Prop} {g : Int → Int → V} {i j n : Int} (hg : g i j = .int n) (hc : Cn i j) (p : P (.d (.int n)) s) : RO C (rI Cn g) (.d (.int i)) (.d (.int j)) s P := fun h H v u z a b Q k => by
  cases a; cases b
  exact ⟨i, j, rfl, rfl, hc, by rw [hg]; exact k.here p z.inv (Dx.int n)⟩
theorem ro_eqI {i j : Int} (p : P (.d (.bool (decide (i = j)))) s) : RO C rEq (.d (.int i)) (.d (.int j)) s P := fun h H v u z a b Q k => by
  cases a; cases b
  refine ⟨rfl, ?_⟩
  have e : decide (V.int i = V.int j) = decide (i = j) := decide_eq_decide.mpr ⟨fun q => V.int.inj q, fun q => by rw [q]⟩
  rw [e]
  exact k.here p z.inv (Dx.bl _)
theorem ro_neI {i j : Int} (p : P (.d (.bool (!decide (i = j)))) s) : RO C rNe (.d (.int i)) (.d (.int j)) s P := fun h H v u z a b Q k => by
  cases a; cases b
  refine ⟨rfl, ?_⟩
  have e : decide (V.int i = V.int j) = decide (i = j) := decide_eq_decide.mpr ⟨fun q => V.int.inj q, fun q => by rw [q]⟩
  rw [e]
  exact k.here p z.inv (Dx.bl _)
theorem ro_eqS {i j : Str} (p : P (.d (.bool (decide (i = j)))) s) : RO C rEq (.d (.str i)) (.d (.str j)) s P := fun h H v u z a b Q k => by
  cases a; cases b
  refine ⟨rfl, ?_⟩
  have e : decide (V.str i = V.str j) = decide (i = j) := decide_eq_decide.mpr ⟨fun q => V.str.inj q, fun q => by rw [q]⟩
  rw [e]
  exact k.here p z.inv (Dx.bl _)
theorem ro_neS {i j : Str} (p : P (.d (.bool (!decide (i = j)))) s) : RO C rNe (.d (.str i)) (.d (.str j)) s P := fun h H v u z a b Q k => by
  cases a; cases b
  refine ⟨rfl, ?_⟩
  have e : decide (V.str i = V.str j) = decide (i = j) := decide_eq_decide.mpr ⟨fun q => V.str.inj q, fun q => by rw [q]⟩
  rw [e]
  exact k.here p z.inv (Dx.bl _)
theorem ro_eqB {i j : Bool} (p : P (.d (.bool (decide (i = j)))) s) : RO C rEq (.d (.bool i)) (.d (.bool j)) s P := fun h H v u z a b Q k => by
  cases a; cases b
  refine ⟨rfl, ?_⟩
  have e : decide (V.bl i = V.bl j) = decide (i = j) := decide_eq_decide.mpr ⟨fun q => V.bl.inj q, fun q => by rw [q]⟩
  rw [e]
  exact k.here p z.inv (Dx.bl _)
theorem ro_neB {i j : Bool} (p : P (.d (.bool (!decide (i = j)))) s) : RO C rNe (.d (.bool i)) (.d (.bool j)) s P := fun h H v u z a b Q k => by
  cases a; cases b
  refine ⟨rfl, ?_⟩
  have e : decide (V.bl i = V.bl j) = decide (i = j) := decide_eq_decide.mpr ⟨fun q => V.bl.inj q, fun q => by rw [q]⟩
  rw [e]
  exact k.here p z.inv (Dx.bl _)
theorem ro_eqD {d e : PyData} (hd : SeqAt.shaped d = true) (he : SeqAt.shaped e = true) (p : P (.d (.bool (PyData.eqv d e))) s) : RO C (rEqD C.K) (.d d) (.d e) s P := fun h H v u z a b Q k =>
  ⟨d, e, (Dx.mono hid_le a).dp, (Dx.mono hid_le b).dp, hd, he, k.here p z.inv (Dx.bl _)⟩
theorem ro_neD {d e : PyData} (hd : SeqAt.shaped d = true) (he : SeqAt.shaped e = true) (p : P (.d (.bool (!PyData.eqv d e))) s) : RO C (rNeD C.K) (.d d) (.d e) s P := fun h H v u z a b Q k =>
  ⟨d, e, (Dx.mono hid_le a).dp, (Dx.mono hid_le b).dp, hd, he, k.here p z.inv (Dx.bl _)⟩
/-- == of data: flat ones, or at any depth -/
def rEqU (K : PySem.W.Frag) : R2 := fun x y H Q => rEq x y H Q ∨ rEqD K x y H Q
def rNeU (K : PySem.W.Frag) : R2 := fun x y H Q => rNe x y H Q ∨ rNeD K x y H Q
def isNo : A → Bool
  | .d .none => true
  | _ => false
theorem rv_isNo {K : PySem.W.Frag} {h : Hm} {H : Hp} {v : V} : ∀ {x : A}, Rv K h H v x → decide (v = .non) = isNo x
  | .d .none, r => by cases r; rfl
  | .d (.bool b), r => by cases r; rfl
  | .d (.int b), r => by cases r; rfl
  | .d (.str b), r => by cases r; rfl
  | .d (.list b), r => by cases r; rfl
  | .d (.tuple b), r => by cases r; rfl
  | .d (.dict b), r => by cases r
  | .o a, r => by cases r; rfl
theorem ro_isN {x : A} (p : P (.d (.bool (isNo x))) s) : RO C (fun x y H Q => y = .non ∧ Q (.bl (decide (x = .non))) H) x (.d .none) s P := fun h H v u z a b Q k => by
  cases b
  refine ⟨rfl, ?_⟩
  rw [rv_isNo a]
  exact k.here p z.inv (Dx.bl _)
theorem ro_notN {x : A} (p : P (.d (.bool (!isNo x))) s) : RO C (fun x y H Q => y = .non ∧ Q (.bl (!decide (x = .non))) H) x (.d .none) s P := fun h H v u z a b Q k => by
  cases b
  refine ⟨rfl, ?_⟩
  rw [rv_isNo a]
  exact k.here p z.inv (Dx.bl _)
theorem atI_len {α β : Type} {xs : List α} {ys : List β} {i : Int} {y : β} (hl : xs.length = ys.length) (h : atI ys i = some y) : ∃ j : Nat, ys[j]? = some y ∧ ∀ x, xs[j]? = some x → atI xs i = some x := by
  unfold atI at h ⊢
  rw [hl]
  cases q : ixN ys.length i with
  | none => rw [q] at h; cases h
  | some j => rw [q] at h; exact ⟨j, h, fun x e => e⟩
theorem dx_at {K : PySem.W.Frag} {H : Hp} {vs : List V} {ds : List PyData} {i : Int} {d : PyData} (a : DxAll K H vs ds) (h : atI ds i = some d) : ∃ v, atI vs i = some v ∧ Dx K H v d := by
  obtain ⟨j, e1, e2⟩ := atI_len a.length h
  obtain ⟨v, e3, r⟩ := a.got e1
  exact ⟨v, e2 v e3, r⟩
theorem ro_ixL {ds : List PyData} {i : Int} {d : PyData} (e : atI ds i = some d) (p : P (.d d) s) : RO C (rIx C.K) (.d (.list ds)) (.d (.int i)) s P := fun h H v u z a b Q k => by
  cases b
  cases a with
  | lst q r =>
    obtain ⟨w, e1, r1⟩ := dx_at r e
    exact .inl ⟨_, _, i, w, rfl, rfl, SqL.of (hid_le _ _ q), e1, k.here p z.inv r1⟩
theorem ro_ixT {ds : List PyData} {i : Int} {d : PyData} (e : atI ds i = some d) (p : P (.d d) s) : RO C (rIx C.K) (.d (.tuple ds)) (.d (.int i)) s P := fun h H v u z a b Q k => by
  cases b
  cases a with
  | tup q r =>
    obtain ⟨w, e1, r1⟩ := dx_at r e
    exact .inr (.inl ⟨_, _, i, w, rfl, rfl, sqT_mono hid_le q, e1, k.here p z.inv r1⟩)
theorem ro_ixS {w : Str} {i : Int} {c : Nat} (hl : w.length ≤ 100000) (e : atI w.cps.toList i = some c) (p : P (.d (.str ⟨#[c]⟩)) s) : RO C (rIx C.K) (.d (.str w)) (.d (.int i)) s P := fun h H v u z a b Q k => by
  cases b; cases a
  exact .inr (.inr ⟨w, i, c, rfl, rfl, Nat.le_trans hl (by decide), e, k.here p z.inv (Dx.str _)⟩)
/-- + of numbers, texts, lists, tuples -/
def rStrCat : R2 := fun x y H Q => ∃ i j, x = .str i ∧ y = .str j ∧ i.length + j.length ≤ sizeLine ∧ Q (.str (i ++ j)) H
def rPlus (K : PySem.W.Frag) : R2 := fun x y H Q => rI0 (fun i j => .int (i + j)) x y H Q ∨ rStrCat x y H Q ∨ rCat x y H Q ∨ rCatA K x y H Q
theorem ro_plI {i j : Int} (p : P (.d (.int (i + j))) s) : RO C (rPlus C.K) (.d (.int i)) (.d (.int j)) s P := fun h H v u z a b Q k => .inl (ro_int rfl p h H v u z a b Q k)
theorem ro_plS {i j : Str} (hl : i.length + j.length ≤ 100000) (p : P (.d (.str (i ++ j))) s) : RO C (rPlus C.K) (.d (.str i)) (.d (.str j)) s P := fun h H v u z a b Q k => by
  cases a; cases b
  exact .inr (.inl ⟨i, j, rfl, rfl, Nat.le_trans hl (by decide), k.here p z.inv (Dx.str _)⟩)
theorem ro_plL {ds es : List PyData} (hl : ds.length + es.length ≤ 100000) (p : P (.d (.list (ds ++ es))) s) : RO C (rPlus C.K) (.d (.list ds)) (.d (.list es)) s P := fun h H v u z a b Q k => by
  cases a with
  | lst qa ra =>
    cases b with
    | lst qb rb =>
      refine .inr (.inr (.inl ⟨_, _, _, _, rfl, rfl, hid_le _ _ qa, hid_le _ _ qb, by rw [ra.length, rb.length]; exact Nat.le_trans hl (by decide), fun q hq => ?_⟩))
      exact k.new z hq p (Dx.lst (hid_of (z.fresh hq) upd_same) ((ra.append rb).mono (hid_new hq)))
theorem ro_plT {ds es : List PyData} (hl : ds.length + es.length ≤ 100000) (p : P (.d (.tuple (ds ++ es))) s) : RO C (rPlus C.K) (.d (.tuple ds)) (.d (.tuple es)) s P := fun h H v u z a b Q k => by
  cases a with
  | tup qa ra =>
    cases b with
    | tup qb rb =>
      refine .inr (.inr (.inr ⟨_, _, _, _, rfl, rfl, sqT_mono hid_le qa, sqT_mono hid_le qb, by rw [ra.length, rb.length]; exact Nat.le_trans hl (by decide), fun e => ?_, fun _ e => ?_, fun _ _ q hq => ?_⟩))
      · subst e
        cases ra
        exact k.here p z.inv (Dx.tup qb rb)
      · subst e
        cases rb
        rw [List.append_nil] at p
        exact k.here p z.inv (Dx.tup qa ra)
      · exact k.new z hq p (Dx.tup (SqT.of (hid_of (z.fresh hq) upd_same)) ((ra.append rb).mono (hid_new hq)))
/-- x in y: a sign in a text; flat things in a list or tuple -/
def rInSign : R2 := fun x y H Q => ∃ (c : Nat) (z : Str), x = .str ⟨#[c]⟩ ∧ y = .str z ∧ Q (.bl (decide (c ∈ z.cps.toList))) H
theorem ro_inS {c : Nat} {w : Str} (p : P (.d (.bool (decide (c ∈ w.cps.toList)))) s) : RO C rInSign (.d (.str ⟨#[c]⟩)) (.d (.str w)) s P := fun h H v u z a b Q k => by
  cases a; cases b
  exact ⟨c, w, rfl, rfl, k.here p z.inv (Dx.bl _)⟩
end
end Cl

set_option Elab.async false
set_option linter.all false
set_option maxRecDepth 100000
set_option maxHeartbeats 2000000
namespace Cl
open PySem L2 RZ
/-! ### unions of rules, whatever the kinds are -/
section
variable {X : Cx}
theorem opr_or {f : Value → Value → Sem Value} {r r' : R2} (a : OpR X f r) (b : OpR X f r') : OpR X f (fun x y H Q => r x y H Q ∨ r' x y H Q) := fun pins s σ H x y v u Q I rx ry h => by
  rcases h with h | h
  · exact a pins s σ H x y v u Q I rx ry h
  · exact b pins s σ H x y v u Q I rx ry h
theorem op_plus : OpR X (binaryOp .Add) (rPlus X.K) := opr_or op_add (opr_or op_add_str (opr_or op_cat op_catA))
theorem op_eqU (hu : X.A.units + 64 < cLine) : OpR X (compareOp .Eq) (rEqU X.K) := opr_or op_eq (op_eqD hu)
theorem op_neU (hu : X.A.units + 64 < cLine) : OpR X (compareOp .NotEq) (rNeU X.K) := opr_or op_ne (op_neD hu)
def rInU (K : PySem.W.Frag) (n : Bool) : R2 := fun x y H Q => (∃ (c : Nat) (z : Str), x = .str ⟨#[c]⟩ ∧ y = .str z ∧ Q (.bl (if n then !decide (c ∈ z.cps.toList) else decide (c ∈ z.cps.toList))) H) ∨ rIn K n x y H Q
theorem op_inU : OpR X (compareOp .In) (rInU X.K false) := opr_or op_in_sign op_in_seq
theorem op_notInU : OpR X (compareOp .NotIn) (rInU X.K true) := opr_or op_notIn_sign op_notIn_seq
theorem slr_or {r r' : V → Option Int → Option Int → Hp → VK → Prop} (a : SlR X r) (b : SlR X r') : SlR X (fun x lo hi H Q => r x lo hi H Q ∨ r' x lo hi H Q) := by
  intro pins s σ H x v vl vu lo hi sl Q I rx hs pl pu h
  rcases h with h | h
  · exact a pins s σ H x v vl vu lo hi sl Q I rx hs pl pu h
  · exact b pins s σ H x v vl vu lo hi sl Q I rx hs pl pu h
def rSlU (K : PySem.W.Frag) : V → Option Int → Option Int → Hp → VK → Prop := fun x lo hi H Q => rSlL K x lo hi H Q ∨ rSlA K x lo hi H Q ∨ rSlS x lo hi H Q
theorem sl_any : SlR X (rSlU X.K) := slr_or sl_list (slr_or sl_tupA sl_str)
theorem pi_or {tg e : Expr} {w w' : TI} (a : PI X tg e w) (b : PI X tg e w') : PI X tg e (fun σ H R => w σ H R ∨ w' σ H R) := ⟨fun pins s σ H R I h => by
  rcases h with h | h
  · exact a.run pins s σ H R I h
  · exact b.run pins s σ H R I h⟩
def iAny (K : PySem.W.Frag) (te : TE) : TI := fun σ H R => iList K te σ H R ∨ iTup K te σ H R ∨ iStr te σ H R
theorem pi_any {tg e : Expr} {te : TE} (h : PE X e te) : PI X tg e (iAny X.K te) := pi_or (pi_list h) (pi_or (pi_tup h) (pi_str h))
end

section
variable {T : Type} {C : Cc T} {G : Gm} {s : T} {P : A → T → Prop} {ta tb tc te : TE} {tx : TA} {t u : TT}
theorem RO.orE1 {r r' : R2} {x y : A} (e : RO C r x y s P) : RO C (fun a b H Q => r a b H Q ∨ r' a b H Q) x y s P := RO.or1 e
theorem ro_eqU1 {x y : A} (e : RO C rEq x y s P) : RO C (rEqU C.K) x y s P := fun h H v u z a b Q k => .inl (e h H v u z a b Q k)
theorem ro_eqU2 {x y : A} (e : RO C (rEqD C.K) x y s P) : RO C (rEqU C.K) x y s P := fun h H v u z a b Q k => .inr (e h H v u z a b Q k)
theorem ro_neU1 {x y : A} (e : RO C rNe x y s P) : RO C (rNeU C.K) x y s P := fun h H v u z a b Q k => .inl (e h H v u z a b Q k)
theorem ro_neU2 {x y : A} (e : RO C (rNeD C.K) x y s P) : RO C (rNeU C.K) x y s P := fun h H v u z a b Q k => .inr (e h H v u z a b Q k)
theorem ro_in1 {c : Nat} {w : Str} (p : P (.d (.bool (decide (c ∈ w.cps.toList)))) s) : RO C (rInU C.K false) (.d (.str ⟨#[c]⟩)) (.d (.str w)) s P := fun h H v u z a b Q k => by
  cases a; cases b
  exact .inl ⟨c, w, rfl, rfl, k.here p z.inv (Dx.bl _)⟩
theorem ro_ni1 {c : Nat} {w : Str} (p : P (.d (.bool (!decide (c ∈ w.cps.toList)))) s) : RO C (rInU C.K true) (.d (.str ⟨#[c]⟩)) (.d (.str w)) s P := fun h H v u z a b Q k => by
  cases a; cases b
  exact .inl ⟨c, w, rfl, rfl, k.here p z.inv (Dx.bl _)⟩

/-! ### slices -/
theorem eo_none {Po : Option Int → T → Prop} (p : Po none s) : EvO C tNoPart G s Po := fun h σ H z Q k => k none s H p Kp.refl z.z.inv
theorem eo_some {Po : Option Int → T → Prop} (e : EvE C te G s fun x s1 => ∃ i, x = .d (.int i) ∧ Po (some i) s1) : EvO C (tPart te) G s Po := fun h σ H z Q k =>
  e h σ H z _ fun x s1 v H1 ⟨i, e1, p1⟩ k1 i1 r1 => by subst e1; cases r1; exact ⟨i, rfl, k (some i) s1 H1 p1 k1 i1⟩
theorem ev_sl {r : V → Option Int → Option Int → Hp → VK → Prop} {tl th : TO} (e : EvE C te G s fun x s1 => EvO C tl G s1 fun lo s2 => EvO C th G s2 fun hi s3 => RS C r x lo hi s3 P) : EvE C (tSl r te tl th) G s P := fun h σ H z Q k =>
  e h σ H z _ fun x s1 v H1 p1 k1 i1 r1 => p1 h σ H1 (z.go k1 i1) _ fun lo s2 H2 p2 k2 i2 => p2 h σ H2 ((z.go k1 i1).go k2 i2) _ fun hi s3 H3 p3 k3 i3 =>
    p3 h H3 v (((z.go k1 i1).go k2 i2).go k3 i3).z (r1.mono ((k2.trans k3).sub z.z.sub)) Q (k.after ((k1.trans k2).trans k3) fun _ _ q => q)
/-- the slice of data -/
def cutD {α : Type} (xs : List α) (lo hi : Option Int) : List α := (xs.drop (HT.sIx xs.length 0 lo)).take (HT.sIx xs.length xs.length hi - HT.sIx xs.length 0 lo)
theorem dx_cut {K : PySem.W.Frag} {H : Hp} {vs : List V} {ds : List PyData} (a : DxAll K H vs ds) (lo hi : Option Int) : DxAll K H (cutV vs lo hi) (cutD ds lo hi) := by
  unfold cutV cutD
  rw [a.length]
  exact (a.drop _).take _
theorem rs_list {ds : List PyData} {lo hi : Option Int} (p : P (.d (.list (cutD ds lo hi))) s) : RS C (rSlU C.K) (.d (.list ds)) lo hi s P := fun h H v z a Q k => by
  cases a with
  | lst q r => exact .inl ⟨_, _, rfl, SqL.of (hid_le _ _ q), fun p' hp => k.new z hp p (Dx.lst (hid_of (z.fresh hp) upd_same) ((dx_cut r lo hi).mono (hid_new hp)))⟩
theorem rs_tup {ds : List PyData} {lo hi : Option Int} (p : P (.d (.tuple (cutD ds lo hi))) s) : RS C (rSlU C.K) (.d (.tuple ds)) lo hi s P := fun h H v z a Q k => by
  cases a with
  | @tup aa xs _ q r =>
    refine .inr (.inl ⟨_, _, rfl, sqT_mono hid_le q, fun hw => ?_, fun _ p' hp => k.new z hp p (Dx.tup (SqT.of (hid_of (z.fresh hp) upd_same)) ((dx_cut r lo hi).mono (hid_new hp)))⟩)
    have e : cutD ds lo hi = ds := by
      unfold cutD
      rw [r.length] at hw
      rw [hw.1, hw.2]
      simp
    rw [e] at p
    exact k.here p z.inv (Dx.tup q r)
theorem rs_str {w : Str} {lo hi : Option Int} (hl : w.length ≤ 100000) (p : P (.d (.str (cutS w lo hi))) s) : RS C (rSlU C.K) (.d (.str w)) lo hi s P := fun h H v z a Q k => by
  cases a
  exact .inr (.inr ⟨w, rfl, Nat.le_trans hl (by decide), k.here p z.inv (Dx.str _)⟩)

/-! ### built-ins -/
theorem rc_lenL {ds : List PyData} (p : P (.d (.int ds.length)) s) : RC C (fun xs H Q => ∃ x n, xs = [x] ∧ LenV C.K x H n ∧ Q (.int n) H) [.d (.list ds)] s P := fun h H vs z a Q k => by
  cases a with
  | cons r t =>
    cases t
    cases r with
    | lst q rr => exact ⟨_, ds.length, rfl, .inl ⟨_, SqL.of (hid_le _ _ q), rr.length.symm⟩, k.here p z.inv (Dx.int _)⟩
theorem rc_lenT {ds : List PyData} (p : P (.d (.int ds.length)) s) : RC C (fun xs H Q => ∃ x n, xs = [x] ∧ LenV C.K x H n ∧ Q (.int n) H) [.d (.tuple ds)] s P := fun h H vs z a Q k => by
  cases a with
  | cons r t =>
    cases t
    cases r with
    | tup q rr => exact ⟨_, ds.length, rfl, .inr ⟨_, sqT_mono hid_le q, rr.length.symm⟩, k.here p z.inv (Dx.int _)⟩
theorem rc_lenS {w : Str} (hl : w.length ≤ 100000) (p : P (.d (.int w.length)) s) : RC C (fun xs H Q => ∃ x n, xs = [x] ∧ LenV C.K x H n ∧ Q (.int n) H) [.d (.str w)] s P := fun h H vs z a Q k => by
  cases a with
  | cons r t =>
    cases t; cases r
    exact ⟨_, w.length, rfl, ⟨Nat.le_trans hl (by decide), rfl⟩, k.here p z.inv (Dx.int _)⟩
theorem rc_listL {ds : List PyData} (p : P (.d (.list ds)) s) : RC C (fun xs H Q => ∃ p ys, xs = [.ref p] ∧ (SqL C.K H p ys ∨ SqT C.K H p ys) ∧ ∀ l, H l = none → Q (.ref l) (upd H l (.lst ys))) [.d (.list ds)] s P := fun h H vs z a Q k => by
  cases a with
  | cons r t =>
    cases t
    cases r with
    | lst q rr => exact ⟨_, _, rfl, .inl (SqL.of (hid_le _ _ q)), fun l hl => k.new z hl p (Dx.lst (hid_of (z.fresh hl) upd_same) (rr.mono (hid_new hl)))⟩
theorem rc_listT {ds : List PyData} (p : P (.d (.list ds)) s) : RC C (fun xs H Q => ∃ p ys, xs = [.ref p] ∧ (SqL C.K H p ys ∨ SqT C.K H p ys) ∧ ∀ l, H l = none → Q (.ref l) (upd H l (.lst ys))) [.d (.tuple ds)] s P := fun h H vs z a Q k => by
  cases a with
  | cons r t =>
    cases t
    cases r with
    | tup q rr => exact ⟨_, _, rfl, .inr (sqT_mono hid_le q), fun l hl => k.new z hl p (Dx.lst (hid_of (z.fresh hl) upd_same) (rr.mono (hid_new hl)))⟩
theorem rc_tupL {ds : List PyData} (p : P (.d (.tuple ds)) s) : RC C (fun xs H Q => ∃ p ys, xs = [.ref p] ∧ ((SqL C.K H p ys ∧ ∀ l, H l = none → Q (.ref l) (upd H l (.tup ys))) ∨ (SqT C.K H p ys ∧ Q (.ref p) H))) [.d (.list ds)] s P := fun h H vs z a Q k => by
  cases a with
  | cons r t =>
    cases t
    cases r with
    | lst q rr => exact ⟨_, _, rfl, .inl ⟨SqL.of (hid_le _ _ q), fun l hl => k.new z hl p (Dx.tup (SqT.of (hid_of (z.fresh hl) upd_same)) (rr.mono (hid_new hl)))⟩⟩
theorem rc_tupT {ds : List PyData} (p : P (.d (.tuple ds)) s) : RC C (fun xs H Q => ∃ p ys, xs = [.ref p] ∧ ((SqL C.K H p ys ∧ ∀ l, H l = none → Q (.ref l) (upd H l (.tup ys))) ∨ (SqT C.K H p ys ∧ Q (.ref p) H))) [.d (.tuple ds)] s P := fun h H vs z a Q k => by
  cases a with
  | cons r t =>
    cases t
    cases r with
    | tup q rr => exact ⟨_, _, rfl, .inr ⟨sqT_mono hid_le q, k.here p z.inv (Dx.tup q rr)⟩⟩
theorem rc_all {bs : List Bool} (p : P (.d (.bool (bs.all id))) s) : RC C (rAll C.K) [.d (.list (bs.map PyData.bool))] s P := fun h H vs z a Q k => by
  cases a with
  | cons r t =>
    cases t
    cases r with
    | lst q rr =>
      have e := rr.bls
      subst e
      exact ⟨_, bs, rfl, SqL.of (hid_le _ _ q), k.here p z.inv (Dx.bl _)⟩
theorem rc_any {bs : List Bool} (p : P (.d (.bool (bs.any id))) s) : RC C (rAny C.K) [.d (.list (bs.map PyData.bool))] s P := fun h H vs z a Q k => by
  cases a with
  | cons r t =>
    cases t
    cases r with
    | lst q rr =>
      have e := rr.bls
      subst e
      exact ⟨_, bs, rfl, SqL.of (hid_le _ _ q), k.here p z.inv (Dx.bl _)⟩
theorem rc_max2 {i j : Int} (p : P (.d (.int (if j > i then j else i))) s) : RC C (fun xs H Q => ∃ i j, xs = [.int i, .int j] ∧ Q (.int (if j > i then j else i)) H) [.d (.int i), .d (.int j)] s P := fun h H vs z a Q k => by
  cases a with
  | cons r t =>
    cases t with
    | cons r2 t2 => cases t2; cases r; cases r2; exact ⟨i, j, rfl, k.here p z.inv (Dx.int _)⟩
theorem rc_min2 {i j : Int} (p : P (.d (.int (if j < i then j else i))) s) : RC C (fun xs H Q => ∃ i j, xs = [.int i, .int j] ∧ Q (.int (if j < i then j else i)) H) [.d (.int i), .d (.int j)] s P := fun h H vs z a Q k => by
  cases a with
  | cons r t =>
    cases t with
    | cons r2 t2 => cases t2; cases r; cases r2; exact ⟨i, j, rfl, k.here p z.inv (Dx.int _)⟩
/-- sep.join(xs) -/
theorem ev_join {to : TE} (e : EvE C to G s fun x s1 => ∃ a, x = .d (.str a) ∧ EvE C te G s1 fun y s2 => ∃ ys : List Str, (y = .d (.list (ys.map PyData.str)) ∨ y = .d (.tuple (ys.map PyData.str))) ∧ (ys.map (·.length)).sum + ys.length * a.length ≤ 16777216 ∧ P (.d (.str (Txt.join a ys))) s2) :
    EvE C (tM1 (fun x xs H Q => ∃ a p, ∃ ys : List Str, x = .str a ∧ xs = [.ref p] ∧ (SqL C.K H p (ys.map V.str) ∨ SqT C.K H p (ys.map V.str)) ∧ (ys.map (·.length)).sum + ys.length * a.length ≤ 16777216 ∧ Q (.str (Txt.join a ys)) H) to te) G s P := fun h σ H z Q k =>
  e h σ H z _ fun x s1 v H1 ⟨a, e1, p1⟩ k1 i1 r1 => by
    subst e1; cases r1
    refine ⟨⟨a, rfl⟩, p1 h σ H1 (z.go k1 i1) _ fun y s2 w H2 ⟨ys, e2, hz, p2⟩ k2 i2 r2 => ?_⟩
    rcases e2 with e2 | e2
    · subst e2
      cases r2 with
      | lst q rr =>
        have e := rr.strs
        subst e
        exact ⟨a, _, ys, rfl, rfl, .inl (SqL.of (hid_le _ _ q)), hz, k _ s2 _ H2 p2 (k1.trans k2) i2 (Dx.str _)⟩
    · subst e2
      cases r2 with
      | tup q rr =>
        have e := rr.strs
        subst e
        exact ⟨a, _, ys, rfl, rfl, .inr (sqT_mono hid_le q), hz, k _ s2 _ H2 p2 (k1.trans k2) i2 (Dx.str _)⟩

/-! ### isinstance of data against built-in classes -/
def tyD : PyData → String
  | .none => "NoneType"
  | .bool _ => "bool"
  | .int _ => "int"
  | .str _ => "str"
  | .list _ => "list"
  | .tuple _ => "tuple"
  | .dict _ => "dict"
theorem dx_ty {K : PySem.W.Frag} {H : Hp} {v : V} : ∀ {d : PyData}, Dx K H v d → TyX K H v (.type (tyD d))
  | .none, r => by cases r; exact .base .non
  | .bool b, r => by cases r; exact .base (.bl b)
  | .int b, r => by cases r; exact .base (.int b)
  | .str b, r => by cases r; exact .base (.str b)
  | .list ds, r => by
    cases r with
    | lst q _ => exact .base (.lst q)
  | .tuple ds, r => by
    cases r with
    | tup q _ =>
      rcases q with (q | ⟨o, q⟩) | ⟨o, its, n, q, c, _⟩
      · exact .base (.tup q)
      · exact .fTuple q
      · exact .kTuple q c
theorem ev_isi {n : String} {tv : TE} (e : EvE C tv G s fun x s1 => ∃ d b, x = .d d ∧ kitB (tyD d) n = some b ∧ P (.d (.bool b)) s1) : EvE C (tCB (rIsi C.K) (tCons tv (tCons (tC (.ty n)) tNil))) G s P := fun h σ H z Q k =>
  e h σ H z _ fun x s1 v H1 ⟨d, b, e1, hb, p1⟩ k1 i1 r1 => by
    subst e1
    exact ⟨v, .ty n, _, _, b, rfl, .ty n, dx_ty (Dx.mono hid_le r1), kit_ty hb, k _ s1 _ H1 p1 k1 i1 (Dx.bl _)⟩
theorem ev_isi2 {n n' : String} {tv : TE} (e : EvE C tv G s fun x s1 => ∃ d b, x = .d d ∧ PySem.W.kitAny C.K (.type (tyD d)) [.type n, .type n'] = some b ∧ P (.d (.bool b)) s1) :
    EvE C (tCB (rIsiT C.K) (tCons tv (tCons (tTup (tCons (tC (.ty n)) (tCons (tC (.ty n')) tNil))) tNil))) G s P := fun h σ H z Q k =>
  e h σ H z _ fun x s1 v H1 ⟨d, b, e1, hb, p1⟩ k1 i1 r1 => by
    subst e1
    refine ⟨by show 2 ≤ sizeLine; decide, fun p hp => ?_⟩
    have zz := (z.go k1 i1).z
    exact ⟨v, p, _, _, _, b, rfl, upd_same, .cons (.ty n) (.cons (.ty n') .nil), dx_ty (Dx.mono (hid_le.trans (same_new hp)) r1), hb,
      k _ s1 _ _ p1 (k1.trans (Kp.same (same_new hp))) (zz.same (same_new hp)) (Dx.bl _)⟩
end

/-! ### targets, iterators, comprehensions -/
section
variable {T : Type} {C : Cc T} {G : Gm} {s : T} {P : A → T → Prop} {ta tb tc te : TE} {tx : TA} {t u : TT}
/-- a target: ts the slots that it stores -/
def EvG (C : Cc T) (g : TG) (ts : List Nat) (x : A) (G : Gm) (s : T) (P : Gm → Prop) : Prop :=
  ∀ (h : Hm) (σ : St) (H : Hp) (v : V), Ok C h σ H G s → Rv C.K h H v x → ∀ Q : St → Hp → Prop, (∀ G2 σ2, P G2 → Sl C.K h H σ2 G2 → (∀ vs, (∀ j ∈ ts, j ∈ vs) → wipe σ2 vs = wipe σ vs) → Q σ2 H) → g v σ H Q
theorem eg_name {i : Nat} {x : A} {Pg : Gm → Prop} (p : Pg (G.set i (some x))) : EvG C (gName i) [i] x G s Pg := fun h σ H v z r Q k =>
  k _ _ p (z.sl.set i r) fun vs hv => wipe_set (hv i (by simp))
theorem eg_pair {i j : Nat} {d e : PyData} {Pg : Gm → Prop} (p : Pg ((G.set i (some (.d d))).set j (some (.d e)))) : EvG C (gTup C.K 2 (gCons (gName i) (gCons (gName j) gNil))) [i, j] (.d (.tuple [d, e])) G s Pg := fun h σ H v z r Q k => by
  cases r with
  | tup q rr =>
    cases rr with
    | cons r1 rr =>
      cases rr with
      | cons r2 rr =>
        cases rr
        refine ⟨_, _, rfl, sqT_mono hid_le q, rfl, _, _, rfl, _, _, rfl, rfl, k _ _ p ((z.sl.set (x := .d d) i r1).set (x := .d e) j r2) fun vs hv => ?_⟩
        rw [wipe_set (hv j (by simp)), wipe_set (hv i (by simp))]
/-- J walks the abstract items xs, whatever becomes of the heap while the data stand -/
structure Wk (K : PySem.W.Frag) (h : Hm) (H0 : Hp) (J : It) (xs : List A) : Prop where
  go : ∀ (h' : Hm) i H, Same (hid h H0) (hid h' H) → i < xs.length → J.go i H
  yld : ∀ (h' : Hm) i H v H', Same (hid h H0) (hid h' H) → J.yld i H v H' → i < xs.length → ∃ x, xs[i]? = some x ∧ Same H H' ∧ (Good h' H → Rv K h' H' v x)
  stop : ∀ (h' : Hm) i H, Same (hid h H0) (hid h' H) → xs.length ≤ i → J.stop i H
def EvI (C : Cc T) (wi : TI) (G : Gm) (s : T) (P : List A → T → Prop) : Prop :=
  ∀ (h : Hm) (σ : St) (H : Hp), Ok C h σ H G s → ∀ R : It → Hp → Prop, (∀ xs s' J H', P xs s' → Kp C.m H H' → C.I h s' H' → Wk C.K h H' J xs → R J H') → wi σ H R
theorem ei_list {Pi : List A → T → Prop} (e : EvE C te G s fun x s1 => ∃ ds, x = .d (.list ds) ∧ Pi (ds.map A.d) s1) : EvI C (iAny C.K te) G s Pi := fun h σ H z R k =>
  .inl (e h σ H z _ fun x s1 v H1 ⟨ds, e1, p1⟩ k1 i1 r1 => by
    subst e1
    cases r1 with
    | @lst a xs _ q rr =>
      refine ⟨a, rfl, ⟨_, SqL.of (hid_le _ _ q)⟩, k _ s1 _ H1 p1 k1 i1 ⟨fun hh i H2 e2 hi => ?_, fun hh i H2 v H3 e2 y hi => ?_, fun hh i H2 e2 hi => ?_⟩⟩
      · rw [List.length_map, ← rr.length] at hi
        exact ⟨_, xs[i], SqL.of (hid_le _ _ (e2 _ _ q)), by simp [hi]⟩
      · obtain ⟨e3, y⟩ := y
        subst e3
        have g := y _ (SqL.of (hid_le _ _ (e2 _ _ q)))
        obtain ⟨d, e4, r4⟩ := rr.get g
        exact ⟨.d d, by rw [List.getElem?_map, e4]; rfl, Same.refl _, fun _ => r4.mono e2⟩
      · rw [List.length_map, ← rr.length] at hi
        exact ⟨_, SqL.of (hid_le _ _ (e2 _ _ q)), hi⟩)
theorem ei_tup {Pi : List A → T → Prop} (e : EvE C te G s fun x s1 => ∃ ds, x = .d (.tuple ds) ∧ Pi (ds.map A.d) s1) : EvI C (iAny C.K te) G s Pi := fun h σ H z R k =>
  .inr (.inl (e h σ H z _ fun x s1 v H1 ⟨ds, e1, p1⟩ k1 i1 r1 => by
    subst e1
    cases r1 with
    | @tup a xs _ q rr =>
      refine ⟨a, rfl, ⟨_, sqT_mono hid_le q⟩, k _ s1 _ H1 p1 k1 i1 ⟨fun hh i H2 e2 hi => ?_, fun hh i H2 v H3 e2 y hi => ?_, fun hh i H2 e2 hi => ?_⟩⟩
      · rw [List.length_map, ← rr.length] at hi
        exact ⟨_, xs[i], sqT_mono (e2.trans hid_le) q, by simp [hi]⟩
      · obtain ⟨e3, y⟩ := y
        subst e3
        have g := y _ (sqT_mono (e2.trans hid_le) q)
        obtain ⟨d, e4, r4⟩ := rr.get g
        exact ⟨.d d, by rw [List.getElem?_map, e4]; rfl, Same.refl _, fun _ => r4.mono e2⟩
      · rw [List.length_map, ← rr.length] at hi
        exact ⟨_, sqT_mono (e2.trans hid_le) q, hi⟩))
/-- the signs of a text -/
def signs (w : Str) : List PyData := w.cps.toList.map fun c => .str ⟨#[c]⟩
theorem ei_str {Pi : List A → T → Prop} (e : EvE C te G s fun x s1 => ∃ w, x = .d (.str w) ∧ Pi ((signs w).map A.d) s1) : EvI C (iAny C.K te) G s Pi := fun h σ H z R k =>
  .inr (.inr (e h σ H z _ fun x s1 v H1 ⟨w, e1, p1⟩ k1 i1 r1 => by
    subst e1
    cases r1
    have hlen : ((signs w).map A.d).length = w.cps.size := by simp [signs]
    refine ⟨w, rfl, k _ s1 _ H1 p1 k1 i1 ⟨fun hh i H2 e2 hi => ?_, fun hh i H2 v H3 e2 y hi => ?_, fun hh i H2 e2 hi => ?_⟩⟩
    · rw [hlen] at hi; exact hi
    · obtain ⟨e3, c, e4, e5⟩ := y
      subst e3; subst e5
      refine ⟨.d (.str ⟨#[c]⟩), ?_, Same.refl _, fun _ => Dx.str _⟩
      rw [List.getElem?_map, signs, List.getElem?_map]
      simp [e4]
    · rw [hlen] at hi; exact hi))
theorem ei_rng {Pi : List A → T → Prop} (e : EvA C tx G s fun xs s1 => ∃ n : Nat, xs = [.d (.int n)] ∧ n ≤ 100000 ∧ Pi ((List.range n).map fun (i : Nat) => .d (.int ((i : Nat) : Int))) s1) : EvI C (iRng1 tx) G s Pi := fun h σ H z R k =>
  e h σ H z _ fun x s1 vs H1 ⟨n, e1, hn, p1⟩ k1 i1 r1 => by
    subst e1
    cases r1 with
    | cons r t =>
      cases t; cases r
      refine ⟨n, rfl, by omega, by omega, k _ s1 _ H1 p1 k1 i1 ⟨fun hh i H2 e2 hi => ?_, fun hh i H2 v H3 e2 y hi => ?_, fun hh i H2 e2 hi => ?_⟩⟩
      · show i < n
        simpa using hi
      · obtain ⟨e3, e4⟩ := y
        subst e3; subst e4
        have hi' : i < n := by simpa using hi
        refine ⟨.d (.int (i : Int)), ?_, Same.refl _, fun _ => ?_⟩
        · rw [List.getElem?_map, List.getElem?_range hi']; rfl
        · have : (0 : Int) + (i : Int) = (i : Int) := by omega
          rw [this]
          exact Dx.int _
      · show n ≤ i
        simpa using hi
/-- the pairs of two lists of data -/
def pairsD : List PyData → List PyData → List PyData
  | d :: ds, e :: es => .tuple [d, e] :: pairsD ds es
  | _, _ => []
theorem pairsD_get : ∀ {ds es : List PyData} {i : Nat} {d e : PyData}, ds[i]? = some d → es[i]? = some e → (pairsD ds es)[i]? = some (.tuple [d, e])
  | d :: ds, e :: es, 0, _, _, h1, h2 => by
    simp at h1 h2
    subst h1; subst h2
    rfl
  | d :: ds, e :: es, i + 1, _, _, h1, h2 => by
    simp only [List.getElem?_cons_succ] at h1 h2
    exact pairsD_get (ds := ds) (es := es) h1 h2
  | [], _, _, _, _, h1, _ => by simp at h1
  | _ :: _, [], _, _, _, _, h2 => by simp at h2
theorem pairsD_length : ∀ {ds es : List PyData}, (pairsD ds es).length = min ds.length es.length
  | [], es => by simp [pairsD]
  | d :: ds, [] => by simp [pairsD]
  | d :: ds, e :: es => by
    show (pairsD ds es).length + 1 = min (ds.length + 1) (es.length + 1)
    rw [pairsD_length]; omega
theorem ei_zipT {Pi : List A → T → Prop} (e : EvA C tx G s fun xs s1 => ∃ ds es, xs = [.d (.tuple ds), .d (.tuple es)] ∧ Pi ((pairsD ds es).map A.d) s1) : EvI C (iZipA C.K tx) G s Pi := fun h σ H z R k =>
  e h σ H z _ fun x s1 vs H1 ⟨ds, es, e1, p1⟩ k1 i1 r1 => by
    subst e1
    cases r1 with
    | cons r t =>
      cases t with
      | cons r2 t =>
        cases t
        cases r with
        | @tup a xs _ qa ra =>
          cases r2 with
          | @tup b ys _ qb rb =>
            have hlen : ((pairsD ds es).map A.d).length = min xs.length ys.length := by rw [List.length_map, pairsD_length, ra.length, rb.length]
            refine ⟨a, b, _, _, rfl, .inr ⟨sqT_mono hid_le qa, sqT_mono hid_le qb, k _ s1 _ H1 p1 k1 i1 ⟨fun hh i H2 e2 hi => ?_, fun hh i H2 v H3 e2 y hi => ?_, fun hh i H2 e2 hi => ?_⟩⟩⟩
            · rw [hlen] at hi
              exact ⟨xs, ys, xs[i]'(by omega), ys[i]'(by omega), sqT_mono (e2.trans hid_le) qa, sqT_mono (e2.trans hid_le) qb, by simp, by simp⟩
            · obtain ⟨Tp, x, y', rfl, hT, rfl, g1, g2⟩ := y
              have g1 := g1 _ (sqT_mono (e2.trans hid_le) qa)
              have g2 := g2 _ (sqT_mono (e2.trans hid_le) qb)
              obtain ⟨d, e3, r3⟩ := ra.get g1
              obtain ⟨d', e4, r4⟩ := rb.get g2
              refine ⟨.d (.tuple [d, d']), by rw [List.getElem?_map, pairsD_get e3 e4]; rfl, same_new hT, fun gd => ?_⟩
              have hTf : hh Tp = false := by
                cases q : hh Tp with
                | false => rfl
                | true => exact absurd hT (gd Tp q)
              exact Dx.tup (SqT.of (hid_of hTf upd_same)) ((DxAll.cons r3 (.cons r4 .nil)).mono (e2.trans (hid_new hT)))
            · rw [hlen] at hi
              exact ⟨xs, ys, sqT_mono (e2.trans hid_le) qa, sqT_mono (e2.trans hid_le) qb, by omega⟩
theorem ei_zipL {Pi : List A → T → Prop} (e : EvA C tx G s fun xs s1 => ∃ ds es, xs = [.d (.list ds), .d (.list es)] ∧ Pi ((pairsD ds es).map A.d) s1) : EvI C (iZipA C.K tx) G s Pi := fun h σ H z R k =>
  e h σ H z _ fun x s1 vs H1 ⟨ds, es, e1, p1⟩ k1 i1 r1 => by
    subst e1
    cases r1 with
    | cons r t =>
      cases t with
      | cons r2 t =>
        cases t
        cases r with
        | @lst a xs _ qa ra =>
          cases r2 with
          | @lst b ys _ qb rb =>
            have hlen : ((pairsD ds es).map A.d).length = min xs.length ys.length := by rw [List.length_map, pairsD_length, ra.length, rb.length]
            have sa : ∀ {hh : Hm} {H2 : Hp}, Same (hid h H1) (hid hh H2) → SqL C.K H2 a xs := fun e2 => SqL.of (hid_le _ _ (e2 _ _ qa))
            have sb : ∀ {hh : Hm} {H2 : Hp}, Same (hid h H1) (hid hh H2) → SqL C.K H2 b ys := fun e2 => SqL.of (hid_le _ _ (e2 _ _ qb))
            refine ⟨a, b, _, _, rfl, .inl ⟨sa (Same.refl _), sb (Same.refl _), k _ s1 _ H1 p1 k1 i1 ⟨fun hh i H2 e2 hi => ?_, fun hh i H2 v H3 e2 y hi => ?_, fun hh i H2 e2 hi => ?_⟩⟩⟩
            · rw [hlen] at hi
              exact ⟨xs, ys, xs[i]'(by omega), ys[i]'(by omega), sa e2, sb e2, by simp, by simp⟩
            · obtain ⟨Tp, x, y', rfl, hT, rfl, g1, g2⟩ := y
              have g1 := g1 _ (sa e2)
              have g2 := g2 _ (sb e2)
              obtain ⟨d, e3, r3⟩ := ra.get g1
              obtain ⟨d', e4, r4⟩ := rb.get g2
              refine ⟨.d (.tuple [d, d']), by rw [List.getElem?_map, pairsD_get e3 e4]; rfl, same_new hT, fun gd => ?_⟩
              have hTf : hh Tp = false := by
                cases q : hh Tp with
                | false => rfl
                | true => exact absurd hT (gd Tp q)
              exact Dx.tup (SqT.of (hid_of hTf upd_same)) ((DxAll.cons r3 (.cons r4 .nil)).mono (e2.trans (hid_new hT)))
            · rw [hlen] at hi
              exact ⟨xs, ys, sa e2, sb e2, by omega⟩
/-- a comprehension: J says what holds of the list so far and of the state -/
theorem ev_lc {wi : TI} {g : TG} {ts vs : List Nat} (hts : ∀ j ∈ ts, j ∈ vs)
    (e : EvI C wi G s fun xs s1 => xs.length ≤ 100000 ∧ ∃ J : Nat → List PyData → T → Prop, J 0 [] s1 ∧
      (∀ i x ds s', xs[i]? = some x → J i ds s' → EvG C g ts x (wipeG G vs) s' fun G2 => EvT C t G2 s' fun b s3 => if b = true then EvE C te G2 s3 fun y s4 => ∃ d, y = .d d ∧ J (i + 1) (ds ++ [d]) s4 else J (i + 1) ds s3) ∧
      ∀ ds s', J xs.length ds s' → P (.d (.list ds)) s') : EvE C (tLc wi g t te vs) G s P := fun h σ H z Q k =>
  e h σ H z _ fun xs s1 It H1 ⟨hlen, J, j0, turn, done⟩ k1 i1 wk => by
    intro D hD
    have z1 : Ok C h σ H1 G s1 := z.go k1 i1
    have hDf : h D = false := z1.z.fresh hD
    refine ⟨fun i m H2 => m = xs.length - i ∧ i ≤ xs.length ∧ ∃ (ds : List PyData) (s' : T) (acc : List V), J i ds s' ∧ ds.length ≤ i ∧ H2 D = some (.lst acc) ∧ DxAll C.K (hid (plus h D) H2) acc ds ∧ Kp C.m H1 H2 ∧ C.I (plus h D) s' H2 ∧ Same (hid h H1) (hid (plus h D) H2), ⟨xs.length, by simp, Nat.zero_le _, [], s1, [], j0, Nat.le_refl _, upd_same, .nil, Kp.same (same_new hD), ?_, hid_plus hD⟩, ?_⟩
    · exact C.mono i1 (hid_plus hD) fun b q => by
        have hb : b ≠ D := fun e => by
          rw [e] at q
          exact C.good i1 q hD
        rw [upd_ne hb]
    rintro i m H2 ⟨rfl, hi, ds, s', acc, hJ, hdl, hacc, hdx, hk, hI, hsame⟩
    have sub' : ∀ b, C.m b = true → (plus h D) b = true := fun b q => plus_sub (z.z.sub b q)
    have good' : Good (plus h D) H2 := fun b q => by
      by_cases nb : b = D
      · subst nb
        rw [hacc]; exact fun z => nomatch z
      · rw [plus_ne nb] at q
        exact hk.2 b (z1.z.good b q)
    have hDm : C.m D = false := by
      cases q : C.m D with
      | false => rfl
      | true => exact absurd hD (C.good i1 q)
    by_cases hlt : i < xs.length
    · refine .inr ⟨wk.go (plus h D) i H2 hsame hlt, fun H3 => i < xs.length ∧ ∃ (ds : List PyData) (s' : T) (acc : List V), J (i + 1) ds s' ∧ ds.length ≤ i + 1 ∧ H3 D = some (.lst acc) ∧ DxAll C.K (hid (plus h D) H3) acc ds ∧ Kp C.m H1 H3 ∧ C.I (plus h D) s' H3 ∧ Same (hid h H1) (hid (plus h D) H3), ?_, ?_⟩
      · rintro H3 ⟨_, q⟩
        exact ⟨xs.length - (i + 1), by omega, rfl, by omega, q⟩
      · intro v H3 y
        obtain ⟨x, ex, sm, rvx⟩ := wk.yld (plus h D) i H2 v H3 hsame y hlt
        have sm' : Same (hid (plus h D) H2) (hid (plus h D) H3) := hid_mono fun b o n q => ⟨n, sm b o q⟩
        have z3 : O0 C (plus h D) H3 s' := ⟨sub', good'.kp (Kp.same (m := C.m) sm), (O0.same ⟨sub', good', hI⟩ sm)⟩
        refine turn i x ds s' ex hJ (plus h D) (wipe σ vs) H3 v ⟨z3, (z1.sl.wipe vs).mono (hsame.trans sm')⟩ (rvx good') _ fun G2 σ2 pT sl2 hw => ⟨?_, ?_⟩
        · rw [hw vs hts, wipe_wipe]
        · refine pT (plus h D) σ2 H3 ⟨z3, sl2⟩ _ fun b s3 H4 p4 k4 i4 => ?_
          have z4 : Ok C (plus h D) σ2 H4 G2 s3 := Ok.go ⟨z3, sl2⟩ k4 i4
          have hacc4 : H4 D = some (.lst acc) := k4.1 D _ hDm (sm D _ hacc)
          have e4 : Same (hid (plus h D) H2) (hid (plus h D) H4) := sm'.trans (k4.sub sub')
          cases b with
          | false =>
            rw [if_neg Bool.false_ne_true] at p4 ⊢
            exact ⟨hlt, ds, s3, acc, p4, by omega, hacc4, hdx.mono e4, (hk.trans (Kp.same sm)).trans k4, i4, hsame.trans e4⟩
          | true =>
            rw [if_pos rfl] at p4 ⊢
            refine p4 (plus h D) σ2 H4 z4 _ fun y s4 w H5 ⟨d, ey, p5⟩ k5 i5 r5 => ?_
            subst ey
            have hacc5 : H5 D = some (.lst acc) := k5.1 D _ hDm hacc4
            have e5 : Same (hid (plus h D) H2) (hid (plus h D) H5) := e4.trans (k5.sub sub')
            have eD : Same (hid (plus h D) H5) (hid (plus h D) (upd H5 D (.lst (acc ++ [w])))) := hid_mono fun b o n q => by
              refine ⟨n, ?_⟩
              have nb : b ≠ D := fun e => by
                rw [e, plus_self] at n
                cases n
              rw [upd_ne nb]
              exact q
            refine ⟨acc, hacc5, ?_, hlt, ds ++ [d], s4, acc ++ [w], p5, by simp; omega, upd_same, ((hdx.mono e5).append (DxAll.one r5)).mono eD, ?_, ?_, (hsame.trans e5).trans eD⟩
            · rw [hdx.length]
              exact Nat.lt_of_le_of_lt (Nat.le_trans hdl (Nat.le_trans hi hlen)) (by decide)
            · have kk := ((hk.trans (Kp.same sm)).trans k4).trans k5
              refine ⟨fun b o n q => ?_, fun b q => ?_⟩
              · rw [upd_ne (ne_of_none q hD)]
                exact kk.1 b o n q
              · by_cases nb : b = D
                · subst nb; exact absurd hD q
                · rw [upd_ne nb]; exact kk.2 b q
            · refine C.mono i5 eD fun b q => ?_
              have nb : b ≠ D := fun e => by rw [e, hDm] at q; cases q
              rw [upd_ne nb]
    · have e : i = xs.length := by omega
      subst e
      refine .inl ⟨wk.stop (plus h D) _ H2 hsame (Nat.le_refl _), ?_⟩
      refine k _ s' _ H2 (done ds s' hJ) (k1.trans hk) (C.mono hI hid_minus fun _ _ => rfl) ?_
      exact Dx.lst (hid_of hDf hacc) (hdx.mono hid_minus)
end
end Cl

set_option Elab.async false
set_option linter.all false
set_option maxRecDepth 100000
set_option maxHeartbeats 2000000
namespace Cl
open PySem L2 RZ
/-! ### statements -/
structure Ed (T : Type) where
  nx : Gm → T → Prop
  rt : A → T → Prop
  bk : Gm → T → Prop := fun _ _ => False
  ct : Gm → T → Prop := fun _ _ => False
structure Wn {T : Type} (C : Cc T) (h : Hm) (H : Hp) (E : Ed T) (D : Ends) : Prop where
  nx : ∀ G' s' σ' H', E.nx G' s' → Kp C.m H H' → Ok C h σ' H' G' s' → D.nx σ' H'
  rt : ∀ x s' v H', E.rt x s' → Kp C.m H H' → C.I h s' H' → Rv C.K h H' v x → D.rt v H'
  bk : ∀ G' s' σ' H', E.bk G' s' → Kp C.m H H' → Ok C h σ' H' G' s' → D.bk σ' H'
  ct : ∀ G' s' σ' H', E.ct G' s' → Kp C.m H H' → Ok C h σ' H' G' s' → D.ct σ' H'
def SM {T : Type} (C : Cc T) (t : TS) (G : Gm) (s : T) (E : Ed T) : Prop := ∀ (h : Hm) (σ : St) (H : Hp), Ok C h σ H G s → ∀ D : Ends, Wn C h H E D → t D σ H
section
variable {T : Type} {C : Cc T} {G : Gm} {s : T} {E : Ed T} {te : TE} {tt : TT} {t u : TS}
theorem Wn.after {h : Hm} {H H1 : Hp} {D : Ends} (w : Wn C h H E D) (k : Kp C.m H H1) : Wn C h H1 E D :=
  ⟨fun G' s' σ' H' e k' z => w.nx G' s' σ' H' e (k.trans k') z, fun x s' v H' e k' i r => w.rt x s' v H' e (k.trans k') i r, fun G' s' σ' H' e k' z => w.bk G' s' σ' H' e (k.trans k') z, fun G' s' σ' H' e k' z => w.ct G' s' σ' H' e (k.trans k') z⟩
theorem sm_next (e : E.nx G s) : SM C tNext G s E := fun h σ H z D w => w.nx G s σ H e Kp.refl z
theorem sm_seq (e : SM C t G s { E with nx := fun G' s' => SM C u G' s' E }) : SM C (tSeq t u) G s E := fun h σ H z D w =>
  e h σ H z _ ⟨fun G' s' σ' H' q k z' => q h σ' H' z' D (w.after k), w.rt, w.bk, w.ct⟩
theorem sm_asg {i : Nat} (e : EvE C te G s fun x s' => E.nx (G.set i (some x)) s') : SM C (tAsg te (gName i)) G s E := fun h σ H z D w =>
  e h σ H z _ fun x s1 v H1 p1 k1 i1 r1 => w.nx _ s1 _ H1 p1 k1 ⟨(z.go k1 i1).z, ((z.go k1 i1).sl).set i r1⟩
/-- any target that stores names -/
theorem sm_asgG {g : TG} {ts : List Nat} (e : EvE C te G s fun x s' => EvG C g ts x G s' fun G2 => E.nx G2 s') : SM C (tAsg te g) G s E := fun h σ H z D w =>
  e h σ H z _ fun x s1 v H1 p1 k1 i1 r1 => p1 h σ H1 v (z.go k1 i1) r1 _ fun G2 σ2 p2 sl2 _ => w.nx G2 s1 σ2 H1 p2 k1 ⟨(z.go k1 i1).z, sl2⟩
theorem sm_par {i j : Nat} {ta : TA} (e : EvA C ta G s fun xs s' => ∃ x y, xs = [x, y] ∧ E.nx ((G.set i (some x)).set j (some y)) s') : SM C (tPar i j ta) G s E := fun h σ H z D w =>
  e h σ H z _ fun xs s1 vs H1 ⟨x, y, e1, p1⟩ k1 i1 r1 => by
    subst e1
    cases r1 with
    | cons r1 t1 =>
      cases t1 with
      | cons r2 t2 =>
        cases t2
        exact ⟨_, _, rfl, w.nx _ s1 _ H1 p1 k1 ⟨(z.go k1 i1).z, (((z.go k1 i1).sl).set i r1).set j r2⟩⟩
theorem sm_if (e : EvT C tt G s fun b s' => if b = true then SM C t G s' E else SM C u G s' E) : SM C (tIfS tt t u) G s E := fun h σ H z D w =>
  e h σ H z _ fun b s1 H1 p1 k1 i1 => by
    cases b with
    | true =>
      rw [if_pos rfl] at p1 ⊢
      exact p1 h σ H1 (z.go k1 i1) D (w.after k1)
    | false =>
      rw [if_neg Bool.false_ne_true] at p1 ⊢
      exact p1 h σ H1 (z.go k1 i1) D (w.after k1)
theorem sm_ret (e : EvE C te G s E.rt) : SM C (tRet te) G s E := fun h σ H z D w => e h σ H z _ fun x s1 v H1 p1 k1 i1 r1 => w.rt x s1 v H1 p1 k1 i1 r1
theorem sm_retN (e : E.rt (.d .none) s) : SM C tRetN G s E := fun h σ H z D w => w.rt _ s _ H e Kp.refl z.z.inv Dx.non
theorem sm_drop (e : EvE C te G s fun _ s' => E.nx G s') : SM C (tDrop te) G s E := fun h σ H z D w => e h σ H z _ fun x s1 v H1 p1 k1 i1 r1 => w.nx G s1 σ H1 p1 k1 (z.go k1 i1)
theorem sm_brk (e : E.bk G s) : SM C tBreak G s E := fun h σ H z D w => w.bk G s σ H e Kp.refl z
theorem sm_cont (e : E.ct G s) : SM C tCont G s E := fun h σ H z D w => w.ct G s σ H e Kp.refl z
theorem SM.imp {E' : Ed T} (h : SM C t G s E') (n : ∀ G s, E'.nx G s → E.nx G s) (r : ∀ x s, E'.rt x s → E.rt x s) (b : ∀ G s, E'.bk G s → E.bk G s) (c : ∀ G s, E'.ct G s → E.ct G s) : SM C t G s E := fun hh σ H z D w =>
  h hh σ H z D ⟨fun G' s' σ' H' e => w.nx G' s' σ' H' (n _ _ e), fun x s' v H' e => w.rt x s' v H' (r _ _ e), fun G' s' σ' H' e => w.bk G' s' σ' H' (b _ _ e), fun G' s' σ' H' e => w.ct G' s' σ' H' (c _ _ e)⟩
/-- a for loop: J says what holds between two turns -/
theorem sm_for {wi : TI} {g : TG} {ts : List Nat} (e : EvI C wi G s fun xs s1 => ∃ J : Nat → Gm → T → Prop, J 0 G s1 ∧
      (∀ i x G' s', xs[i]? = some x → J i G' s' → EvG C g ts x G' s' fun G2 => SM C t G2 s' { E with nx := J (i + 1), ct := J (i + 1), bk := E.nx }) ∧
      ∀ G' s', J xs.length G' s' → E.nx G' s') : SM C (tFor wi g t) G s E := fun h σ H z D w =>
  e h σ H z _ fun xs s1 It H1 ⟨J, j0, turn, done⟩ k1 i1 wk => by
    have z1 : Ok C h σ H1 G s1 := z.go k1 i1
    refine ⟨fun i m σ2 H2 => m = xs.length - i ∧ i ≤ xs.length ∧ ∃ G' s', J i G' s' ∧ Kp C.m H1 H2 ∧ Ok C h σ2 H2 G' s', ⟨xs.length, by simp, Nat.zero_le _, G, s1, j0, Kp.refl, z1⟩, ?_⟩
    rintro i m σ2 H2 ⟨rfl, hi, G', s', hJ, hk, ok⟩
    have hs := hk.sub z.z.sub
    by_cases hlt : i < xs.length
    · refine .inr ⟨wk.go h i H2 hs hlt, fun σ3 H3 => ∃ G' s', J (i + 1) G' s' ∧ Kp C.m H1 H3 ∧ Ok C h σ3 H3 G' s', ?_, ?_⟩
      · rintro σ3 H3 q
        exact ⟨xs.length - (i + 1), by omega, rfl, by omega, q⟩
      · intro v H3 y
        obtain ⟨x, ex, sm, rvx⟩ := wk.yld h i H2 v H3 hs y hlt
        have ok3 : Ok C h σ2 H3 G' s' := ok.go (Kp.same sm) (ok.z.same sm)
        refine turn i x G' s' ex hJ h σ2 H3 v ok3 (rvx ok.z.good) _ fun G2 σ3 pT sl3 _ => ?_
        have k3 : Kp C.m H1 H3 := hk.trans (Kp.same sm)
        refine pT h σ3 H3 ⟨ok3.z, sl3⟩ _ ⟨fun G4 s4 σ4 H4 q k z' => ⟨G4, s4, q, k3.trans k, z'⟩, fun x s4 v H4 q k i4 r => w.rt x s4 v H4 q ((k1.trans k3).trans k) i4 r,
          fun G4 s4 σ4 H4 q k z' => w.nx G4 s4 σ4 H4 q ((k1.trans k3).trans k) z', fun G4 s4 σ4 H4 q k z' => ⟨G4, s4, q, k3.trans k, z'⟩⟩
    · have e : i = xs.length := by omega
      subst e
      exact .inl ⟨wk.stop h _ H2 hs (Nat.le_refl _), w.nx G' s' σ2 H2 (done G' s' hJ) (k1.trans hk) ok⟩
end

/-! ### a def without effects: a partial function of data -/
abbrev frzC (K : PySem.W.Frag) (m : Hm) (H0 : Hp) : Cc Unit where
  K := K
  m := m
  I := fun _ _ H => Good m H0 ∧ ∀ b, m b = true → H b = H0 b
  good := fun i q => by rw [i.2 _ q]; exact i.1 _ q
  mono := fun i _ e => ⟨i.1, fun b q => (e b q).trans (i.2 b q)⟩
def spP (K : PySem.W.Frag) (R : List PyData → PyData → Prop) : Sp := fun vs H Q _ => ∃ (m : Hm) (ds : List PyData) (d : PyData), Good m H ∧ DxAll K (hid m H) vs ds ∧ R ds d ∧ ∀ r H', Same H H' → Dx K (hid m H') r d → Q r H'
/-- the slots at a def's entry -/
def startG (n : Nat) (xs : List A) : Gm := xs.map some ++ List.replicate (n - xs.length) none
theorem sl_start {K : PySem.W.Frag} {h : Hm} {H : Hp} {N : List Str} : ∀ {vs : List V} {xs : List A}, Rvs K h H vs xs → Sl K h H (start N vs) (startG N.length xs) := fun {vs xs} r => by
  have hl : ∀ {vs : List V} {xs : List A}, Rvs K h H vs xs → vs.length = xs.length := fun {vs xs} r => by
    induction r with
    | nil => rfl
    | cons _ _ ih => simp [ih]
  have hg : ∀ {vs : List V} {xs : List A} {i : Nat} {x : A}, Rvs K h H vs xs → xs[i]? = some x → ∃ v, vs[i]? = some v ∧ Rv K h H v x := fun {vs xs i x} r => by
    induction r generalizing i with
    | nil => intro e; simp at e
    | cons a _ ih =>
      intro e
      cases i with
      | zero => simp at e; subst e; exact ⟨_, rfl, a⟩
      | succ i => simp only [List.getElem?_cons_succ] at e ⊢; exact ih e
  have hlen := hl r
  refine ⟨by simp [L2.start, startG, hlen], fun i x q => ?_⟩
  unfold startG at q
  by_cases hi : i < xs.length
  · rw [List.getElem?_append_left (by simpa using hi), List.getElem?_map] at q
    cases e : xs[i]? with
    | none => rw [e] at q; cases q
    | some y =>
      rw [e] at q
      cases q
      obtain ⟨v, e1, e2⟩ := hg r e
      refine ⟨v, ?_, e2⟩
      unfold L2.start
      rw [List.getElem?_append_left (by simp [hlen]; exact hi), List.getElem?_map, e1]
      rfl
  · rw [List.getElem?_append_right (by simpa using hi)] at q
    rw [List.getElem?_replicate] at q
    split at q <;> cases q
theorem rvs_of {K : PySem.W.Frag} {h : Hm} {H : Hp} : ∀ {vs : List V} {ds : List PyData}, DxAll K (hid h H) vs ds → Rvs K h H vs (ds.map A.d)
  | _, _, .nil => .nil
  | _, _, .cons x y => .cons x (rvs_of y)
theorem pure_body {K : PySem.W.Frag} {R : List PyData → PyData → Prop} {N : List Str} {t : TS} {vs : List V} {H : Hp} {Q : VK} {E : XK} (hsp : spP K R vs H Q E)
    (hb : ∀ (m : Hm) (ds : List PyData) (d : PyData), ds.length = vs.length → R ds d → SM (frzC K m H) t (startG N.length (ds.map A.d)) () ⟨fun _ _ => d = .none, fun x _ => x = .d d, fun _ _ => False, fun _ _ => False⟩) :
    t { nx := fun _ H' => Q .non H', rt := Q } (start N vs) H := by
  obtain ⟨m, ds, d, g, hd, hf, q⟩ := hsp
  have sm : ∀ {H' : Hp}, Kp m H H' → (∀ b, m b = true → H' b = H b) → Same H H' := fun {H'} k e b o r => by
    cases hm : m b with
    | true => rw [e b hm]; exact r
    | false => exact k.1 b o hm r
  refine hb m ds d hd.length.symm hf m (start N vs) H ⟨⟨fun _ z => z, g, ⟨g, fun _ _ => rfl⟩⟩, sl_start (rvs_of hd)⟩ _ ⟨fun G' s' σ' H' e k z => ?_, fun x s' v H' e k i r => ?_, fun _ _ _ _ e => e.elim, fun _ _ _ _ e => e.elim⟩
  · subst e
    exact q _ _ (sm k z.z.inv.2) Dx.non
  · subst e
    exact q _ _ (sm k i.2) r
theorem spP_len {K : PySem.W.Frag} {R : List PyData → PyData → Prop} {n : Nat} (hf : ∀ ds d, R ds d → ds.length = n) : ∀ vs H Q E, spP K R vs H Q E → vs.length = n := fun vs H Q E ⟨m, ds, d, g, hd, e, _⟩ => by rw [hd.length]; exact hf ds d e
section
variable {T : Type} {C : Cc T} {s : T} {P : A → T → Prop}
theorem rc_pure {R : List PyData → PyData → Prop} {E : XK} {xs : List A} {ds : List PyData} {d : PyData} (e1 : allD xs = some ds) (e2 : R ds d) (p : P (.d d) s) : RC C (fun vs H Q => spP C.K R (vs ++ []) H Q E) xs s P := fun h H vs z a Q k => by
  show spP C.K R (vs ++ []) H Q E
  rw [List.append_nil]
  exact ⟨h, ds, d, z.good, a.data e1, e2, fun r H' sm hr => k _ s _ H' p (Kp.same sm) (z.same sm) hr⟩
end

/-! ### the source of draws -/
def SrcOk (H : Hp) (a l : Addr) : Prop := ∃ (ns : List Int) (p : Nat) (r x : Int), H a = some (.lst [.ref l, .int p, .int r, .int x]) ∧ H l = some (.lst (ns.map V.int)) ∧ p ≤ ns.length ∧ ns.length ≤ 63 ∧ 0 ≤ r ∧ 0 ≤ x ∧ x < 2147483563
/-- the rest of the hidden things stands still -/
abbrev srcC (K : PySem.W.Frag) (m : Hm) (a l : Addr) (H0 : Hp) : Cc Unit where
  K := K
  m := m
  I := fun _ _ H => Good m H0 ∧ SrcOk H a l ∧ m a = true ∧ m l = true ∧ ∀ b, m b = true → b ≠ a → H b = H0 b
  good := fun {h s H b} i q => by
    by_cases e : b = a
    · subst e
      obtain ⟨_, ⟨_, _, _, _, e, _⟩, _⟩ := i
      rw [e]; exact fun z => nomatch z
    · rw [i.2.2.2.2 b q e]; exact i.1 b q
  mono := fun {h h' s H H'} i _ e => by
    obtain ⟨g, ⟨ns, p, r, x, e1, e2, q⟩, ma, ml, fr⟩ := i
    exact ⟨g, ⟨ns, p, r, x, (e a ma).trans e1, (e l ml).trans e2, q⟩, ma, ml, fun b qb nb => (e b qb).trans (fr b qb nb)⟩
/-- a def whose first argument is the source: R relates the data and the result -/
def spS (K : PySem.W.Frag) (pre : List PyData → Prop) (R : List PyData → PyData → Prop) : Sp := fun vs H Q _ => ∃ (a l : Addr) (ws : List V) (m : Hm) (ds : List PyData),
  vs = .ref a :: ws ∧ m a = true ∧ m l = true ∧ Good m H ∧ SrcOk H a l ∧ DxAll K (hid m H) ws ds ∧ pre ds ∧
  ∀ d r H', R ds d → (∀ b o, b ≠ a → H b = some o → H' b = some o) → SrcOk H' a l → Dx K (hid m H') r d → Q r H'
theorem spS_len {K : PySem.W.Frag} {pre : List PyData → Prop} {R : List PyData → PyData → Prop} {n : Nat} (hf : ∀ ds, pre ds → ds.length = n) : ∀ vs H Q E, spS K pre R vs H Q E → vs.length = n + 1 := by
  rintro vs H Q E ⟨a, l, ws, m, ds, rfl, _, _, _, _, hd, hp, _⟩
  rw [List.length_cons, hd.length, hf ds hp]
/-- a context that holds the source -/
structure HasSrc {T : Type} (C : Cc T) (a l : Addr) : Prop where
  ma : C.m a = true
  ml : C.m l = true
  at_ : ∀ {h : Hm} {s : T} {H : Hp}, C.I h s H → SrcOk H a l
  put : ∀ {h : Hm} {s : T} {H H' : Hp}, C.I h s H → Good h H → (∀ b, C.m b = true → h b = true) → (∀ b o, b ≠ a → H b = some o → H' b = some o) → SrcOk H' a l → C.I h s H'
theorem hasSrc (K : PySem.W.Frag) (m : Hm) (a l : Addr) (H0 : Hp) {h : Hm} {H : Hp} (i : (srcC K m a l H0).I h () H) : HasSrc (srcC K m a l H0) a l where
  ma := i.2.2.1
  ml := i.2.2.2.1
  at_ := fun i => i.2.1
  put := fun {h s H H'} i g sb e so => ⟨i.1, so, i.2.2.1, i.2.2.2.1, fun b qb nb => by
    have e1 := i.2.2.2.2 b qb nb
    cases e2 : H b with
    | none => exact absurd e2 (g b (sb b qb))
    | some o => rw [e b o nb e2, ← e1, e2]⟩
theorem src_body {K : PySem.W.Frag} {pre : List PyData → Prop} {R : List PyData → PyData → Prop} {N : List Str} {t : TS} {vs : List V} {H : Hp} {Q : VK} {E : XK} (hsp : spS K pre R vs H Q E)
    (hb : ∀ (m : Hm) (a l : Addr) (ds : List PyData), HasSrc (srcC K m a l H) a l → ds.length + 1 = vs.length → pre ds → SM (srcC K m a l H) t (startG N.length (.o a :: ds.map A.d)) () ⟨fun _ _ => R ds .none, fun x _ => ∃ d, x = .d d ∧ R ds d, fun _ _ => False, fun _ _ => False⟩) :
    t { nx := fun _ H' => Q .non H', rt := Q } (start N vs) H := by
  obtain ⟨a, l, ws, m, ds, rfl, ma, ml, g, so, hd, hp, q⟩ := hsp
  have sm : ∀ {H' : Hp}, Kp m H H' → (∀ b, m b = true → b ≠ a → H' b = H b) → ∀ b o, b ≠ a → H b = some o → H' b = some o := fun {H'} k e b o nb r => by
    cases hm : m b with
    | true => rw [e b hm nb]; exact r
    | false => exact k.1 b o hm r
  have z0 : O0 (srcC K m a l H) m H () := ⟨fun _ z => z, g, ⟨g, so, ma, ml, fun _ _ _ => rfl⟩⟩
  refine hb m a l ds (hasSrc K m a l H z0.inv) (by rw [List.length_cons, hd.length]) hp m (start N (.ref a :: ws)) H ⟨z0, sl_start (.cons rfl (rvs_of hd))⟩ _ ⟨fun G' s' σ' H' e k z => ?_, fun x s' v H' e k i r => ?_, fun _ _ _ _ e => e.elim, fun _ _ _ _ e => e.elim⟩
  · exact q _ _ _ e (sm k z.z.inv.2.2.2.2) z.z.inv.2.1 Dx.non
  · obtain ⟨d, rfl, hR⟩ := e
    exact q _ _ _ hR (sm k i.2.2.2.2) i.2.1 r
section
variable {T : Type} {C : Cc T} {s : T} {P : A → T → Prop}
theorem rc_src {pre : List PyData → Prop} {R : List PyData → PyData → Prop} {E : XK} {a l : Addr} {xs : List A} {ds : List PyData} (hs : HasSrc C a l) (e1 : allD xs = some ds) (e2 : pre ds) (p : ∀ d, R ds d → P (.d d) s) :
    RC C (fun vs H Q => spS C.K pre R (vs ++ []) H Q E) (.o a :: xs) s P := fun h H vs z av Q k => by
  show spS C.K pre R (vs ++ []) H Q E
  rw [List.append_nil]
  cases av with
  | cons r t =>
    cases r
    have hna : ∀ {H' : Hp}, SrcOk H' a l → H' a ≠ none := fun {H'} so => by
      obtain ⟨_, _, _, _, e, _⟩ := so
      rw [e]; exact fun z => nomatch z
    refine ⟨a, l, _, h, ds, rfl, z.sub _ hs.ma, z.sub _ hs.ml, z.good, hs.at_ z.inv, t.data e1, e2, fun d r H' hR e so hr => ?_⟩
    refine k _ s _ H' (p d hR) ⟨fun b o n q => e b o (fun eq => by rw [eq, hs.ma] at n; cases n) q, fun b q => ?_⟩ (hs.put z.inv z.good z.sub e so) hr
    by_cases eb : b = a
    · subst eb; exact hna so
    · cases r : H b with
      | none => exact absurd r q
      | some o => rw [e b o eb r]; exact fun z => nomatch z
end
end Cl

set_option Elab.async false
set_option linter.all false
set_option maxRecDepth 100000
set_option maxHeartbeats 2000000
namespace Cl
open PySem L2 RZ
/-! ### lists of one's own, while they change -/
abbrev ownC {T : Type} (C : Cc T) (l : Addr) : Cc (T × List PyData) where
  K := C.K
  m := plus C.m l
  I := fun h s H => C.I h s.1 H ∧ ∃ xs, H l = some (.lst xs) ∧ DxAll C.K (hid h H) xs s.2
  good := fun {h s H b} i q => by
    obtain ⟨i, xs, e, _⟩ := i
    by_cases nb : b = l
    · subst nb; rw [e]; exact fun z => nomatch z
    · rw [plus_ne nb] at q; exact C.good i q
  mono := fun {h h' s H H'} i sm e => by
    obtain ⟨i, xs, e1, dx⟩ := i
    exact ⟨C.mono i sm fun b q => e b (plus_sub q), xs, (e l plus_self).trans e1, dx.mono sm⟩
structure HasLst {T : Type} (C : Cc T) (l : Addr) (get : T → List PyData) (set : List PyData → T → T) : Prop where
  ml : C.m l = true
  at_ : ∀ {h : Hm} {s : T} {H : Hp}, C.I h s H → ∃ xs, H l = some (.lst xs) ∧ DxAll C.K (hid h H) xs (get s)
  put : ∀ {h : Hm} {s : T} {H : Hp} {ys : List V} {es : List PyData}, C.I h s H → h l = true → DxAll C.K (hid h H) ys es → C.I h (set es s) (upd H l (.lst ys))
theorem hid_at {h : Hm} {H : Hp} {l : Addr} {o : HO} (hl : h l = true) : Same (hid h H) (hid h (upd H l o)) := hid_mono fun b u n q => by
  refine ⟨n, ?_⟩
  rw [upd_ne]
  · exact q
  · intro e; rw [e, hl] at n; cases n
section
variable {T : Type} {C : Cc T} {l l' a b : Addr} {get : T → List PyData} {set : List PyData → T → T}
theorem hasOwn (nm : C.m l = false) : HasLst (ownC C l) l (fun s => s.2) (fun es s => (s.1, es)) where
  ml := plus_self
  at_ := fun i => i.2
  put := fun {h s H ys es} i hl dx => by
    refine ⟨C.mono i.1 (hid_at hl) fun b q => ?_, ys, upd_same, dx.mono (hid_at hl)⟩
    rw [upd_ne]
    intro e; rw [e, nm] at q; cases q
theorem HasLst.lift (x : HasLst C l get set) (nm : C.m l' = false) : HasLst (ownC C l') l (fun s => get s.1) (fun es s => (set es s.1, s.2)) where
  ml := plus_sub x.ml
  at_ := fun i => x.at_ i.1
  put := fun {h s H ys es} i hl dx => by
    have ne : l' ≠ l := fun e => by rw [e, x.ml] at nm; cases nm
    obtain ⟨i, xs, e, dx'⟩ := i
    exact ⟨x.put i hl dx, xs, by rw [upd_ne ne]; exact e, dx'.mono (hid_at hl)⟩
theorem HasSrc.lift (x : HasSrc C a b) (nm : C.m l' = false) : HasSrc (ownC C l') a b where
  ma := plus_sub x.ma
  ml := plus_sub x.ml
  at_ := fun i => x.at_ i.1
  put := fun {h s H H'} i g sb e so => by
    obtain ⟨i, xs, e1, dx⟩ := i
    have ne : l' ≠ a := fun e => by rw [e, x.ma] at nm; cases nm
    have sa : h a = true := sb a (plus_sub x.ma)
    refine ⟨x.put i g (fun b q => sb b (plus_sub q)) e so, xs, e _ _ ne e1, dx.mono (hid_mono fun b o n q => ⟨n, e b o (fun eb => by rw [eb, sa] at n; cases n) q⟩)⟩
/-- what was the list l of one's own is data again -/
def frzA (l : Addr) (ds : List PyData) : A → A
  | .o b => if b = l then .d (.list ds) else .o b
  | .d x => .d x
def frzG (l : Addr) (ds : List PyData) (G : Gm) : Gm := G.map fun o => o.map (frzA l ds)
theorem rv_frz {K : PySem.W.Frag} {h : Hm} {H : Hp} {l : Addr} {ds : List PyData} {xs : List V} {v : V} (hl : h l = false) (e : H l = some (.lst xs)) (dx : DxAll K (hid (plus h l) H) xs ds) : ∀ {x : A}, Rv K (plus h l) H v x → Rv K h H v (frzA l ds x)
  | .d x, r => Dx.mono hid_minus r
  | .o b, r => by
    show Rv K h H v (if b = l then .d (.list ds) else .o b)
    by_cases eb : b = l
    · subst eb
      rw [if_pos rfl]
      cases r
      exact Dx.lst (hid_of hl e) (dx.mono hid_minus)
    · rw [if_neg eb]
      exact r
theorem sl_frz {K : PySem.W.Frag} {h : Hm} {H : Hp} {l : Addr} {ds : List PyData} {xs : List V} {σ : St} {G : Gm} (hl : h l = false) (e : H l = some (.lst xs)) (dx : DxAll K (hid (plus h l) H) xs ds) (s : Sl K (plus h l) H σ G) : Sl K h H σ (frzG l ds G) := by
  refine ⟨by rw [s.len, frzG, List.length_map], fun i x q => ?_⟩
  rw [frzG, List.getElem?_map] at q
  cases e1 : G[i]? with
  | none => rw [e1] at q; cases q
  | some o =>
    rw [e1] at q
    cases o with
    | none => cases q
    | some y =>
      cases q
      obtain ⟨v, e2, r⟩ := s.at_ i y e1
      exact ⟨v, e2, rv_frz hl e dx r⟩
/-- x = [] and what follows, while the list changes; behind it, it is data -/
theorem sm_own {s : T} {G : Gm} {E : Ed T} {t : TS} {i : Nat}
    (e : ∀ l, C.m l = false → SM (ownC C l) t (G.set i (some (.o l))) (s, []) ⟨fun G' p => E.nx (frzG l p.2 G') p.1, fun x p => E.rt (frzA l p.2 x) p.1, fun G' p => E.bk (frzG l p.2 G') p.1, fun G' p => E.ct (frzG l p.2 G') p.1⟩) :
    SM C (tSeq (tAsg (tLst tNil) (gName i)) t) G s E := fun h σ H z D w => by
  refine ⟨Nat.zero_le _, fun l hl => ?_⟩
  have nm : C.m l = false := by
    cases q : C.m l with
    | false => rfl
    | true => exact absurd hl (C.good z.z.inv q)
  have hlf : h l = false := z.z.fresh hl
  have kk : ∀ {H' : Hp}, Kp (plus C.m l) (upd H l (.lst [])) H' → Kp C.m H H' := fun {H'} k => by
    refine ⟨fun b o n q => k.1 b o ?_ ?_, fun b q => k.2 b ?_⟩
    · rw [plus_ne (ne_of_none q hl)]; exact n
    · rw [upd_ne (ne_of_none q hl)]; exact q
    · by_cases eb : b = l
      · subst eb; exact absurd hl q
      · rw [upd_ne eb]; exact q
  have okk : ∀ {G' : Gm} {p : T × List PyData} {σ' : St} {H' : Hp}, Kp (plus C.m l) (upd H l (.lst [])) H' → Ok (ownC C l) (plus h l) σ' H' G' p → Ok C h σ' H' (frzG l p.2 G') p.1 := fun {G' p σ' H'} k z' => by
    obtain ⟨⟨sb, gd, i', xs, e1, dx⟩, sl⟩ := z'
    exact ⟨⟨z.z.sub, fun b q => gd b (plus_sub q), C.mono i' hid_minus fun _ _ => rfl⟩, sl_frz hlf e1 dx sl⟩
  refine e l nm (plus h l) _ _ ⟨⟨fun b q => ?_, (fun b q => ?_), ?_, [], upd_same, .nil⟩, ((z.sl.mono (hid_plus hl)).set (x := .o l) i rfl)⟩ _ ⟨fun G' p σ' H' q k z' => w.nx _ _ _ _ q (kk k) (okk k z'), fun x p v H' q k i' r => ?_, fun G' p σ' H' q k z' => w.bk _ _ _ _ q (kk k) (okk k z'), fun G' p σ' H' q k z' => w.ct _ _ _ _ q (kk k) (okk k z')⟩
  · by_cases eb : b = l
    · subst eb; exact plus_self
    · have q : plus C.m l b = true := q
      rw [plus_ne eb] at q; exact plus_sub (z.z.sub b q)
  · by_cases eb : b = l
    · subst eb; rw [upd_same]; exact fun z => nomatch z
    · rw [plus_ne eb] at q; rw [upd_ne eb]; exact z.z.good b q
  · refine C.mono z.z.inv (hid_plus hl) fun b q => ?_
    rw [upd_ne]
    intro eb; rw [eb, nm] at q; cases q
  · obtain ⟨i', xs, e1, dx⟩ := i'
    exact w.rt _ _ _ _ q (kk k) (C.mono i' hid_minus fun _ _ => rfl) (rv_frz hlf e1 dx r)
theorem sm_assoc {s : T} {G : Gm} {E : Ed T} {t u v : TS} (e : SM C (tSeq (tSeq t u) v) G s E) : SM C (tSeq t (tSeq u v)) G s E := e
/-- l.append(e) -/
theorem sm_app {s : T} {G : Gm} {E : Ed T} {te : TE} {i : Nat} (hL : HasLst C l get set) (hi : G[i]? = some (some (.o l)))
    (e : EvE C te G s fun x s' => ∃ d, x = .d d ∧ (get s').length < 90000 ∧ E.nx G (set (get s' ++ [d]) s')) : SM C (tDrop (tBM C.K "list" rAppend (tVar i) (tCons te tNil))) G s E := fun h σ H z D w => by
  obtain ⟨v, e1, r1⟩ := z.sl.at_ i _ hi
  cases r1
  obtain ⟨xs0, e0, _⟩ := hL.at_ z.z.inv
  refine ⟨_, e1, .inl ⟨rfl, xs0, SqL.of e0⟩, e h σ H z _ fun x s1 v H1 ⟨d, ex, hz, p1⟩ k1 i1 r1 => ?_⟩
  subst ex
  obtain ⟨xs, e2, dx⟩ := hL.at_ i1
  have hl : h l = true := z.z.sub l hL.ml
  have z1 := z.go k1 i1
  refine ⟨l, xs, v, rfl, rfl, e2, ?_, ?_⟩
  · rw [dx.length]; exact Nat.lt_trans hz (by decide)
  · refine w.nx _ _ _ _ p1 (k1.trans ?_) ⟨⟨z.z.sub, ?_, hL.put i1 hl (dx.append (DxAll.one r1))⟩, z1.sl.mono (hid_at hl)⟩
    · refine ⟨fun b o n q => ?_, fun b q => ?_⟩
      · rw [upd_ne]
        · exact q
        · intro eb; rw [eb, hL.ml] at n; cases n
      · by_cases eb : b = l
        · subst eb; rw [upd_same]; exact fun z => nomatch z
        · rw [upd_ne eb]; exact q
    · intro b q
      by_cases eb : b = l
      · subst eb; rw [upd_same]; exact fun z => nomatch z
      · rw [upd_ne eb]; exact z1.z.good b q
/-- l[j] = e -/
theorem sm_setL {s : T} {G : Gm} {E : Ed T} {te ti : TE} {i : Nat} (hL : HasLst C l get set) (hi : G[i]? = some (some (.o l)))
    (e : EvE C te G s fun x s' => ∃ d, x = .d d ∧ EvE C ti G s' fun y s2 => ∃ k j, y = .d (.int k) ∧ ixN (get s2).length k = some j ∧ E.nx G (set ((get s2).set j d) s2)) : SM C (tAsg te (gSub (tVar i) ti rSetL)) G s E := fun h σ H z D w =>
  e h σ H z _ fun x s1 v H1 ⟨d, ex, p1⟩ k1 i1 r1 => by
    subst ex
    have z1 := z.go k1 i1
    obtain ⟨vl, e1, rl⟩ := z1.sl.at_ i _ hi
    cases rl
    refine ⟨_, e1, p1 h σ H1 z1 _ fun y s2 u H2 ⟨k, j, ey, hj, p2⟩ k2 i2 r2 => ?_⟩
    subst ey
    cases r2
    obtain ⟨xs, e2, dx⟩ := hL.at_ i2
    have hl : h l = true := z.z.sub l hL.ml
    have z2 := z1.go k2 i2
    have dset : ∀ {xs : List V} {ds : List PyData} {j : Nat}, DxAll C.K (hid h H2) xs ds → DxAll C.K (hid h H2) (xs.set j v) (ds.set j d) := fun {xs ds j} x => by
      have rv : Dx C.K (hid h H2) v d := Dx.mono (k2.sub z.z.sub) r1
      induction j generalizing xs ds with
      | zero =>
        cases x with
        | nil => exact .nil
        | cons a b => exact .cons rv b
      | succ n ih =>
        cases x with
        | nil => exact .nil
        | cons a b => exact .cons a (ih b)
    refine ⟨l, xs, k, j, rfl, rfl, e2, by rw [dx.length]; exact hj, ?_⟩
    refine w.nx _ _ _ _ p2 ((k1.trans k2).trans ?_) ⟨⟨z.z.sub, ?_, hL.put i2 hl (dset dx)⟩, z2.sl.mono (hid_at hl)⟩
    · refine ⟨fun b o n q => ?_, fun b q => ?_⟩
      · rw [upd_ne]
        · exact q
        · intro eb; rw [eb, hL.ml] at n; cases n
      · by_cases eb : b = l
        · subst eb; rw [upd_same]; exact fun z => nomatch z
        · rw [upd_ne eb]; exact q
    · intro b q
      by_cases eb : b = l
      · subst eb; rw [upd_same]; exact fun z => nomatch z
      · rw [upd_ne eb]; exact z2.z.good b q
theorem ro_ixO {s : T} {P : A → T → Prop} {i : Int} {d : PyData} (hL : HasLst C l get set) (e : atI (get s) i = some d) (p : P (.d d) s) : RO C (rIx C.K) (.o l) (.d (.int i)) s P := fun h H v u z a b Q k => by
  cases b; cases a
  obtain ⟨xs, e1, dx⟩ := hL.at_ z.inv
  obtain ⟨w, e2, r⟩ := dx_at dx e
  exact .inl ⟨l, xs, i, w, rfl, rfl, SqL.of e1, e2, k.here p z.inv r⟩
theorem rc_lenO {s : T} {P : A → T → Prop} (hL : HasLst C l get set) (p : P (.d (.int (get s).length)) s) : RC C (fun xs H Q => ∃ x n, xs = [x] ∧ LenV C.K x H n ∧ Q (.int n) H) [.o l] s P := fun h H vs z a Q k => by
  cases a with
  | cons r t =>
    cases t; cases r
    obtain ⟨xs, e1, dx⟩ := hL.at_ z.inv
    exact ⟨_, (get s).length, rfl, .inl ⟨xs, SqL.of e1, dx.length.symm⟩, k.here p z.inv (Dx.int _)⟩
/-- a, b = xs (a list or a tuple of two) -/
def gTupU (K : PySem.W.Frag) (n : Nat) (t : TGs) : TG := fun v σ H Q => gTup K n t v σ H Q ∨ gUnl K n t v σ H Q
theorem eg_pairU {s : T} {G : Gm} {i j : Nat} {d e : PyData} {Pg : Gm → Prop} (p : Pg ((G.set i (some (.d d))).set j (some (.d e)))) : EvG C (gTupU C.K 2 (gCons (gName i) (gCons (gName j) gNil))) [i, j] (.d (.tuple [d, e])) G s Pg := fun h σ H v z r Q k => .inl (eg_pair p h σ H v z r Q k)
theorem eg_pairL {s : T} {G : Gm} {i j : Nat} {d e : PyData} {Pg : Gm → Prop} (p : Pg ((G.set i (some (.d d))).set j (some (.d e)))) : EvG C (gTupU C.K 2 (gCons (gName i) (gCons (gName j) gNil))) [i, j] (.d (.list [d, e])) G s Pg := fun h σ H v z r Q k => by
  cases r with
  | lst q rr =>
    cases rr with
    | cons r1 rr =>
      cases rr with
      | cons r2 rr =>
        cases rr
        refine .inr ⟨_, _, rfl, SqL.of (hid_le _ _ q), rfl, _, _, rfl, _, _, rfl, rfl, k _ _ p ((z.sl.set (x := .d d) i r1).set (x := .d e) j r2) fun vs hv => ?_⟩
        rw [wipe_set (hv j (by simp)), wipe_set (hv i (by simp))]
theorem ro_isB {s : T} {P : A → T → Prop} {x y : Bool} (p : P (.d (.bool (decide (x = y)))) s) : RO C rIsB (.d (.bool x)) (.d (.bool y)) s P := fun h H v u z a b Q k => by
  cases a; cases b
  exact ⟨x, y, rfl, rfl, k.here p z.inv (Dx.bl _)⟩
theorem ro_notB {s : T} {P : A → T → Prop} {x y : Bool} (p : P (.d (.bool (!decide (x = y)))) s) : RO C rNotB (.d (.bool x)) (.d (.bool y)) s P := fun h H v u z a b Q k => by
  cases a; cases b
  exact ⟨x, y, rfl, rfl, k.here p z.inv (Dx.bl _)⟩
/-- * of numbers; of a list, a tuple and a number -/
def rTimes (K : PySem.W.Frag) : R2 := fun x y H Q => rI CMul (fun i j => .int (i * j)) x y H Q ∨ rRep x y H Q ∨ rRepT K x y H Q
theorem ro_tmI {s : T} {P : A → T → Prop} {i j : Int} (hc : CMul i j) (p : P (.d (.int (i * j))) s) : RO C (rTimes C.K) (.d (.int i)) (.d (.int j)) s P := fun h H v u z a b Q k => .inl (ro_intC rfl hc p h H v u z a b Q k)
/-- comprehensions without effects -/
theorem ev_lcM {α : Type} {s : T} {G : Gm} {P : A → T → Prop} {wi : TI} {g : TG} {ts vs : List Nat} {t : TT} {te : TE} (L : List α) (it : α → A) (f : α → Bool) (φ : α → PyData) (hts : ∀ j ∈ ts, j ∈ vs)
    (e : EvI C wi G s fun xs s1 => xs = L.map it ∧ L.length ≤ 100000 ∧
      (∀ a ∈ L, EvG C g ts (it a) (wipeG G vs) s1 fun G2 => EvT C t G2 s1 fun b s3 => b = f a ∧ s3 = s1 ∧ (f a = true → EvE C te G2 s1 fun y s4 => y = .d (φ a) ∧ s4 = s1)) ∧
      P (.d (.list ((L.filter f).map φ))) s1) : EvE C (tLc wi g t te vs) G s P := by
  refine ev_lc hts fun h σ H z R k => e h σ H z R fun xs s1 J H' ⟨ex, hl, hturn, hp⟩ kk ii wk => k xs s1 J H' ⟨by rw [ex, List.length_map]; exact hl, fun i ds s' => s' = s1 ∧ ds = ((L.take i).filter f).map φ, ⟨rfl, rfl⟩, fun i x ds s' hx ⟨es, ed⟩ => ?_, fun ds s' ⟨es, ed⟩ => ?_⟩ kk ii wk
  · subst es
    rw [ex, List.getElem?_map] at hx
    cases ea : L[i]? with
    | none => rw [ea] at hx; cases hx
    | some a =>
      rw [ea] at hx
      cases hx
      have hm : a ∈ L := List.mem_of_getElem? ea
      have ht : L.take (i + 1) = L.take i ++ [a] := by rw [List.take_add_one, ea]; rfl
      refine fun h σ H v z r Q k => hturn a hm h σ H v z r Q fun G2 σ2 p2 sl2 w2 => k G2 σ2 (fun h2 σ3 H2 z2 Q2 k2 => p2 h2 σ3 H2 z2 Q2 fun b s3 H3 ⟨eb, es3, pe⟩ kk2 ii2 => ?_) sl2 w2
      subst es3
      subst eb
      refine k2 _ _ _ ?_ kk2 ii2
      cases hf : f a with
      | true =>
        rw [if_pos rfl]
        refine (pe hf).imp fun y s4 ⟨ey, es4⟩ => ⟨φ a, ey, es4, ?_⟩
        rw [ht, List.filter_append, List.map_append, ed]
        simp [hf]
      | false =>
        rw [if_neg Bool.false_ne_true]
        refine ⟨rfl, ?_⟩
        rw [ht, List.filter_append, List.map_append, ed]
        simp [hf]
  · subst es
    rw [ed, ex, List.length_map, List.take_length]
    exact hp
theorem ev_lcN {α : Type} {s : T} {G : Gm} {P : A → T → Prop} {wi : TI} {g : TG} {ts vs : List Nat} {te : TE} (L : List α) (it : α → A) (φ : α → PyData) (hts : ∀ j ∈ ts, j ∈ vs)
    (e : EvI C wi G s fun xs s1 => xs = L.map it ∧ L.length ≤ 100000 ∧ (∀ a ∈ L, EvG C g ts (it a) (wipeG G vs) s1 fun G2 => EvE C te G2 s1 fun y s4 => y = .d (φ a) ∧ s4 = s1) ∧ P (.d (.list (L.map φ))) s1) : EvE C (tLc wi g tYes te vs) G s P := by
  refine ev_lcM L it (fun _ => true) φ hts fun h σ H z R k => e h σ H z R fun xs s1 J H' ⟨ex, hl, hturn, hp⟩ kk ii wk => k xs s1 J H' ⟨ex, hl, fun a ha => ?_, ?_⟩ kk ii wk
  · refine fun h σ H v z r Q k => hturn a ha h σ H v z r Q fun G2 σ2 p2 sl2 w2 => k G2 σ2 (et_yes ⟨rfl, rfl, fun _ => p2⟩) sl2 w2
  · have e : (L.filter fun _ => true) = L := by simp
    rw [e]
    exact hp
/-- each element by a relation (draws) -/
theorem ev_lcR {α : Type} {s : T} {G : Gm} {P : A → T → Prop} {wi : TI} {g : TG} {ts vs : List Nat} {te : TE} (L : List α) (it : α → A) (Jd : α → PyData → Prop) (hts : ∀ j ∈ ts, j ∈ vs)
    (e : EvI C wi G s fun xs s1 => xs = L.map it ∧ L.length ≤ 100000 ∧ (∀ a ∈ L, EvG C g ts (it a) (wipeG G vs) s1 fun G2 => EvE C te G2 s1 fun y s4 => ∃ d, y = .d d ∧ Jd a d ∧ s4 = s1) ∧
      ∀ ds, Paired Jd L ds → P (.d (.list ds)) s1) : EvE C (tLc wi g tYes te vs) G s P := by
  have snoc : ∀ {l : List α} {ds : List PyData} {a : α} {d : PyData}, Paired Jd l ds → Jd a d → Paired Jd (l ++ [a]) (ds ++ [d]) := fun {l ds a d} x y => by
    induction x with
    | nil => exact .cons y .nil
    | cons p _ ih => exact .cons p ih
  refine ev_lc hts fun h σ H z R k => e h σ H z R fun xs s1 J H' ⟨ex, hl, hturn, hp⟩ kk ii wk => k xs s1 J H' ⟨by rw [ex, List.length_map]; exact hl, fun i ds s' => s' = s1 ∧ Paired Jd (L.take i) ds, ⟨rfl, .nil⟩, fun i x ds s' hx ⟨es, ed⟩ => ?_, fun ds s' ⟨es, ed⟩ => ?_⟩ kk ii wk
  · subst es
    rw [ex, List.getElem?_map] at hx
    cases ea : L[i]? with
    | none => rw [ea] at hx; cases hx
    | some a =>
      rw [ea] at hx
      cases hx
      have hm : a ∈ L := List.mem_of_getElem? ea
      have ht : L.take (i + 1) = L.take i ++ [a] := by rw [List.take_add_one, ea]; rfl
      refine fun h σ H v z r Q k => hturn a hm h σ H v z r Q fun G2 σ2 p2 sl2 w2 => k G2 σ2 (et_yes ?_) sl2 w2
      rw [if_pos rfl]
      refine p2.imp fun y s4 ⟨d, ey, hj, es4⟩ => ⟨d, ey, es4, ?_⟩
      rw [ht]
      exact snoc ed hj
  · subst es
    rw [ex, List.length_map, List.take_length] at ed
    exact hp _ ed
theorem ev_lcMx {α : Type} {s : T} {G : Gm} {P : A → T → Prop} {wi : TI} {g : TG} {ts vs : List Nat} {t : TT} {te : TE} (it : α → A) (f : α → Bool) (φ : α → PyData) (hts : ∀ j ∈ ts, j ∈ vs)
    (e : EvI C wi G s fun xs s1 => ∃ L : List α, xs = L.map it ∧ L.length ≤ 100000 ∧
      (∀ a ∈ L, EvG C g ts (it a) (wipeG G vs) s1 fun G2 => EvT C t G2 s1 fun b s3 => b = f a ∧ s3 = s1 ∧ (f a = true → EvE C te G2 s1 fun y s4 => y = .d (φ a) ∧ s4 = s1)) ∧
      P (.d (.list ((L.filter f).map φ))) s1) : EvE C (tLc wi g t te vs) G s P := by
  refine ev_lc hts fun h σ H z R k => e h σ H z R fun xs s1 J H' ⟨L, ex, hl, hturn, hp⟩ kk ii wk => k xs s1 J H' ⟨by rw [ex, List.length_map]; exact hl, fun i ds s' => s' = s1 ∧ ds = ((L.take i).filter f).map φ, ⟨rfl, rfl⟩, fun i x ds s' hx ⟨es, ed⟩ => ?_, fun ds s' ⟨es, ed⟩ => ?_⟩ kk ii wk
  · subst es
    rw [ex, List.getElem?_map] at hx
    cases ea : L[i]? with
    | none => rw [ea] at hx; cases hx
    | some a =>
      rw [ea] at hx
      cases hx
      have hm : a ∈ L := List.mem_of_getElem? ea
      have ht : L.take (i + 1) = L.take i ++ [a] := by rw [List.take_add_one, ea]; rfl
      refine fun h σ H v z r Q k => hturn a hm h σ H v z r Q fun G2 σ2 p2 sl2 w2 => k G2 σ2 (fun h2 σ3 H2 z2 Q2 k2 => p2 h2 σ3 H2 z2 Q2 fun b s3 H3 ⟨eb, es3, pe⟩ kk2 ii2 => ?_) sl2 w2
      subst es3
      subst eb
      refine k2 _ _ _ ?_ kk2 ii2
      cases hf : f a with
      | true =>
        rw [if_pos rfl]
        refine (pe hf).imp fun y s4 ⟨ey, es4⟩ => ⟨φ a, ey, es4, ?_⟩
        rw [ht, List.filter_append, List.map_append, ed]
        simp [hf]
      | false =>
        rw [if_neg Bool.false_ne_true]
        refine ⟨rfl, ?_⟩
        rw [ht, List.filter_append, List.map_append, ed]
        simp [hf]
  · subst es
    rw [ed, ex, List.length_map, List.take_length]
    exact hp
theorem ev_lcNx {α : Type} {s : T} {G : Gm} {P : A → T → Prop} {wi : TI} {g : TG} {ts vs : List Nat} {te : TE} (it : α → A) (φ : α → PyData) (hts : ∀ j ∈ ts, j ∈ vs)
    (e : EvI C wi G s fun xs s1 => ∃ L : List α, xs = L.map it ∧ L.length ≤ 100000 ∧ (∀ a ∈ L, EvG C g ts (it a) (wipeG G vs) s1 fun G2 => EvE C te G2 s1 fun y s4 => y = .d (φ a) ∧ s4 = s1) ∧ P (.d (.list (L.map φ))) s1) : EvE C (tLc wi g tYes te vs) G s P := by
  refine ev_lcMx it (fun _ => true) φ hts fun h σ H z R k => e h σ H z R fun xs s1 J H' ⟨L, ex, hl, hturn, hp⟩ kk ii wk => k xs s1 J H' ⟨L, ex, hl, fun a ha => ?_, ?_⟩ kk ii wk
  · refine fun h σ H v z r Q k => hturn a ha h σ H v z r Q fun G2 σ2 p2 sl2 w2 => k G2 σ2 (et_yes ⟨rfl, rfl, fun _ => p2⟩) sl2 w2
  · have e : (L.filter fun _ => true) = L := by simp
    rw [e]
    exact hp
/-- each element by a relation (draws) -/
theorem ev_lcRx {α : Type} {s : T} {G : Gm} {P : A → T → Prop} {wi : TI} {g : TG} {ts vs : List Nat} {te : TE} (it : α → A) (Jd : α → PyData → Prop) (hts : ∀ j ∈ ts, j ∈ vs)
    (e : EvI C wi G s fun xs s1 => ∃ L : List α, xs = L.map it ∧ L.length ≤ 100000 ∧ (∀ a ∈ L, EvG C g ts (it a) (wipeG G vs) s1 fun G2 => EvE C te G2 s1 fun y s4 => ∃ d, y = .d d ∧ Jd a d ∧ s4 = s1) ∧
      ∀ ds, Paired Jd L ds → P (.d (.list ds)) s1) : EvE C (tLc wi g tYes te vs) G s P := by
  have snoc : ∀ {l : List α} {ds : List PyData} {a : α} {d : PyData}, Paired Jd l ds → Jd a d → Paired Jd (l ++ [a]) (ds ++ [d]) := fun {l ds a d} x y => by
    induction x with
    | nil => exact .cons y .nil
    | cons p _ ih => exact .cons p ih
  refine ev_lc hts fun h σ H z R k => e h σ H z R fun xs s1 J H' ⟨L, ex, hl, hturn, hp⟩ kk ii wk => k xs s1 J H' ⟨by rw [ex, List.length_map]; exact hl, fun i ds s' => s' = s1 ∧ Paired Jd (L.take i) ds, ⟨rfl, .nil⟩, fun i x ds s' hx ⟨es, ed⟩ => ?_, fun ds s' ⟨es, ed⟩ => ?_⟩ kk ii wk
  · subst es
    rw [ex, List.getElem?_map] at hx
    cases ea : L[i]? with
    | none => rw [ea] at hx; cases hx
    | some a =>
      rw [ea] at hx
      cases hx
      have hm : a ∈ L := List.mem_of_getElem? ea
      have ht : L.take (i + 1) = L.take i ++ [a] := by rw [List.take_add_one, ea]; rfl
      refine fun h σ H v z r Q k => hturn a hm h σ H v z r Q fun G2 σ2 p2 sl2 w2 => k G2 σ2 (et_yes ?_) sl2 w2
      rw [if_pos rfl]
      refine p2.imp fun y s4 ⟨d, ey, hj, es4⟩ => ⟨d, ey, es4, ?_⟩
      rw [ht]
      exact snoc ed hj
  · subst es
    rw [ex, List.length_map, List.take_length] at ed
    exact hp _ ed
end

section
variable {X : Cx}
theorem op_times : OpR X (binaryOp .Mult) (rTimes X.K) := opr_or op_mul (opr_or op_rep op_repT)
theorem pg_tupU {es : List Expr} {k : Nat} {pos : Pos} {t : TGs} {n : Nat} (a : PG X (.Tuple es k pos) (gTup X.K n t)) (b : PG X (.Tuple es k pos) (gUnl X.K n t)) : PG X (.Tuple es k pos) (gTupU X.K n t) := ⟨by
  intro pins s σ H v u Q I r h
  rcases h with h | h
  · exact a.run _ _ _ _ _ _ _ I r h
  · exact b.run _ _ _ _ _ _ _ I r h⟩
end
section
variable {T : Type} {C : Cc T} {s : T} {P : A → T → Prop}
theorem rc_allE {ds : List PyData} {bs : List Bool} (e : ds = bs.map PyData.bool) (p : P (.d (.bool (bs.all id))) s) : RC C (rAll C.K) [.d (.list ds)] s P := by subst e; exact rc_all p
theorem rc_anyE {ds : List PyData} {bs : List Bool} (e : ds = bs.map PyData.bool) (p : P (.d (.bool (bs.any id))) s) : RC C (rAny C.K) [.d (.list ds)] s P := by subst e; exact rc_any p
end
theorem pairsD_map {α β : Type} (f : α → PyData) (g : β → PyData) : ∀ (xs : List α) (ys : List β), pairsD (xs.map f) (ys.map g) = (xs.zip ys).map fun p => .tuple [f p.1, g p.2]
  | [], _ => rfl
  | _ :: _, [] => rfl
  | x :: xs, y :: ys => by
    show PyData.tuple [f x, g y] :: pairsD (xs.map f) (ys.map g) = _
    rw [pairsD_map f g xs ys]; rfl
/-- a def of the top, as it stands -/
def Tp (K : PySem.W.Frag) (mg : Str → Option Value) (x : Str) (st : Stmt) : Prop := ∃ f fd, Fun K x x st f fd ∧ mg x = some (.ref f)
/-- fewer slots are known -/
def leG : Gm → Gm → Prop
  | [], [] => True
  | none :: a, _ :: b => leG a b
  | some x :: a, y :: b => y = some x ∧ leG a b
  | _, _ => False
theorem leG.spec : ∀ {a b : Gm}, leG a b → a.length = b.length ∧ ∀ (i : Nat) x, a[i]? = some (some x) → b[i]? = some (some x)
  | [], [], _ => ⟨rfl, fun i x e => by simp at e⟩
  | none :: a, y :: b, h => by
    obtain ⟨h1, h2⟩ := leG.spec (show leG a b from h)
    refine ⟨by simp [h1], fun i x e => ?_⟩
    cases i with
    | zero => simp at e
    | succ i => simp only [List.getElem?_cons_succ] at e ⊢; exact h2 i x e
  | some z :: a, y :: b, h => by
    obtain ⟨h0, h⟩ := (show y = some z ∧ leG a b from h)
    obtain ⟨h1, h2⟩ := leG.spec h
    refine ⟨by simp [h1], fun i x e => ?_⟩
    cases i with
    | zero => simp only [List.getElem?_cons_zero] at e ⊢; rw [h0]; exact e
    | succ i => simp only [List.getElem?_cons_succ] at e ⊢; exact h2 i x e
  | none :: _, [], h => h.elim
  | some _ :: _, [], h => h.elim
  | [], _ :: _, h => h.elim
theorem sm_less {T : Type} {C : Cc T} {t : TS} {G0 G : Gm} {s : T} {E : Ed T} (l : leG G0 G) (e : SM C t G0 s E) : SM C t G s E := fun h σ H z D w =>
  e h σ H ⟨z.z, ⟨z.sl.len.trans l.spec.1.symm, fun i x q => z.sl.at_ i x (l.spec.2 i x q)⟩⟩ D w
theorem eg_less {T : Type} {C : Cc T} {g : TG} {ts : List Nat} {x : A} {G0 G : Gm} {s : T} {P : Gm → Prop} (l : leG G0 G) (e : EvG C g ts x G0 s P) : EvG C g ts x G s P := fun h σ H v z r Q k =>
  e h σ H v ⟨z.z, ⟨z.sl.len.trans l.spec.1.symm, fun i x q => z.sl.at_ i x (l.spec.2 i x q)⟩⟩ r Q k
theorem cutD_map {α β : Type} (f : α → β) (xs : List α) (lo hi : Option Int) : cutD (xs.map f) lo hi = (cutD xs lo hi).map f := by
  unfold cutD
  rw [List.length_map, List.map_take, List.map_drop]
theorem cutD_len {α : Type} (xs : List α) (lo hi : Option Int) : (cutD xs lo hi).length ≤ xs.length := by
  unfold cutD
  rw [List.length_take, List.length_drop]
  omega
theorem sm_assoc3 {T : Type} {C : Cc T} {s : T} {G : Gm} {E : Ed T} {t u v x : TS} (e : SM C (tSeq (tSeq t (tSeq u v)) x) G s E) : SM C (tSeq t (tSeq u (tSeq v x))) G s E := e
theorem sm_cut {T : Type} {C : Cc T} {s : T} {G : Gm} {E : Ed T} {t u : TS} (N : Gm → T → Prop) (h : SM C t G s { E with nx := N }) (k : ∀ G' s', N G' s' → SM C u G' s' E) : SM C (tSeq t u) G s E :=
  sm_seq (h.imp k (fun _ _ q => q) (fun _ _ q => q) (fun _ _ q => q))
/-- the law's own body, behind its source -/
def two (p l : Addr) : Hm := fun b => decide (b = p) || decide (b = l)
theorem law_go {K : PySem.W.Frag} {t : TS} {p l : Addr} {H1 : Hp} {Q : VK} {σ1 : L2.St} {k : Nat} (so : SrcOk H1 p l) (hσ : σ1[1]? = some (some (.ref p))) (hl : σ1.length = k + 2)
    (q : ∀ H', Q (.bl true) H') (e : SM (srcC K (two p l) p l H1) t (none :: some (.o p) :: List.replicate k none) () ⟨fun _ _ => False, fun x _ => x = .d (.bool true), fun _ _ => False, fun _ _ => False⟩) :
    t { nx := fun _ H' => Q .non H', rt := Q } σ1 H1 := by
  have ne : H1 l ≠ none ∧ H1 p ≠ none := by
    obtain ⟨_, _, _, _, e1, e2, _⟩ := so
    refine ⟨?_, ?_⟩
    · rw [e2]; exact fun z => nomatch z
    · rw [e1]; exact fun z => nomatch z
  have g : Good (two p l) H1 := fun b q => by
    unfold two at q
    simp only [Bool.or_eq_true, decide_eq_true_eq] at q
    rcases q with q | q
    · rw [q]; exact ne.2
    · rw [q]; exact ne.1
  refine e (two p l) σ1 H1 ⟨⟨fun _ z => z, g, g, so, by simp [two], by simp [two], fun _ _ _ => rfl⟩, ⟨by simp [hl], fun i x qx => ?_⟩⟩ _ ⟨fun _ _ _ _ e => e.elim, fun x s' v H' ex _ _ r => ?_, fun _ _ _ _ e => e.elim, fun _ _ _ _ e => e.elim⟩
  · match i, qx with
    | 0, qx => simp at qx
    | 1, qx =>
      simp at qx
      subst qx
      exact ⟨_, hσ, rfl⟩
    | i + 2, qx =>
      simp only [List.getElem?_cons_succ, List.getElem?_replicate] at qx
      split at qx <;> cases qx
  · subst ex
    cases r
    exact q H'
theorem hasSrc2 (K : PySem.W.Frag) (p l : Addr) (H0 : Hp) : HasSrc (srcC K (two p l) p l H0) p l where
  ma := by simp [two]
  ml := by simp [two]
  at_ := fun i => i.2.1
  put := fun {h s H H'} i g sb e so => ⟨i.1, so, i.2.2.1, i.2.2.2.1, fun b qb nb => by
    have e1 := i.2.2.2.2 b qb nb
    cases e2 : H b with
    | none => exact absurd e2 (g b (sb b qb))
    | some o => rw [e b o nb e2, ← e1, e2]⟩
def spLaw (K : PySem.W.Frag) : Sp := fun vs H Q _ => ∃ (a : Addr) (ns : List Int), vs = [.ref a] ∧ SqL K H a (ns.map V.int) ∧ ns.length ≤ 63 ∧ ∀ H', Q (.bl true) H'
/-- numbers drawn -/
theorem paired_ints {α : Type} {C : Int → Prop} : ∀ {L : List α} {ds : List PyData}, Paired (fun (_ : α) d => ∃ k : Int, d = .int k ∧ C k) L ds → ∃ ks : List Int, ds = ks.map .int ∧ ks.length = L.length ∧ ∀ k ∈ ks, C k
  | _, _, .nil => ⟨[], rfl, rfl, by simp⟩
  | _, _, .cons ⟨k, e, c⟩ t => by
    obtain ⟨ks, e1, e2, e3⟩ := paired_ints t
    refine ⟨k :: ks, by rw [e, e1]; rfl, by simp [e2], fun j hj => ?_⟩
    rcases List.mem_cons.mp hj with h | h
    · rw [h]; exact c
    · exact e3 j h
/-- a def of which nothing is asked -/
theorem df_no {P : Program} {w : World} {K : PySem.W.Frag} {mg : Str → Option Value} {base : Heap} {x : Str} {st : Stmt} {ps : List Str} {sp : Sp} (F : Tp K mg x st) (hn : ∀ vs H Q E, ¬ sp vs H Q E)
    (hb : ∀ (kV doc pm : Value) (an : Option Addr) (cdv ct : Value) (us : List Value), us.length = ps.length → bindArgs (PySem.W.fnOf x x (defArgs st) (defBody st) (defScope st) .none kV doc pm an cdv ct) ⟨us, []⟩ = pure (ps.zip us)) :
    ∃ f fd, FnOk P w K mg base CX0 0 f fd ps sp ∧ mg x = some (.ref f) ∧ PySem.W.keepIn K (.ref f) = true ∧ Binds K fd ps [] := by
  obtain ⟨f, fd, F, hm⟩ := F
  exact ⟨f, fd, ⟨fun vs H Q E h => (hn _ _ _ _ h).elim, fun _ _ _ _ _ _ _ _ _ _ _ _ _ h => (hn _ _ _ _ h).elim⟩, hm, F.kp, F.binds hb⟩
/-! ### the rules with the written part named -/
section
variable {X : Cx} {K : PySem.W.Frag}
theorem kop_plus (hK : X.K = K) : OpR X (binaryOp .Add) (rPlus K) := hK ▸ op_plus
theorem kop_times (hK : X.K = K) : OpR X (binaryOp .Mult) (rTimes K) := hK ▸ op_times
theorem kop_eq (hK : X.K = K) (hu : X.A.units + 64 < cLine) : OpR X (compareOp .Eq) (rEqU K) := hK ▸ op_eqU hu
theorem kop_ne (hK : X.K = K) (hu : X.A.units + 64 < cLine) : OpR X (compareOp .NotEq) (rNeU K) := hK ▸ op_neU hu
theorem kop_in (hK : X.K = K) : OpR X (compareOp .In) (rInU K false) := hK ▸ op_inU
theorem kop_notIn (hK : X.K = K) : OpR X (compareOp .NotIn) (rInU K true) := hK ▸ op_notInU
theorem kix (hK : X.K = K) : IxR X (rIx K) := hK ▸ ix_seq
theorem ksl (hK : X.K = K) : SlR X (rSlU K) := hK ▸ sl_any
theorem kpi {tg e : Expr} {te : TE} (hK : X.K = K) (h : PE X e te) : PI X tg e (iAny K te) := hK ▸ pi_any h
theorem kpi_zip {e e2 : Expr} {ta : TA} {p pos tpos : Pos} {elts : List Expr} {kk : Nat} (hK : X.K = K) (hg : Gl X "zip") (hm : X.mg "zip" = none) (ha : PA X [e, e2] ta)
    (hs : starEach [e, e2] X.env = (false, eval e X.env) :: starEach [e2] X.env := by rfl) (hpl : (backTo pos (starEach [e2] X.env)).any (·.1) = false := by rfl) :
    PI X (.Tuple elts kk tpos) (.Call (.Name "zip" p) [e, e2] [] pos) (iZipA K ta) := hK ▸ pi_zipA hg hm ha hs hpl
def rLen (K : PySem.W.Frag) : List V → Hp → VK → Prop := fun xs H Q => ∃ x n, xs = [x] ∧ LenV K x H n ∧ Q (.int n) H
def rListOf (K : PySem.W.Frag) : List V → Hp → VK → Prop := fun xs H Q => ∃ p ys, xs = [.ref p] ∧ (SqL K H p ys ∨ SqT K H p ys) ∧ ∀ l, H l = none → Q (.ref l) (upd H l (.lst ys))
def rTupOf (K : PySem.W.Frag) : List V → Hp → VK → Prop := fun xs H Q => ∃ p ys, xs = [.ref p] ∧ ((SqL K H p ys ∧ ∀ l, H l = none → Q (.ref l) (upd H l (.tup ys))) ∨ (SqT K H p ys ∧ Q (.ref p) H))
theorem kc_len (hK : X.K = K) : CallR X (.builtin "len") (rLen K) := hK ▸ call_len
theorem kc_list (hK : X.K = K) : CallR X (.type "list") (rListOf K) := hK ▸ call_list_of
theorem kc_tuple (hK : X.K = K) : CallR X (.type "tuple") (rTupOf K) := hK ▸ call_tuple_of
theorem kc_all (hK : X.K = K) (hc : X.calm = true) : CallR X (.builtin "all") (rAll K) := hK ▸ cr_all hc
theorem kc_any (hK : X.K = K) (hc : X.calm = true) : CallR X (.builtin "any") (rAny K) := hK ▸ cr_any hc
theorem kc_isi (hK : X.K = K) : CallR X (.builtin "isinstance") (rIsi K) := hK ▸ call_isi
theorem kc_isiT (hK : X.K = K) : CallR X (.builtin "isinstance") (rIsiT K) := hK ▸ call_isiT
def rMax2 : List V → Hp → VK → Prop := fun xs H Q => ∃ i j, xs = [.int i, .int j] ∧ Q (.int (if j > i then j else i)) H
def rMin2 : List V → Hp → VK → Prop := fun xs H Q => ∃ i j, xs = [.int i, .int j] ∧ Q (.int (if j < i then j else i)) H
theorem kc_max2 (hc : X.calm = true) : CallR X (.builtin "max") rMax2 := call_max2 hc
theorem kc_min2 (hc : X.calm = true) : CallR X (.builtin "min") rMin2 := call_min2 hc
def rStrI : List V → Hp → VK → Prop := fun xs H Q => ∃ i, xs = [.int i] ∧ i.natAbs.log2 < 1920 ∧ Q (.str (toString i)) H
theorem kc_str : CallR X (.type "str") rStrI := call_str_int
def tJoin (K : PySem.W.Frag) (to te : TE) : TE := tM1 (fun x xs H Q => ∃ a p, ∃ ys : List Str, x = .str a ∧ xs = [.ref p] ∧ (SqL K H p (ys.map V.str) ∨ SqT K H p (ys.map V.str)) ∧ (ys.map (·.length)).sum + ys.length * a.length ≤ 16777216 ∧ Q (.str (Txt.join a ys)) H) to te
theorem kjoin {o e : Expr} {to te : TE} {apos pos : Pos} (hK : X.K = K) (ho : PE X o to) (he : PE X e te) (hs : starEach [e] X.env = [(false, eval e X.env)] := by rfl) (hbase : attributeBase o "join" X.env (eval o X.env) = eval o X.env := by rfl) (hline : (apos.endLine == pos.line) = true := by rfl) :
    PE X (.Call (.Attribute o "join" apos) [e] [] pos) (tJoin K to te) := hK ▸ pe_join ho he hs hbase hline
theorem kapp {o e : Expr} {to te : TE} {apos pos : Pos} (hK : X.K = K) (ho : PE X o to) (he : PE X e te) (h : PE X (.Call (.Attribute o "append" apos) [e] [] pos) (tBM X.K "list" rAppend to (tCons te tNil))) :
    PE X (.Call (.Attribute o "append" apos) [e] [] pos) (tBM K "list" rAppend to (tCons te tNil)) := hK ▸ h
theorem kpg_tup {es : List Expr} {k : Nat} {pos : Pos} {t : TGs} {n : Nat} (hK : X.K = K) (a : PG X (.Tuple es k pos) (gTup X.K n t)) (b : PG X (.Tuple es k pos) (gUnl X.K n t)) : PG X (.Tuple es k pos) (gTupU K n t) := hK ▸ pg_tupU a b
theorem kstar {e : Expr} {es : List Expr} {te : TE} {t : TA} {p : Pos} (hK : X.K = K) (he : PE X e te) (hr : PA X es t) (hs : starEach (.Starred e p :: es) X.env = (true, eval e X.env) :: starEach es X.env := by rfl) : PA X (.Starred e p :: es) (StX.tStar K te t) := hK ▸ StX.pa_star he hr hs
end
/-! ### what the top has left -/
def GI (mg : Str → Option Value) (x : Str) (i : Int) : Prop := ∃ t, mg x = some (.int i t)
def GS (mg : Str → Option Value) (x : Str) (i : Str) : Prop := ∃ t, mg x = some (.str i t)
theorem pe_gi {X : Cx} {x : Str} {i : Int} {pos : Pos} (hg : Gl X x) (h : GI X.mg x i) (hd : (x == ("__debug__" : Str)) = false := by decide) : PE X (.Name x pos) (tC (.int i)) := by
  obtain ⟨t, h⟩ := h
  exact pe_glob hg h ⟨t, rfl⟩ hd
theorem pe_gs {X : Cx} {x : Str} {i : Str} {pos : Pos} (hg : Gl X x) (h : GS X.mg x i) (hd : (x == ("__debug__" : Str)) = false := by decide) : PE X (.Name x pos) (tC (.str i)) := by
  obtain ⟨t, h⟩ := h
  exact pe_glob hg h ⟨t, rfl⟩ hd
/-- a def that keeps its promise -/
def Df (P : Program) (w : World) (K : PySem.W.Frag) (mg : Str → Option Value) (base : Heap) (x : Str) (k : Nat) (ps : List Str) (sp : Sp) : Prop :=
  ∃ f fd, FnOk P w K mg base CX0 k f fd ps sp ∧ mg x = some (.ref f) ∧ PySem.W.keepIn K (.ref f) = true ∧ Binds K fd ps []
section
variable {X : Cx} {x : Str} {k j : Nat} {ps : List Str} {sp : Sp} {p pos : Pos} {e : Expr} {es : List Expr} {t : TA}
theorem pe_df (D : Df X.prog X.w X.K X.mg X.base x k ps sp) (hr : Room k X.A) (hg : Gl X x) (ha : PA X (e :: es) t) (hdb : (x == ("__debug__" : Str)) = false := by decide)
    (he : starEach (e :: es) X.env = (false, eval e X.env) :: starEach es X.env := by rfl) (hpl : (backTo pos (starEach es X.env)).any (·.1) = false := by rfl) : PE X (.Call (.Name x p) (e :: es) [] pos) (tCall sp [] E0 t) := by
  obtain ⟨f, fd, F, hm, hk, hb⟩ := D
  exact pe_call F hr hg hm hk hb .nil pass0 ha hdb he hpl
theorem pe_df0 (D : Df X.prog X.w X.K X.mg X.base x k ps sp) (hr : Room k X.A) (hg : Gl X x) (hdb : (x == ("__debug__" : Str)) = false := by decide) : PE X (.Call (.Name x p) [] [] pos) (tCall sp [] E0 tNil) := by
  obtain ⟨f, fd, F, hm, hk, hb⟩ := D
  exact pe_call0 F hr hg hm hk hb .nil pass0 hdb
end
end Cl

set_option Elab.async false
set_option linter.all false
set_option maxRecDepth 100000
set_option maxHeartbeats 2000000
namespace Cl
open PySem L2 RZ
theorem joinL_len (S : List Nat) : ∀ ls : List (List Nat), (TL.joinL S ls).length ≤ (ls.map List.length).sum + ls.length * S.length
  | [] => by simp [TL.joinL]
  | [p] => by simp [TL.joinL]
  | p :: q :: r => by
    have h := joinL_len S (q :: r)
    show (p ++ (S ++ TL.joinL S (q :: r))).length ≤ _
    rw [List.length_append, List.length_append]
    simp only [List.map_cons, List.sum_cons, List.length_cons, Nat.succ_mul] at h ⊢
    omega
theorem join_len (a : Str) (ys : List Str) : (Txt.join a ys).length ≤ (ys.map (·.length)).sum + ys.length * a.length := by
  rw [TL.join_eq, TL.len_tl, TL.tl_join]
  have h := joinL_len (TL.tl a) (ys.map TL.tl)
  rw [List.map_map, List.length_map] at h
  have e : (List.length ∘ TL.tl) = (fun s : Str => s.length) := by funext s; simp [TL.len_tl]
  rw [e] at h
  rw [TL.len_tl a]
  exact h
theorem sum_le {ys : List Str} {k : Nat} (h : ∀ y ∈ ys, y.length ≤ k) : (ys.map (·.length)).sum ≤ ys.length * k := by
  induction ys with
  | nil => simp
  | cons y ys ih =>
    have h1 := h y (by simp)
    have h2 := ih fun z hz => h z (by simp [hz])
    simp only [List.map_cons, List.sum_cons, List.length_cons, Nat.succ_mul]
    omega
theorem paired_strs {α : Type} {C : Str → Prop} : ∀ {L : List α} {ds : List PyData}, Paired (fun (_ : α) d => ∃ k : Str, d = .str k ∧ C k) L ds → ∃ ks : List Str, ds = ks.map .str ∧ ks.length = L.length ∧ ∀ k ∈ ks, C k
  | _, _, .nil => ⟨[], rfl, rfl, by simp⟩
  | _, _, .cons ⟨k, e, c⟩ t => by
    obtain ⟨ks, e1, e2, e3⟩ := paired_strs t
    refine ⟨k :: ks, by rw [e, e1]; rfl, by simp [e2], fun j hj => ?_⟩
    rcases List.mem_cons.mp hj with h | h
    · rw [h]; exact c
    · exact e3 j h
theorem one_len (c : Nat) : (⟨#[c]⟩ : Str).length = 1 := rfl
end Cl

set_option Elab.async false
set_option linter.all false
set_option maxRecDepth 100000
set_option maxHeartbeats 2000000
namespace Cl
open PySem L2 RZ
def top (i : Nat) : Stmt := PySem.Challenge.pw_cutlore_k01_words_and_names.main.body.getD i (.Pass ⟨0, 0, 0, 0⟩)
abbrev s_is_lowercase : Stmt := top 4
abbrev N_is_lowercase : List Str := ["text", "most", "sign"]
theorem sc_is_lowercase : FnScope N_is_lowercase ["text", "most"] (defScope s_is_lowercase) := ⟨rfl, rfl, rfl, by decide +kernel, rfl, by decide +kernel, by decide +kernel⟩
abbrev s_is_word : Stmt := top 5
abbrev N_is_word : List Str := ["text"]
theorem sc_is_word : FnScope N_is_word ["text"] (defScope s_is_word) := ⟨rfl, rfl, rfl, by decide +kernel, rfl, by decide +kernel, by decide +kernel⟩
abbrev s_is_name : Stmt := top 6
abbrev N_is_name : List Str := ["text"]
theorem sc_is_name : FnScope N_is_name ["text"] (defScope s_is_name) := ⟨rfl, rfl, rfl, by decide +kernel, rfl, by decide +kernel, by decide +kernel⟩
abbrev s_law_source : Stmt := top 8
abbrev N_law_source : List Str := ["_law_script"]
theorem sc_law_source : FnScope N_law_source ["_law_script"] (defScope s_law_source) := ⟨rfl, rfl, rfl, by decide +kernel, rfl, by decide +kernel, by decide +kernel⟩
abbrev s_law_draw : Stmt := top 9
abbrev N_law_draw : List Str := ["_law_source_here", "_law_count", "_law_cell", "_law_rest", "_law_twice"]
theorem sc_law_draw : FnScope N_law_draw ["_law_source_here", "_law_count"] (defScope s_law_draw) := ⟨rfl, rfl, rfl, by decide +kernel, rfl, by decide +kernel, by decide +kernel⟩
abbrev s_law_choice : Stmt := top 10
abbrev N_law_choice : List Str := ["_law_source_here", "_law_items"]
theorem sc_law_choice : FnScope N_law_choice ["_law_source_here", "_law_items"] (defScope s_law_choice) := ⟨rfl, rfl, rfl, by decide +kernel, rfl, by decide +kernel, by decide +kernel⟩
abbrev s_law_same : Stmt := top 11
abbrev N_law_same : List Str := ["_law_found", "_law_due", "_law_one", "_law_other"]
theorem sc_law_same : FnScope N_law_same ["_law_found", "_law_due"] (defScope s_law_same) := ⟨rfl, rfl, rfl, by decide +kernel, rfl, by decide +kernel, by decide +kernel⟩
abbrev s_law_letters : Stmt := top 12
abbrev N_law_letters : List Str := []
theorem sc_law_letters : FnScope N_law_letters [] (defScope s_law_letters) := ⟨rfl, rfl, rfl, by decide +kernel, rfl, by decide +kernel, by decide +kernel⟩
abbrev s_law_is_lowercase : Stmt := top 13
abbrev N_law_is_lowercase : List Str := ["_law_text", "_law_most", "_law_sign"]
theorem sc_law_is_lowercase : FnScope N_law_is_lowercase ["_law_text", "_law_most"] (defScope s_law_is_lowercase) := ⟨rfl, rfl, rfl, by decide +kernel, rfl, by decide +kernel, by decide +kernel⟩
abbrev s_law_bent : Stmt := top 14
abbrev N_law_bent : List Str := ["_law_source_here", "_law_text", "_law_signs", "_law_at", "_law_sign"]
theorem sc_law_bent : FnScope N_law_bent ["_law_source_here", "_law_text", "_law_signs"] (defScope s_law_bent) := ⟨rfl, rfl, rfl, by decide +kernel, rfl, by decide +kernel, by decide +kernel⟩
abbrev s_law : Stmt := top 15
abbrev N_law : List Str := ["_law_script", "_law_source_here", "_law_turn", "_law_text", "_law_k"]
theorem sc_law : FnScope N_law ["_law_script"] (defScope s_law) := ⟨rfl, rfl, rfl, by decide +kernel, rfl, by decide +kernel, by decide +kernel⟩
structure Txt (K : PySem.W.Frag) (mg : Str → Option Value) : Prop where
  b_all : mg "all" = none
  b_bool : mg "bool" = none
  b_int : mg "int" = none
  b_isinstance : mg "isinstance" = none
  b_len : mg "len" = none
  b_list : mg "list" = none
  b_range : mg "range" = none
  b_str : mg "str" = none
  b_tuple : mg "tuple" = none
  b_zip : mg "zip" = none
  g_LETTERS : GS mg "LETTERS" "abcdefghijklmnopqrstuvwxyz"
  g_MAX_WORD : GI mg "MAX_WORD" 6
  g_MAX_NAME : GI mg "MAX_NAME" 8
/-! ### the law's source, draws, comparison -/
theorem cut63 {α : Type} (xs : List α) (h : xs.length ≤ 63) : (xs.drop (HT.sIx xs.length 0 none)).take (HT.sIx xs.length xs.length (some 63) - HT.sIx xs.length 0 none) = xs := by
  have e0 : HT.sIx xs.length 0 none = 0 := rfl
  have e1 : HT.sIx xs.length xs.length (some 63) = xs.length := by
    unfold HT.sIx
    simp
    omega
  rw [e0, e1]
  simp
def spSource (K : PySem.W.Frag) : Sp := fun vs H Q _ => ∃ (a : Addr) (ns : List Int), vs = [.ref a] ∧ SqL K H a (ns.map V.int) ∧ ns.length ≤ 63 ∧
  ∀ (p l : Addr) (H' : Hp), Same H H' → H p = none → H l = none → p ≠ l → SrcOk H' p l → Q (.ref p) H'
theorem law_start {K : PySem.W.Frag} {t : TS} {a : Addr} {ns : List Int} {H : Hp} {Q : VK} {N : List Str} {k : Nat} (hN : N.length = k + 2) (hS : SqL K H a (ns.map V.int)) (hlen : ns.length ≤ 63) (q : ∀ H', Q (.bl true) H')
    (e : ∀ (p l : Addr) (H1 : Hp), SM (srcC K (two p l) p l H1) t (none :: some (.o p) :: List.replicate k none) () ⟨fun _ _ => False, fun x _ => x = .d (.bool true), fun _ _ => False, fun _ _ => False⟩) :
    tSeq (tAsg (tCall (spSource K) [] E0 (tCons (tVar 0) tNil)) (gName 1)) t { nx := fun _ H' => Q .non H', rt := Q } (L2.start N [.ref a]) H := by
  refine ⟨_, rfl, a, ns, rfl, hS, hlen, fun p l H1 sm np nl npl so => ?_⟩
  have hl : ((L2.start N [.ref a]).set 1 (some (.ref p))).length = k + 2 := by simp [L2.start]; omega
  have hσ : ((L2.start N [.ref a]).set 1 (some (.ref p)))[1]? = some (some (V.ref p)) := by
    rw [List.getElem?_set_self]
    simp [L2.start]; omega
  exact law_go so hσ hl q (e p l H1)
section
variable {P : Program} {w : World} {K : PySem.W.Frag} {mg : Str → Option Value} {base : Heap}
theorem df_source (T : Txt K mg) (F : Tp K mg "_law_source" s_law_source) : Df P w K mg base "_law_source" 1 ["_law_script"] (spSource K) := by
  obtain ⟨f, fd, F, hm⟩ := F
  refine ⟨f, fd, F.ok sc_law_source (by rintro vs H Q E ⟨a, ns, rfl, _⟩; rfl) (fun cdv A outer s H vs Q E hr h => ?_), hm, F.kp, (F.binds fun _ _ _ _ _ _ us hl => match us, hl with | [_], _ => rfl)⟩
  obtain ⟨a, ns, rfl, hS, hlen, k⟩ := h
  refine ⟨_, (pss_one (ps_ret (pe_lst (pa_cons (pe_callTy (kc_list (K := K) rfl) (by rfl) T.b_list (by decide +kernel) (pa_cons (pe_slice (ksl (K := K) rfl) (pv 0) po_none (po_some pe_int)) pa_nil)) (pa_cons pe_int (pa_cons pe_int (pa_cons (pe_op (kop_plus (K := K) rfl) pe_int (pe_callB (kc_len (K := K) rfl) (by rfl) T.b_len (by decide +kernel) (pa_cons (pe_slice (ksl (K := K) rfl) (pv 0) po_none (po_some pe_int)) pa_nil))) pa_nil))))))), ?_⟩
  have hcut : cutV (ns.map V.int) none (some 63) = ns.map V.int := cut63 _ (by rw [List.length_map]; exact hlen)
  refine ⟨_, rfl, 63, rfl, .inl ⟨a, _, rfl, hS, fun p1 n1 => ?_⟩⟩
  rw [hcut]
  refine ⟨p1, _, rfl, .inl (SqL.of upd_same), fun l nl => ?_⟩
  have s1 : Same H (upd H p1 (.lst (ns.map V.int))) := same_new n1
  have s2 : Same H (upd (upd H p1 (.lst (ns.map V.int))) l (.lst (ns.map V.int))) := s1.trans (same_new nl)
  refine ⟨_, rfl, 63, rfl, .inl ⟨a, _, rfl, s2.seq hS, fun p2 n2 => ?_⟩⟩
  rw [hcut]
  have s3 := s2.trans (same_new (o := .lst (ns.map V.int)) n2)
  refine ⟨_, ns.length, rfl, .inl ⟨_, SqL.of upd_same, by rw [List.length_map]⟩, .inl ⟨3807, ns.length, rfl, rfl, ?_⟩⟩
  refine ⟨by show 4 ≤ sizeLine; decide, fun p np => ?_⟩
  have hl2 : upd (upd (upd H p1 (.lst (ns.map V.int))) l (.lst (ns.map V.int))) p2 (.lst (ns.map V.int)) l = some (.lst (ns.map V.int)) := same_new n2 _ _ upd_same
  refine k p l _ (s3.trans (same_new np)) (s3.free np) (s1.free nl) (fun e => ?_) ⟨ns, 0, 0, 3807 + ns.length, upd_same, same_new np _ _ hl2, Nat.zero_le _, hlen, Int.le_refl _, by omega, by omega⟩
  rw [e, hl2] at np
  cases np

/-! the draw -/
def R_draw (n : Int) (r : Int) : Prop := 0 ≤ r ∧ r < n
def spDraw (K : PySem.W.Frag) : Sp := fun vs H Q _ => ∃ (a l : Addr) (n : Int), vs = [.ref a, .int n] ∧ SrcOk H a l ∧ 0 < n ∧ n < 1073741824 ∧
  ∀ (r : Int) (H' : Hp), 0 ≤ r → r < n → (∀ b o, b ≠ a → H b = some o → H' b = some o) → SrcOk H' a l → Q (.int r) H'
/-- an item of the list in slot 0 -/
theorem ixl {K : PySem.W.Frag} {a : Addr} {xs : List V} {k : Int} {v : V} {σ : L2.St} {H : Hp} {Q : VK} (h0 : σ[0]? = some (some (.ref a))) (ha : H a = some (.lst xs)) (hv : atI xs k = some v) (q : Q v H) : tOp (rIx K) (tVar 0) (tC (.int k)) σ H Q :=
  ⟨_, h0, .inl ⟨a, xs, k, v, rfl, rfl, SqL.of ha, hv, q⟩⟩
theorem setl {a : Addr} {xs : List V} {k : Int} {j : Nat} {v : V} {σ : L2.St} {H : Hp} {R : L2.St → Hp → Prop} (h0 : σ[0]? = some (some (.ref a))) (ha : H a = some (.lst xs)) (hj : ixN xs.length k = some j) (q : R σ (upd H a (.lst (xs.set j v)))) : gSub (tVar 0) (tC (.int k)) rSetL v σ H R :=
  ⟨_, h0, a, xs, k, j, rfl, rfl, ha, hj, q⟩
theorem df_draw (T : Txt K mg) (F : Tp K mg "_law_draw" s_law_draw) : Df P w K mg base "_law_draw" 1 ["_law_source_here", "_law_count"] (spDraw K) := by
  obtain ⟨f, fd, F, hm⟩ := F
  refine ⟨f, fd, F.ok sc_law_draw (by rintro vs H Q E ⟨a, l, n, rfl, _⟩; rfl) (fun cdv A outer s H vs Q E hr h => ?_), hm, F.kp, (F.binds fun _ _ _ _ _ _ us hl => match us, hl with | [_, _], _ => rfl)⟩
  obtain ⟨a, l, n, rfl, ⟨ns, p, r, x, ha, hl, hp, h63, hr0, hx0, hx1⟩, hn0, hn1, k⟩ := h
  have nla : l ≠ a := fun e => by
    subst e
    rw [ha] at hl
    have e := Option.some.inj hl
    injection e with e
    cases ns with
    | nil => cases e
    | cons y ys => injection e with e1 _; cases e1
  -- what follows behind the first test: the source at H1 with r1, x1
  refine ⟨_, (pss_cons (ps_if (PW.pt (pw_and (pt_cmpR (kop_eq (K := K) rfl hr.units) (pe_ix (kix (K := K) rfl) (pv 0) pe_int (fun _ _ => rfl)) pe_int (nomark _)) (pw_and1 (pt_cmpR op_lt (pe_ix (kix (K := K) rfl) (pv 0) pe_int (fun _ _ => rfl)) (pe_callB (kc_len (K := K) rfl) (by rfl) T.b_len (by decide +kernel) (pa_cons (pe_ix (kix (K := K) rfl) (pv 0) pe_int (fun _ _ => rfl)) pa_nil)) (nomark _)))))
  (pss_cons (ps_set (i := 2) sc_law_draw.nd rfl (by first | exact Or.inl rfl | exact Or.inr rfl) (pe_ix (kix (K := K) rfl) (pe_ix (kix (K := K) rfl) (pv 0) pe_int (fun _ _ => rfl)) (pe_ix (kix (K := K) rfl) (pv 0) pe_int (fun _ _ => rfl)) (fun _ _ => rfl)))
  (pss_cons (ps_asg (pe_op (kop_plus (K := K) rfl) (pe_ix (kix (K := K) rfl) (pv 0) pe_int (fun _ _ => rfl)) pe_int) (pg_sub (pv 0) pe_int set_list))
  (pss_one (ps_if (pt_cmpR op_ge (pv 2) (pe_op op_pow pe_int pe_int) (nomark _))
  (pss_one (ps_asg (pv 2) (pg_sub (pv 0) pe_int set_list)))
  (pss_one (ps_asg (pe_op op_mod (pe_op (kop_plus (K := K) rfl) (pe_op (kop_plus (K := K) rfl) (pe_op (kop_times (K := K) rfl) (pe_ix (kix (K := K) rfl) (pv 0) pe_int (fun _ _ => rfl)) pe_int) (pe_op (kop_times (K := K) rfl) (pe_op op_mod (pv 2) pe_int) pe_int)) pe_int) pe_int) (pg_sub (pv 0) pe_int set_list)))))))
  pss_nil)
  (pss_cons (ps_if (pt_cmpR op_gt (pe_ix (kix (K := K) rfl) (pv 0) pe_int (fun _ _ => rfl)) pe_int (nomark _))
  (pss_cons (ps_set (i := 3) sc_law_draw.nd rfl (by first | exact Or.inl rfl | exact Or.inr rfl) (pe_op op_mod (pe_ix (kix (K := K) rfl) (pv 0) pe_int (fun _ _ => rfl)) (pv 1)))
  (pss_cons (ps_asg (pe_op op_fdiv (pe_ix (kix (K := K) rfl) (pv 0) pe_int (fun _ _ => rfl)) (pv 1)) (pg_sub (pv 0) pe_int set_list))
  (pss_one (ps_ret (pv 3)))))
  pss_nil)
  (pss_cons (ps_set (i := 4) sc_law_draw.nd rfl (by first | exact Or.inl rfl | exact Or.inr rfl) (pe_op op_mod (pe_op (kop_times (K := K) rfl) (pe_ix (kix (K := K) rfl) (pv 0) pe_int (fun _ _ => rfl)) (pe_ix (kix (K := K) rfl) (pv 0) pe_int (fun _ _ => rfl))) pe_int))
  (pss_cons (ps_asg (pe_op op_mod (pe_op (kop_plus (K := K) rfl) (pe_op (kop_plus (K := K) rfl) (pe_op (kop_times (K := K) rfl) (pv 4) pe_int) (pe_op (kop_times (K := K) rfl) (pe_ix (kix (K := K) rfl) (pv 0) pe_int (fun _ _ => rfl)) pe_int)) pe_int) pe_int) (pg_sub (pv 0) pe_int set_list))
  (pss_one (ps_ret (pe_op op_mod (pe_op (kop_plus (K := K) rfl) (pe_op op_fdiv (pe_ix (kix (K := K) rfl) (pv 0) pe_int (fun _ _ => rfl)) pe_int) (pe_op (kop_times (K := K) rfl) (pe_op op_mod (pe_ix (kix (K := K) rfl) (pv 0) pe_int (fun _ _ => rfl)) pe_int) pe_int)) (pv 1)))))))), ?_⟩
  have rest : ∀ (σ1 : L2.St) (H1 : Hp) (c : Option V) (p1 : Nat) (r1 x1 : Int), σ1 = [some (.ref a), some (.int n), c, none, none] → H1 a = some (.lst [.ref l, .int p1, .int r1, .int x1]) → p1 ≤ ns.length → 0 ≤ r1 → 0 ≤ x1 → x1 < 2147483563 →
      (∀ b o, b ≠ a → H b = some o → H1 b = some o) →
      (tSeq (tIfS (tTest (tOp (rI0 fun i j => .bl (decide (j < i))) (tOp (rIx K) (tVar 0) (tC (.int 2))) (tC (.int 0))))
        (tSeq (tAsg (tOp (rI (fun _ j => 0 < j) fun i j => .int (i % j)) (tOp (rIx K) (tVar 0) (tC (.int 2))) (tVar 1)) (gName 3))
          (tSeq (tAsg (tOp (rI CDiv fun i j => .int (i / j)) (tOp (rIx K) (tVar 0) (tC (.int 2))) (tVar 1)) (gSub (tVar 0) (tC (.int 2)) rSetL)) (tRet (tVar 3)))) tNext)
        (tSeq (tAsg (tOp (rI (fun _ j => 0 < j) fun i j => .int (i % j)) (tOp (rTimes K) (tOp (rIx K) (tVar 0) (tC (.int 3))) (tOp (rIx K) (tVar 0) (tC (.int 3)))) (tC (.int 2147483563))) (gName 4))
          (tSeq (tAsg (tOp (rI (fun _ j => 0 < j) fun i j => .int (i % j)) (tOp (rPlus K) (tOp (rPlus K) (tOp (rTimes K) (tVar 4) (tC (.int 50021))) (tOp (rTimes K) (tOp (rIx K) (tVar 0) (tC (.int 3))) (tC (.int 27061)))) (tC (.int 7433))) (tC (.int 2147483563))) (gSub (tVar 0) (tC (.int 3)) rSetL))
            (tRet (tOp (rI (fun _ j => 0 < j) fun i j => .int (i % j)) (tOp (rPlus K) (tOp (rI CDiv fun i j => .int (i / j)) (tOp (rIx K) (tVar 0) (tC (.int 3))) (tC (.int 91))) (tOp (rTimes K) (tOp (rI (fun _ j => 0 < j) fun i j => .int (i % j)) (tOp (rIx K) (tVar 0) (tC (.int 3))) (tC (.int 6007))) (tC (.int 37)))) (tVar 1))))))
        { nx := fun _ H' => Q .non H', rt := Q } σ1 H1 := by
    intro σ1 H1 c p1 r1 x1 e1 ha1 hp1 hr1 hx2 hx3 keep1
    subst e1
    have hl1 : H1 l = some (.lst (ns.map V.int)) := keep1 l _ nla hl
    have keep2 : ∀ (o : HO) (b : Addr) (u : HO), b ≠ a → H b = some u → upd H1 a o b = some u := fun o b u nb e => by rw [upd_ne nb]; exact keep1 b u nb e
    refine ixl rfl ha1 rfl ⟨r1, 0, rfl, rfl, _, rfl, ?_⟩
    refine ite2 (fun hc => ?_) (fun hc => ?_)
    · have hc : 0 < r1 := by simpa using hc
      refine ixl rfl ha1 rfl ⟨_, rfl, r1, n, rfl, rfl, hn0, ?_⟩
      refine ixl rfl ha1 rfl ⟨_, rfl, r1, n, rfl, rfl, ⟨hn0, hn1⟩, setl rfl ha1 rfl ?_⟩
      refine ⟨_, rfl, ?_⟩
      refine k _ _ (Int.emod_nonneg _ (by omega)) (Int.emod_lt_of_pos _ hn0) (keep2 _) ⟨ns, p1, r1 / n, x1, upd_same, by rw [upd_ne nla]; exact hl1, hp1, h63, Int.ediv_nonneg hr1 (by omega), hx2, hx3⟩
    · refine ixl rfl ha1 rfl (ixl rfl ha1 rfl (.inl ⟨x1, x1, rfl, rfl, .inl ⟨by omega, by omega⟩, x1 * x1, 2147483563, rfl, rfl, by show (0 : Int) < 2147483563; decide, ?_⟩))
      have ht0 : 0 ≤ x1 * x1 % 2147483563 := Int.emod_nonneg _ (by decide)
      have ht1 : x1 * x1 % 2147483563 < 2147483563 := Int.emod_lt_of_pos _ (by decide)
      refine ⟨_, rfl, .inl ⟨x1 * x1 % 2147483563, 50021, rfl, rfl, .inr ⟨by decide, by decide⟩, ?_⟩⟩
      refine ixl rfl ha1 rfl (.inl ⟨x1, 27061, rfl, rfl, .inr ⟨by decide, by decide⟩, ?_⟩)
      refine .inl ⟨_, _, rfl, rfl, .inl ⟨_, 7433, rfl, rfl, ⟨_, 2147483563, rfl, rfl, by show (0 : Int) < 2147483563; decide, setl rfl ha1 rfl ?_⟩⟩⟩
      have hy0 : 0 ≤ (x1 * x1 % 2147483563 * 50021 + x1 * 27061 + 7433) % 2147483563 := Int.emod_nonneg _ (by decide)
      have hy1 : (x1 * x1 % 2147483563 * 50021 + x1 * 27061 + 7433) % 2147483563 < 2147483563 := Int.emod_lt_of_pos _ (by decide)
      refine ixl rfl upd_same rfl ⟨_, 91, rfl, rfl, ⟨by decide, by decide⟩, ?_⟩
      refine ixl rfl upd_same rfl ⟨_, 6007, rfl, rfl, by show (0 : Int) < 6007; decide, .inl ⟨_, 37, rfl, rfl, .inr ⟨by decide, by decide⟩, .inl ⟨_, _, rfl, rfl, _, rfl, _, n, rfl, rfl, hn0, ?_⟩⟩⟩
      exact k _ _ (Int.emod_nonneg _ (by omega)) (Int.emod_lt_of_pos _ hn0) (keep2 _) ⟨ns, p1, r1, _, upd_same, by rw [upd_ne nla]; exact hl1, hp1, h63, hr1, hy0, hy1⟩
  -- the first test
  refine ixl rfl ha rfl (.inl ⟨rfl, _, rfl, ?_⟩)
  have er : decide (V.int r = V.int 0) = decide (r = 0) := decide_eq_decide.mpr ⟨fun q => V.int.inj q, fun q => by rw [q]⟩
  rw [er]
  refine ite2 (fun _ => ?_) (fun _ => ?_)
  · refine ixl rfl ha rfl (ixl rfl ha rfl ⟨_, ns.length, rfl, .inl ⟨_, SqL.of hl, by rw [List.length_map]⟩, p, ns.length, rfl, rfl, _, rfl, ?_⟩)
    refine ite2 (fun hc => ?_) (fun hc => ?_)
    · have hc : p < ns.length := by simpa using hc
      obtain ⟨c, hcv⟩ : ∃ c, ns[p]? = some c := ⟨ns[p], by simp [hc]⟩
      have hat : atI (ns.map V.int) (p : Int) = some (.int c) := by
        unfold atI ixN
        rw [if_pos (by omega), if_pos (by rw [List.length_map]; omega)]
        simp [hcv]
      refine ixl rfl ha rfl (ixl rfl ha rfl (.inl ⟨l, _, p, .int c, rfl, rfl, SqL.of hl, hat, ?_⟩))
      refine ixl rfl ha rfl (.inl ⟨p, 1, rfl, rfl, setl rfl ha rfl ?_⟩)
      refine ⟨_, rfl, 10, 18, rfl, rfl, ⟨by decide, by decide, by decide⟩, c, _, rfl, rfl, _, rfl, ?_⟩
      refine ite2 (fun hc2 => ?_) (fun hc2 => ?_)
      · have hc2 : (10 : Int) ^ (18 : Int).toNat ≤ c := by simpa using hc2
        have hc3 : (0 : Int) ≤ c := Int.le_trans (by decide) hc2
        refine ⟨_, rfl, setl rfl upd_same rfl ?_⟩
        refine rest _ _ _ (p + 1) c x rfl upd_same (by omega) hc3 hx0 hx1 fun b o nb e => by rw [upd_ne nb, upd_ne nb]; exact e
      · refine ixl rfl upd_same rfl (.inl ⟨x, 46141, rfl, rfl, .inr ⟨by decide, by decide⟩, ?_⟩)
        refine ⟨_, rfl, c, 2147483549, rfl, rfl, by show (0 : Int) < 2147483549; decide, .inl ⟨_, 617, rfl, rfl, .inr ⟨by decide, by decide⟩, ?_⟩⟩
        refine .inl ⟨_, _, rfl, rfl, .inl ⟨_, 29, rfl, rfl, ⟨_, 2147483563, rfl, rfl, by show (0 : Int) < 2147483563; decide, setl rfl upd_same rfl ?_⟩⟩⟩
        refine rest _ _ _ (p + 1) r _ rfl upd_same (by omega) hr0 (Int.emod_nonneg _ (by decide)) (Int.emod_lt_of_pos _ (by decide)) fun b o nb e => by rw [upd_ne nb, upd_ne nb]; exact e
    · exact rest _ _ _ p r x rfl ha hp hr0 hx0 hx1 fun b o nb e => e
  · exact rest _ _ _ p r x rfl ha hp hr0 hx0 hx1 fun b o nb e => e
end
section
variable {T : Type} {C : Cc T} {s : T} {P : A → T → Prop}
theorem rc_draw {E : XK} {a l : Addr} {n : Int} (hs : HasSrc C a l) (h0 : 0 < n) (h1 : n < 1073741824) (p : ∀ r : Int, 0 ≤ r → r < n → P (.d (.int r)) s) : RC C (fun vs H Q => spDraw C.K (vs ++ []) H Q E) [.o a, .d (.int n)] s P := fun h H vs z av Q k => by
  show spDraw C.K (vs ++ []) H Q E
  rw [List.append_nil]
  cases av with
  | cons r t =>
    cases t with
    | cons r2 t =>
      cases t; cases r; cases r2
      refine ⟨a, l, n, rfl, hs.at_ z.inv, h0, h1, fun r H' g0 g1 e so => ?_⟩
      refine k _ s _ H' (p r g0 g1) ⟨fun b o n q => e b o (fun eq => by rw [eq, hs.ma] at n; cases n) q, fun b q => ?_⟩ (hs.put z.inv z.good z.sub e so) (Dx.int r)
      by_cases eb : b = a
      · subst eb
        obtain ⟨_, _, _, _, e, _⟩ := so
        rw [e]; exact fun z => nomatch z
      · cases r : H b with
        | none => exact absurd r q
        | some o => rw [e b o eb r]; exact fun z => nomatch z
end

/-! the comparison -/
/-- data that may be compared, of depth n at most -/
def Sn : Nat → PyData → Prop
  | 0, _ => False
  | n + 1, .list ds => ds.length ≤ 10000 ∧ ∀ x ∈ ds, Sn n x
  | n + 1, .tuple ds => ds.length ≤ 10000 ∧ ∀ x ∈ ds, Sn n x
  | _ + 1, .dict _ => False
  | _ + 1, _ => True
def R_same (n : Nat) (ds : List PyData) (r : PyData) : Prop := ∃ d, ds = [d, d] ∧ Sn n d ∧ r = .bool true
theorem pairs_same : ∀ ds : List PyData, pairsD ds ds = ds.map fun d => .tuple [d, d]
  | [] => rfl
  | d :: ds => by show PyData.tuple [d, d] :: pairsD ds ds = _; rw [pairs_same ds]; rfl
section
variable {T : Type} {C : Cc T} {G : Gm} {s : T} {i j : Nat} {d : PyData} {n : String} {b : Bool}
theorem et_isiNe {Pb : Bool → T → Prop} (hi : G[i]? = some (some (.d d))) (hj : G[j]? = some (some (.d d))) (hb : kitB (tyD d) n = some b) (p : Pb false s) :
    EvT C (tTest (tOp (rNeU C.K) (tCB (rIsi C.K) (tCons (tVar i) (tCons (tC (.ty n)) tNil))) (tCB (rIsi C.K) (tCons (tVar j) (tCons (tC (.ty n)) tNil))))) G s Pb := by
  refine et_test (ev_op (ev_isi (ev_var hi ⟨d, b, rfl, hb, ev_isi (ev_var hj ⟨d, b, rfl, hb, ro_neU1 (ro_neB ⟨_, rfl, ?_⟩)⟩)⟩)))
  have e : (!decide (b = b)) = false := by simp
  rw [e]; exact p
theorem ev_isiEq {P : A → T → Prop} (hi : G[i]? = some (some (.d d))) (hj : G[j]? = some (some (.d d))) (hb : kitB (tyD d) n = some b) (p : P (.d (.bool true)) s) :
    EvE C (tOp (rEqU C.K) (tCB (rIsi C.K) (tCons (tVar i) (tCons (tC (.ty n)) tNil))) (tCB (rIsi C.K) (tCons (tVar j) (tCons (tC (.ty n)) tNil)))) G s P := by
  refine ev_op (ev_isi (ev_var hi ⟨d, b, rfl, hb, ev_isi (ev_var hj ⟨d, b, rfl, hb, ro_eqU1 (ro_eqB ?_)⟩)⟩))
  have e : decide (b = b) = true := by simp
  rw [e]; exact p
theorem kb_NoneType_list : kitB "NoneType" "list" = some false := by decide +kernel
theorem kb_NoneType_tuple : kitB "NoneType" "tuple" = some false := by decide +kernel
theorem kb_NoneType_bool : kitB "NoneType" "bool" = some false := by decide +kernel
theorem kb_NoneType_int : kitB "NoneType" "int" = some false := by decide +kernel
theorem kb_NoneType_str : kitB "NoneType" "str" = some false := by decide +kernel
theorem kb_bool_list : kitB "bool" "list" = some false := by decide +kernel
theorem kb_bool_tuple : kitB "bool" "tuple" = some false := by decide +kernel
theorem kb_bool_bool : kitB "bool" "bool" = some true := by decide +kernel
theorem kb_bool_int : kitB "bool" "int" = some true := by decide +kernel
theorem kb_bool_str : kitB "bool" "str" = some false := by decide +kernel
theorem kb_int_list : kitB "int" "list" = some false := by decide +kernel
theorem kb_int_tuple : kitB "int" "tuple" = some false := by decide +kernel
theorem kb_int_bool : kitB "int" "bool" = some false := by decide +kernel
theorem kb_int_int : kitB "int" "int" = some true := by decide +kernel
theorem kb_int_str : kitB "int" "str" = some false := by decide +kernel
theorem kb_str_list : kitB "str" "list" = some false := by decide +kernel
theorem kb_str_tuple : kitB "str" "tuple" = some false := by decide +kernel
theorem kb_str_bool : kitB "str" "bool" = some false := by decide +kernel
theorem kb_str_int : kitB "str" "int" = some false := by decide +kernel
theorem kb_str_str : kitB "str" "str" = some true := by decide +kernel
theorem kb_list_list : kitB "list" "list" = some true := by decide +kernel
theorem kb_list_tuple : kitB "list" "tuple" = some false := by decide +kernel
theorem kb_list_bool : kitB "list" "bool" = some false := by decide +kernel
theorem kb_list_int : kitB "list" "int" = some false := by decide +kernel
theorem kb_list_str : kitB "list" "str" = some false := by decide +kernel
theorem kb_tuple_list : kitB "tuple" "list" = some false := by decide +kernel
theorem kb_tuple_tuple : kitB "tuple" "tuple" = some true := by decide +kernel
theorem kb_tuple_bool : kitB "tuple" "bool" = some false := by decide +kernel
theorem kb_tuple_int : kitB "tuple" "int" = some false := by decide +kernel
theorem kb_tuple_str : kitB "tuple" "str" = some false := by decide +kernel
theorem kit2f {K : PySem.W.Frag} {a b c : String} (h1 : kitB a b = some false) (h2 : kitB a c = some false) : PySem.W.kitAny K (.type a) [.type b, .type c] = some false :=
  kitAny_cons (b := false) (kit_ty h1) (fun _ => kitAny_cons (b := false) (kit_ty h2) (fun _ => rfl) (fun z => nomatch z)) (fun z => nomatch z)
theorem kit2l {K : PySem.W.Frag} {a b c : String} (h1 : kitB a b = some true) : PySem.W.kitAny K (.type a) [.type b, .type c] = some true :=
  kitAny_cons (b := true) (kit_ty h1) (fun z => nomatch z) (fun _ => rfl)
theorem kit2r {K : PySem.W.Frag} {a b c : String} (h1 : kitB a b = some false) (h2 : kitB a c = some true) : PySem.W.kitAny K (.type a) [.type b, .type c] = some true :=
  kitAny_cons (b := false) (kit_ty h1) (fun _ => kitAny_cons (b := true) (kit_ty h2) (fun z => nomatch z) (fun _ => rfl)) (fun z => nomatch z)
end
section
variable {P : Program} {w : World} {K : PySem.W.Frag} {mg : Str → Option Value} {base : Heap}
theorem df_same (T : Txt K mg) (F0 : Tp K mg "_law_same" s_law_same) : ∀ n, Df P w K mg base "_law_same" n ["_law_found", "_law_due"] (spP K (R_same n))
  | 0 => df_no F0 (by rintro vs H Q E ⟨m, ds, d, _, _, ⟨_, _, z, _⟩, _⟩; exact z) (fun _ _ _ _ _ _ us hl => match us, hl with | [_, _], _ => rfl)
  | n + 1 => by
    have D_law_same := df_same T F0 n
    obtain ⟨f, fd, F, hm⟩ := id F0
    refine ⟨f, fd, F.ok sc_law_same (spP_len (n := 2) (by rintro ds d ⟨_, rfl, _⟩; rfl)) (fun cdv A outer s H vs Q E hr h => ?_), hm, F.kp, (F.binds fun _ _ _ _ _ _ us hl => match us, hl with | [_, _], _ => rfl)⟩
    refine ⟨_, (pss_cons (ps_if (PW.pt (pw_or (pt_cmpR op_isN (pv 1) pe_non (nomark _)) (pw_or1 (pt_cmpR op_isN (pv 0) pe_non (nomark _)))))
  (pss_one (ps_ret (pe_and (pe_cmpR op_isN (pv 0) pe_non (nomark _)) (pe_one (pe_cmpR op_isN (pv 1) pe_non (nomark _))))))
  pss_nil)
  (pss_cons (ps_if (pt_val (pe_callB (kc_isiT (K := K) rfl) (by rfl) T.b_isinstance (by decide +kernel) (pa_cons (pv 1) (pa_cons (pe_tup (pa_cons (pe_bltn (v := .ty "list") (by rfl) T.b_list (by decide +kernel) rfl) (pa_cons (pe_bltn (v := .ty "tuple") (by rfl) T.b_tuple (by decide +kernel) rfl) pa_nil))) pa_nil))))
  (pss_cons (ps_if (PW.pt (pw_or (pt_cmpR (kop_ne (K := K) rfl hr.units) (pe_callB (kc_isi (K := K) rfl) (by rfl) T.b_isinstance (by decide +kernel) (pa_cons (pv 0) (pa_cons (pe_bltn (v := .ty "list") (by rfl) T.b_list (by decide +kernel) rfl) pa_nil))) (pe_callB (kc_isi (K := K) rfl) (by rfl) T.b_isinstance (by decide +kernel) (pa_cons (pv 1) (pa_cons (pe_bltn (v := .ty "list") (by rfl) T.b_list (by decide +kernel) rfl) pa_nil))) (nomark _)) (pw_or1 (pt_cmpR (kop_ne (K := K) rfl hr.units) (pe_callB (kc_isi (K := K) rfl) (by rfl) T.b_isinstance (by decide +kernel) (pa_cons (pv 0) (pa_cons (pe_bltn (v := .ty "tuple") (by rfl) T.b_tuple (by decide +kernel) rfl) pa_nil))) (pe_callB (kc_isi (K := K) rfl) (by rfl) T.b_isinstance (by decide +kernel) (pa_cons (pv 1) (pa_cons (pe_bltn (v := .ty "tuple") (by rfl) T.b_tuple (by decide +kernel) rfl) pa_nil))) (nomark _)))))
  (pss_one (ps_ret pe_bl))
  pss_nil)
  (pss_one (ps_ret (pe_and (pe_cmpR (kop_eq (K := K) rfl hr.units) (pe_callB (kc_len (K := K) rfl) (by rfl) T.b_len (by decide +kernel) (pa_cons (pv 0) pa_nil)) (pe_callB (kc_len (K := K) rfl) (by rfl) T.b_len (by decide +kernel) (pa_cons (pv 1) pa_nil)) (nomark _)) (pe_one (pe_callB (kc_all (K := K) rfl rfl) (by rfl) T.b_all (by decide +kernel) (pa_cons (pe_lc (own := [("_law_one", 2), ("_law_other", 3)]) (by rfl) sc_law_same.nd (kpi_zip (K := K) rfl (by rfl) T.b_zip (pa_cons (pv 0) (pa_cons (pv 1) pa_nil))) (blkOk_by (own := [("_law_one", 2), ("_law_other", 3)]) (N := N_law_same) (sc := defScope s_law_same) (by decide +kernel)) (fun _ _ _ _ _ => (kpg_tup (K := K) (n := 2) rfl (pg_tup (by rfl) (pgs_cons (pg_name (i := 2) sc_law_same.nd rfl (by first | exact Or.inl rfl | exact Or.inr rfl)) (pgs_cons (pg_name (i := 3) sc_law_same.nd rfl (by first | exact Or.inl rfl | exact Or.inr rfl)) pgs_nil))) (pg_unl (by rfl) (pgs_cons (pg_name (i := 2) sc_law_same.nd rfl (by first | exact Or.inl rfl | exact Or.inr rfl)) (pgs_cons (pg_name (i := 3) sc_law_same.nd rfl (by first | exact Or.inl rfl | exact Or.inr rfl)) pgs_nil))))) (fun _ _ _ _ _ => pts_nil) (fun _ _ _ _ _ => (pe_df D_law_same (hr.mono (by first | decide | omega)) (by rfl) (pa_cons (pv 2) (pa_cons (pv 3) pa_nil))))) pa_nil)))))))
  pss_nil)
  (pss_cons (ps_if (PW.pt (pw_or (pt_cmpR (kop_ne (K := K) rfl hr.units) (pe_callB (kc_isi (K := K) rfl) (by rfl) T.b_isinstance (by decide +kernel) (pa_cons (pv 0) (pa_cons (pe_bltn (v := .ty "bool") (by rfl) T.b_bool (by decide +kernel) rfl) pa_nil))) (pe_callB (kc_isi (K := K) rfl) (by rfl) T.b_isinstance (by decide +kernel) (pa_cons (pv 1) (pa_cons (pe_bltn (v := .ty "bool") (by rfl) T.b_bool (by decide +kernel) rfl) pa_nil))) (nomark _)) (pw_or1 (pt_cmpR (kop_ne (K := K) rfl hr.units) (pe_callB (kc_isi (K := K) rfl) (by rfl) T.b_isinstance (by decide +kernel) (pa_cons (pv 0) (pa_cons (pe_bltn (v := .ty "int") (by rfl) T.b_int (by decide +kernel) rfl) pa_nil))) (pe_callB (kc_isi (K := K) rfl) (by rfl) T.b_isinstance (by decide +kernel) (pa_cons (pv 1) (pa_cons (pe_bltn (v := .ty "int") (by rfl) T.b_int (by decide +kernel) rfl) pa_nil))) (nomark _)))))
  (pss_one (ps_ret pe_bl))
  pss_nil)
  (pss_one (ps_ret (pe_and (pe_cmpR (kop_eq (K := K) rfl hr.units) (pe_callB (kc_isi (K := K) rfl) (by rfl) T.b_isinstance (by decide +kernel) (pa_cons (pv 0) (pa_cons (pe_bltn (v := .ty "str") (by rfl) T.b_str (by decide +kernel) rfl) pa_nil))) (pe_callB (kc_isi (K := K) rfl) (by rfl) T.b_isinstance (by decide +kernel) (pa_cons (pv 1) (pa_cons (pe_bltn (v := .ty "str") (by rfl) T.b_str (by decide +kernel) rfl) pa_nil))) (nomark _)) (pe_one (pe_cmpR (kop_eq (K := K) rfl hr.units) (pv 0) (pv 1) (nomark _))))))))), pure_body h fun m ds r hl hR => ?_⟩
    obtain ⟨d, rfl, hS, rfl⟩ := hR
    cases d with
    | none =>
      refine sm_seq (sm_if (et_or (et_test (ev_op (ev_var rfl (ev_non (ro_isN ⟨_, rfl, iteT (iteT ?_)⟩)))))))
      exact sm_ret (ev_andV (ev_op (ev_var rfl (ev_non (ro_isN ⟨_, rfl, iteT (ev_op (ev_var rfl (ev_non (ro_isN rfl))))⟩)))))
    | dict _ => exact hS.elim
    | bool v =>
      refine sm_seq (sm_if (et_or (et_test (ev_op (ev_var rfl (ev_non (ro_isN ⟨_, rfl, iteF (et_test (ev_op (ev_var rfl (ev_non (ro_isN ⟨_, rfl, iteF (sm_next ?_)⟩)))))⟩)))))))
      refine sm_seq (sm_if (et_B (ev_isi2 (ev_var rfl ⟨_, false, rfl, kit2f kb_bool_list kb_bool_tuple, _, rfl, iteF (sm_next ?_)⟩))))
      refine sm_seq (sm_if (et_or (et_isiNe (d := .bool v) (b := true) rfl rfl kb_bool_bool (iteF (et_isiNe (d := .bool v) (b := true) rfl rfl kb_bool_int (iteF (sm_next ?_)))))))
      refine sm_ret (ev_andV (ev_isiEq (d := .bool v) (b := false) rfl rfl kb_bool_str ⟨_, rfl, iteT (ev_op (ev_var rfl (ev_var rfl (ro_eqU1 (ro_eqB ?_)))))⟩))
      simp
    | int v =>
      refine sm_seq (sm_if (et_or (et_test (ev_op (ev_var rfl (ev_non (ro_isN ⟨_, rfl, iteF (et_test (ev_op (ev_var rfl (ev_non (ro_isN ⟨_, rfl, iteF (sm_next ?_)⟩)))))⟩)))))))
      refine sm_seq (sm_if (et_B (ev_isi2 (ev_var rfl ⟨_, false, rfl, kit2f kb_int_list kb_int_tuple, _, rfl, iteF (sm_next ?_)⟩))))
      refine sm_seq (sm_if (et_or (et_isiNe (d := .int v) (b := false) rfl rfl kb_int_bool (iteF (et_isiNe (d := .int v) (b := true) rfl rfl kb_int_int (iteF (sm_next ?_)))))))
      refine sm_ret (ev_andV (ev_isiEq (d := .int v) (b := false) rfl rfl kb_int_str ⟨_, rfl, iteT (ev_op (ev_var rfl (ev_var rfl (ro_eqU1 (ro_eqI ?_)))))⟩))
      simp
    | str v =>
      refine sm_seq (sm_if (et_or (et_test (ev_op (ev_var rfl (ev_non (ro_isN ⟨_, rfl, iteF (et_test (ev_op (ev_var rfl (ev_non (ro_isN ⟨_, rfl, iteF (sm_next ?_)⟩)))))⟩)))))))
      refine sm_seq (sm_if (et_B (ev_isi2 (ev_var rfl ⟨_, false, rfl, kit2f kb_str_list kb_str_tuple, _, rfl, iteF (sm_next ?_)⟩))))
      refine sm_seq (sm_if (et_or (et_isiNe (d := .str v) (b := false) rfl rfl kb_str_bool (iteF (et_isiNe (d := .str v) (b := false) rfl rfl kb_str_int (iteF (sm_next ?_)))))))
      refine sm_ret (ev_andV (ev_isiEq (d := .str v) (b := true) rfl rfl kb_str_str ⟨_, rfl, iteT (ev_op (ev_var rfl (ev_var rfl (ro_eqU1 (ro_eqS ?_)))))⟩))
      simp
    | list xs =>
      obtain ⟨hlen, hx⟩ := hS
      refine sm_seq (sm_if (et_or (et_test (ev_op (ev_var rfl (ev_non (ro_isN ⟨_, rfl, iteF (et_test (ev_op (ev_var rfl (ev_non (ro_isN ⟨_, rfl, iteF (sm_next ?_)⟩)))))⟩)))))))
      refine sm_seq (sm_if (et_B (ev_isi2 (ev_var rfl ⟨_, true, rfl, kit2l kb_list_list, _, rfl, iteT ?_⟩))))
      refine sm_seq (sm_if (et_or (et_isiNe (d := .list xs) (b := true) rfl rfl kb_list_list (iteF (et_isiNe (d := .list xs) (b := false) rfl rfl kb_list_tuple (iteF (sm_next ?_)))))))
      refine sm_ret (ev_andV (ev_op (ev_cb (ev_cons (ev_var rfl (ev_nil (rc_lenL (ev_cb (ev_cons (ev_var rfl (ev_nil (rc_lenL (ro_eqU1 (ro_eqI ⟨_, rfl, ?_⟩))))))))))))))
      have e : decide ((xs.length : Int) = xs.length) = true := by simp
      rw [e]
      refine iteT (ev_cb (ev_cons (ev_lcN (ts := [2, 3]) xs (fun d => .d (.tuple [d, d])) (fun _ => .bool true) (by simp) (ei_zipL (ev_cons (ev_var rfl (ev_cons (ev_var rfl (ev_nil ⟨_, _, rfl, ?_⟩)))))))))
      refine ⟨by rw [pairs_same, List.map_map]; rfl, by omega, fun d hd => eg_pairU (ev_call (ev_cons (ev_var rfl (ev_cons (ev_var rfl (ev_nil (rc_pure rfl ⟨d, rfl, hx d hd, rfl⟩ ⟨rfl, rfl⟩))))))), ?_⟩
      refine ev_nil (rc_allE (bs := xs.map fun _ => true) (by rw [List.map_map]; rfl) ?_)
      have e2 : (xs.map fun _ => true).all id = true := by rw [List.all_map]; simp
      rw [e2]
    | tuple xs =>
      obtain ⟨hlen, hx⟩ := hS
      refine sm_seq (sm_if (et_or (et_test (ev_op (ev_var rfl (ev_non (ro_isN ⟨_, rfl, iteF (et_test (ev_op (ev_var rfl (ev_non (ro_isN ⟨_, rfl, iteF (sm_next ?_)⟩)))))⟩)))))))
      refine sm_seq (sm_if (et_B (ev_isi2 (ev_var rfl ⟨_, true, rfl, kit2r kb_tuple_list kb_tuple_tuple, _, rfl, iteT ?_⟩))))
      refine sm_seq (sm_if (et_or (et_isiNe (d := .tuple xs) (b := false) rfl rfl kb_tuple_list (iteF (et_isiNe (d := .tuple xs) (b := true) rfl rfl kb_tuple_tuple (iteF (sm_next ?_)))))))
      refine sm_ret (ev_andV (ev_op (ev_cb (ev_cons (ev_var rfl (ev_nil (rc_lenT (ev_cb (ev_cons (ev_var rfl (ev_nil (rc_lenT (ro_eqU1 (ro_eqI ⟨_, rfl, ?_⟩))))))))))))))
      have e : decide ((xs.length : Int) = xs.length) = true := by simp
      rw [e]
      refine iteT (ev_cb (ev_cons (ev_lcN (ts := [2, 3]) xs (fun d => .d (.tuple [d, d])) (fun _ => .bool true) (by simp) (ei_zipT (ev_cons (ev_var rfl (ev_cons (ev_var rfl (ev_nil ⟨_, _, rfl, ?_⟩)))))))))
      refine ⟨by rw [pairs_same, List.map_map]; rfl, by omega, fun d hd => eg_pairU (ev_call (ev_cons (ev_var rfl (ev_cons (ev_var rfl (ev_nil (rc_pure rfl ⟨d, rfl, hx d hd, rfl⟩ ⟨rfl, rfl⟩))))))), ?_⟩
      refine ev_nil (rc_allE (bs := xs.map fun _ => true) (by rw [List.map_map]; rfl) ?_)
      have e2 : (xs.map fun _ => true).all id = true := by rw [List.all_map]; simp
      rw [e2]
end

/-! ### words -/
def letters : Str := "abcdefghijklmnopqrstuvwxyz"
def isLet (c : Nat) : Bool := decide (c ∈ letters.cps.toList)
def lowc (t : Str) (n : Int) : Bool := (decide (1 ≤ (t.length : Int)) && decide ((t.length : Int) ≤ n)) && t.cps.toList.all isLet
def R_low (ds : List PyData) (d : PyData) : Prop := ∃ (t : Str) (n : Int), ds = [.str t, .int n] ∧ t.length ≤ 5000 ∧ d = .bool (lowc t n)
def R_lowN (n : Int) (ds : List PyData) (d : PyData) : Prop := ∃ t : Str, ds = [.str t] ∧ t.length ≤ 5000 ∧ d = .bool (lowc t n)
section
variable {P : Program} {w : World} {K : PySem.W.Frag} {mg : Str → Option Value} {base : Heap}
theorem df_is_lowercase (T : Txt K mg) (F : Tp K mg "is_lowercase" s_is_lowercase) : Df P w K mg base "is_lowercase" 1 ["text", "most"] (spP K R_low) := by
  obtain ⟨f, fd, F, hm⟩ := F
  refine ⟨f, fd, F.ok sc_is_lowercase (spP_len (n := 2) (by rintro ds d ⟨t, n, rfl, _⟩; rfl)) (fun cdv A outer s H vs Q E hr h => ?_), hm, F.kp, (F.binds fun _ _ _ _ _ _ us hl => match us, hl with | [_, _], _ => rfl)⟩
  refine ⟨_, (pss_one (ps_ret (pe_and (pe_chain op_le op_le pe_int (pe_callB (kc_len (K := K) rfl) (by rfl) T.b_len (by decide +kernel) (pa_cons (pv 0) pa_nil)) (pv 1)) (pe_one (pe_callB (kc_all (K := K) rfl rfl) (by rfl) T.b_all (by decide +kernel) (pa_cons (pe_lc (own := [("sign", 2)]) (by rfl) sc_is_lowercase.nd (kpi (K := K) rfl (pv 0)) (blkOk_by (own := [("sign", 2)]) (N := N_is_lowercase) (sc := defScope s_is_lowercase) (by decide +kernel)) (fun _ _ _ _ _ => (pg_name (i := 2) sc_is_lowercase.nd rfl (by first | exact Or.inl rfl | exact Or.inr rfl))) (fun _ _ _ _ _ => pts_nil) (fun _ _ _ _ _ => (pe_cmpR (kop_in (K := K) rfl) (pv 2) (pe_gs rfl T.g_LETTERS) (by rfl)))) pa_nil)))))), pure_body h fun m ds d hl hR => ?_⟩
  obtain ⟨t, n, rfl, hlen, rfl⟩ := hR
  refine sm_ret (ev_andV (ev_chain (ev_int (ev_cb (ev_cons (ev_var rfl (ev_nil (rc_lenS (by omega) (ro_bl rfl ⟨_, rfl, ?_⟩)))))))))
  refine ite2 (fun h1 => ev_var rfl (ro_bl rfl ⟨_, rfl, ite2 (fun h2 => ?_) (fun h2 => ?_)⟩)) (fun h1 => ⟨false, rfl, iteF ?_⟩)
  · refine ev_cb (ev_cons (ev_lcN (ts := [2]) t.cps.toList (fun c => .d (.str ⟨#[c]⟩)) (fun c => .bool (isLet c)) (by simp) (ei_str (ev_var rfl ⟨_, rfl, by rw [signs, List.map_map]; rfl, ?_, fun c hc => eg_name ?_, ?_⟩))))
    · have : t.cps.toList.length = t.length := by simp [Str.length]
      omega
    · exact ev_op (ev_var rfl (ev_str (ro_in1 ⟨rfl, rfl⟩)))
    · refine ev_nil (rc_allE (bs := t.cps.toList.map isLet) (by rw [List.map_map]; rfl) ?_)
      unfold lowc
      rw [h1, h2, List.all_map]
      rfl
  · rw [Bool.not_eq_true] at h2
    unfold lowc
    rw [h2, Bool.and_false, Bool.false_and]
  · rw [Bool.not_eq_true] at h1
    unfold lowc
    rw [h1, Bool.false_and, Bool.false_and]
theorem df_is_word (T : Txt K mg) (D_is_lowercase : Df P w K mg base "is_lowercase" 1 ["text", "most"] (spP K R_low)) (F : Tp K mg "is_word" s_is_word) : Df P w K mg base "is_word" 2 ["text"] (spP K (R_lowN 6)) := by
  obtain ⟨f, fd, F, hm⟩ := F
  refine ⟨f, fd, F.ok sc_is_word (spP_len (n := 1) (by rintro ds d ⟨t, rfl, _⟩; rfl)) (fun cdv A outer s H vs Q E hr h => ?_), hm, F.kp, (F.binds fun _ _ _ _ _ _ us hl => match us, hl with | [_], _ => rfl)⟩
  refine ⟨_, (pss_one (ps_ret (pe_df D_is_lowercase (hr.mono (by first | decide | omega)) (by rfl) (pa_cons (pv 0) (pa_cons (pe_gi rfl T.g_MAX_WORD) pa_nil))))), pure_body h fun m ds d hl hR => ?_⟩
  obtain ⟨t, rfl, hlen, rfl⟩ := hR
  exact sm_ret (ev_call (ev_cons (ev_var rfl (ev_cons (ev_int (ev_nil (rc_pure rfl ⟨t, 6, rfl, hlen, rfl⟩ rfl)))))))
end

section
variable {P : Program} {w : World} {K : PySem.W.Frag} {mg : Str → Option Value} {base : Heap}
theorem df_is_name (T : Txt K mg) (D_is_lowercase : Df P w K mg base "is_lowercase" 1 ["text", "most"] (spP K R_low)) (F : Tp K mg "is_name" s_is_name) : Df P w K mg base "is_name" 2 ["text"] (spP K (R_lowN 8)) := by
  obtain ⟨f, fd, F, hm⟩ := F
  refine ⟨f, fd, F.ok sc_is_name (spP_len (n := 1) (by rintro ds d ⟨t, rfl, _⟩; rfl)) (fun cdv A outer s H vs Q E hr h => ?_), hm, F.kp, (F.binds fun _ _ _ _ _ _ us hl => match us, hl with | [_], _ => rfl)⟩
  refine ⟨_, (pss_one (ps_ret (pe_df D_is_lowercase (hr.mono (by first | decide | omega)) (by rfl) (pa_cons (pv 0) (pa_cons (pe_gi rfl T.g_MAX_NAME) pa_nil))))), pure_body h fun m ds d hl hR => ?_⟩
  obtain ⟨t, rfl, hlen, rfl⟩ := hR
  exact sm_ret (ev_call (ev_cons (ev_var rfl (ev_cons (ev_int (ev_nil (rc_pure rfl ⟨t, 8, rfl, hlen, rfl⟩ rfl)))))))
end

/-! ### choices -/
def R_letters (ds : List PyData) (d : PyData) : Prop := ds = [] ∧ d = .str letters
def preChoice (ds : List PyData) : Prop := (∃ w : Str, ds = [.str w] ∧ 1 ≤ w.length ∧ w.length ≤ 1000) ∨ ∃ xs : List PyData, ds = [.list xs] ∧ 1 ≤ xs.length ∧ xs.length ≤ 1000
def R_choice (ds : List PyData) (d : PyData) : Prop := (∃ (w : Str) (c : Nat), ds = [.str w] ∧ c ∈ w.cps.toList ∧ d = .str ⟨#[c]⟩) ∨ ∃ xs : List PyData, ds = [.list xs] ∧ d ∈ xs
theorem atI_ok {α : Type} {xs : List α} {r : Int} (h0 : 0 ≤ r) (h1 : r < xs.length) : ∃ x, atI xs r = some x ∧ x ∈ xs := by
  have hz : r.toNat < xs.length := by omega
  refine ⟨xs[r.toNat], ?_, List.getElem_mem hz⟩
  unfold atI ixN
  rw [if_pos h0, if_pos h1]
  simp [hz]
section
variable {P : Program} {w : World} {K : PySem.W.Frag} {mg : Str → Option Value} {base : Heap}
theorem df_letters (T : Txt K mg) (F : Tp K mg "_law_letters" s_law_letters) : Df P w K mg base "_law_letters" 1 [] (spP K R_letters) := by
  obtain ⟨f, fd, F, hm⟩ := F
  refine ⟨f, fd, F.ok sc_law_letters (spP_len (n := 0) (by rintro ds d ⟨rfl, _⟩; rfl)) (fun cdv A outer s H vs Q E hr h => ?_), hm, F.kp, (F.binds fun _ _ _ _ _ _ us hl => match us, hl with | [], _ => rfl)⟩
  refine ⟨_, (pss_one (ps_ret pe_str)), pure_body h fun m ds d hl hR => ?_⟩
  obtain ⟨rfl, rfl⟩ := hR
  exact sm_ret (ev_str rfl)
theorem df_choice (T : Txt K mg) (D_law_draw : Df P w K mg base "_law_draw" 1 ["_law_source_here", "_law_count"] (spDraw K)) (F : Tp K mg "_law_choice" s_law_choice) : Df P w K mg base "_law_choice" 2 ["_law_source_here", "_law_items"] (spS K preChoice R_choice) := by
  obtain ⟨f, fd, F, hm⟩ := F
  refine ⟨f, fd, F.ok sc_law_choice (spS_len (n := 1) (by rintro ds (⟨w, rfl, _⟩ | ⟨xs, rfl, _⟩) <;> rfl)) (fun cdv A outer s H vs Q E hr h => ?_), hm, F.kp, (F.binds fun _ _ _ _ _ _ us hl => match us, hl with | [_, _], _ => rfl)⟩
  refine ⟨_, (pss_one (ps_ret (pe_ix (kix (K := K) rfl) (pv 1) (pe_df D_law_draw (hr.mono (by first | decide | omega)) (by rfl) (pa_cons (pv 0) (pa_cons (pe_callB (kc_len (K := K) rfl) (by rfl) T.b_len (by decide +kernel) (pa_cons (pv 1) pa_nil)) pa_nil))) (fun _ _ => rfl)))), src_body h fun m a l ds hs hl hp => ?_⟩
  rcases hp with ⟨w, rfl, h1, h2⟩ | ⟨xs, rfl, h1, h2⟩
  · refine sm_ret (ev_op (ev_var rfl (ev_call (ev_cons (ev_var rfl (ev_cons (ev_cb (ev_cons (ev_var rfl (ev_nil (rc_lenS (by omega) (ev_nil (rc_draw hs (by omega) (by omega) fun r r0 r1 => ?_)))))))))))))
    have e : w.cps.toList.length = w.length := by simp [Str.length]
    obtain ⟨c, hc, hm⟩ := atI_ok (xs := w.cps.toList) r0 (by rw [e]; exact r1)
    exact ro_ixS (by omega) hc ⟨_, rfl, .inl ⟨w, c, rfl, hm, rfl⟩⟩
  · refine sm_ret (ev_op (ev_var rfl (ev_call (ev_cons (ev_var rfl (ev_cons (ev_cb (ev_cons (ev_var rfl (ev_nil (rc_lenL (ev_nil (rc_draw hs (by omega) (by omega) fun r r0 r1 => ?_)))))))))))))
    obtain ⟨c, hc, hm⟩ := atI_ok (xs := xs) r0 r1
    exact ro_ixL hc ⟨_, rfl, .inr ⟨xs, rfl, hm⟩⟩
end

section
variable {P : Program} {w : World} {K : PySem.W.Frag} {mg : Str → Option Value} {base : Heap}
theorem df_law_is_lowercase (T : Txt K mg) (D_law_letters : Df P w K mg base "_law_letters" 1 [] (spP K R_letters)) (F : Tp K mg "_law_is_lowercase" s_law_is_lowercase) : Df P w K mg base "_law_is_lowercase" 2 ["_law_text", "_law_most"] (spP K R_low) := by
  obtain ⟨f, fd, F, hm⟩ := F
  refine ⟨f, fd, F.ok sc_law_is_lowercase (spP_len (n := 2) (by rintro ds d ⟨t, n, rfl, _⟩; rfl)) (fun cdv A outer s H vs Q E hr h => ?_), hm, F.kp, (F.binds fun _ _ _ _ _ _ us hl => match us, hl with | [_, _], _ => rfl)⟩
  refine ⟨_, (pss_one (ps_ret (pe_and (pe_chain op_le op_le pe_int (pe_callB (kc_len (K := K) rfl) (by rfl) T.b_len (by decide +kernel) (pa_cons (pv 0) pa_nil)) (pv 1)) (pe_one (pe_callB (kc_all (K := K) rfl rfl) (by rfl) T.b_all (by decide +kernel) (pa_cons (pe_lc (own := [("_law_sign", 2)]) (by rfl) sc_law_is_lowercase.nd (kpi (K := K) rfl (pv 0)) (blkOk_by (own := [("_law_sign", 2)]) (N := N_law_is_lowercase) (sc := defScope s_law_is_lowercase) (by decide +kernel)) (fun _ _ _ _ _ => (pg_name (i := 2) sc_law_is_lowercase.nd rfl (by first | exact Or.inl rfl | exact Or.inr rfl))) (fun _ _ _ _ _ => pts_nil) (fun _ _ _ _ _ => (pe_cmpR (kop_in (K := K) rfl) (pv 2) (pe_df0 D_law_letters (hr.mono (by first | decide | omega)) (by rfl)) (by rfl)))) pa_nil)))))), pure_body h fun m ds d hl hR => ?_⟩
  obtain ⟨t, n, rfl, hlen, rfl⟩ := hR
  refine sm_ret (ev_andV (ev_chain (ev_int (ev_cb (ev_cons (ev_var rfl (ev_nil (rc_lenS (by omega) (ro_bl rfl ⟨_, rfl, ?_⟩)))))))))
  refine ite2 (fun h1 => ev_var rfl (ro_bl rfl ⟨_, rfl, ite2 (fun h2 => ?_) (fun h2 => ?_)⟩)) (fun h1 => ⟨false, rfl, iteF ?_⟩)
  · refine ev_cb (ev_cons (ev_lcN (ts := [2]) t.cps.toList (fun c => .d (.str ⟨#[c]⟩)) (fun c => .bool (isLet c)) (by simp) (ei_str (ev_var rfl ⟨_, rfl, by rw [signs, List.map_map]; rfl, ?_, fun c hc => eg_name ?_, ?_⟩))))
    · have : t.cps.toList.length = t.length := by simp [Str.length]
      omega
    · exact ev_op (ev_var rfl (ev_call (ev_nil (rc_pure rfl ⟨rfl, rfl⟩ (ro_in1 ⟨rfl, rfl⟩)))))
    · refine ev_nil (rc_allE (bs := t.cps.toList.map isLet) (by rw [List.map_map]; rfl) ?_)
      unfold lowc
      rw [h1, h2, List.all_map]
      rfl
  · rw [Bool.not_eq_true] at h2
    unfold lowc
    rw [h2, Bool.and_false, Bool.false_and]
  · rw [Bool.not_eq_true] at h1
    unfold lowc
    rw [h1, Bool.false_and, Bool.false_and]
end

end Cl

set_option Elab.async false
set_option linter.all false
set_option maxRecDepth 100000
set_option maxHeartbeats 4000000
namespace Cl
open PySem L2 RZ
def preBent (ds : List PyData) : Prop := ∃ (t : Str) (ss : List Str), ds = [.str t, .list (ss.map .str)] ∧ t.length ≤ 500 ∧ 1 ≤ ss.length ∧ ss.length ≤ 100 ∧ ∀ s ∈ ss, s.length ≤ 10
def R_bent (ds : List PyData) (d : PyData) : Prop := ∃ w : Str, d = .str w ∧ w.length ≤ 1010
section
variable {P : Program} {w : World} {K : PySem.W.Frag} {mg : Str → Option Value} {base : Heap}
theorem df_bent (T : Txt K mg) (D_law_draw : Df P w K mg base "_law_draw" 1 ["_law_source_here", "_law_count"] (spDraw K)) (D_law_choice : Df P w K mg base "_law_choice" 2 ["_law_source_here", "_law_items"] (spS K preChoice R_choice)) (F : Tp K mg "_law_bent" s_law_bent) :
    Df P w K mg base "_law_bent" 3 ["_law_source_here", "_law_text", "_law_signs"] (spS K preBent R_bent) := by
  obtain ⟨f, fd, F, hm⟩ := F
  refine ⟨f, fd, F.ok sc_law_bent (spS_len (n := 2) (by rintro ds ⟨t, ss, rfl, _⟩; rfl)) (fun cdv A outer s H vs Q E hr h => ?_), hm, F.kp, (F.binds fun _ _ _ _ _ _ us hl => match us, hl with | [_, _, _], _ => rfl)⟩
  refine ⟨_, (pss_cons (ps_par (i := 3) (j := 4) (by rfl) sc_law_bent.nd rfl rfl (by decide) rfl rfl (pa_cons (pe_df D_law_draw (hr.mono (by first | decide | omega)) (by rfl) (pa_cons (pv 0) (pa_cons (pe_op (kop_plus (K := K) rfl) (pe_callB (kc_len (K := K) rfl) (by rfl) T.b_len (by decide +kernel) (pa_cons (pv 1) pa_nil)) pe_int) pa_nil))) (pa_cons (pe_df D_law_choice (hr.mono (by first | decide | omega)) (by rfl) (pa_cons (pv 0) (pa_cons (pv 2) pa_nil))) pa_nil)) (by rfl))
  (pss_one (ps_ret (pe_op (kop_plus (K := K) rfl) (pe_op (kop_plus (K := K) rfl) (pe_slice (ksl (K := K) rfl) (pv 1) po_none (po_some (pv 3))) (pv 4)) (pe_slice (ksl (K := K) rfl) (pv 1) (po_some (pe_op (kop_plus (K := K) rfl) (pv 3) (pe_df D_law_draw (hr.mono (by first | decide | omega)) (by rfl) (pa_cons (pv 0) (pa_cons pe_int pa_nil))))) po_none))))), src_body h fun m a l ds hs hl hp => ?_⟩
  obtain ⟨t, ss, rfl, ht, h1, h2, h3⟩ := hp
  refine sm_seq (sm_par (ev_cons (ev_call (ev_cons (ev_var rfl (ev_cons (ev_op (ev_cb (ev_cons (ev_var rfl (ev_nil (rc_lenS (by omega) (ev_int (ro_plI (ev_nil (rc_draw hs (by omega) (by omega) fun r r0 r1 => ?_))))))))))))))))
  refine ev_cons (ev_call (ev_cons (ev_var rfl (ev_cons (ev_var rfl (ev_nil (rc_src hs rfl (.inr ⟨ss.map .str, rfl, by rw [List.length_map]; exact h1, by rw [List.length_map]; omega⟩) fun d hd => ev_nil ⟨_, _, rfl, ?_⟩)))))))
  obtain ⟨x, rfl, hx⟩ : ∃ x : Str, d = .str x ∧ x.length ≤ 10 := by
    rcases hd with ⟨w, c, e, _⟩ | ⟨xs, e, hm⟩
    · cases e
    · cases e
      obtain ⟨x, hx, rfl⟩ := List.mem_map.mp hm
      exact ⟨x, rfl, h3 x hx⟩
  have c1 := cutS_length t none (some r)
  refine sm_ret (ev_op (ev_op (ev_sl (ev_var rfl (eo_none (eo_some (ev_var rfl ⟨_, rfl, rs_str (by omega) (ev_var rfl (ro_plS (by omega) ?_))⟩)))))))
  refine ev_sl (ev_var rfl (eo_some (ev_op (ev_var rfl (ev_call (ev_cons (ev_var rfl (ev_cons (ev_int (ev_nil (rc_draw hs (by decide) (by decide) fun q q0 q1 => ro_plI ⟨_, rfl, eo_none (rs_str (by omega) ?_)⟩)))))))))))
  have c2 := cutS_length t (some (r + q)) none
  have e1 := Str.length_append (cutS t none (some r)) x
  have e2 := Str.length_append (cutS t none (some r) ++ x) (cutS t (some (r + q)) none)
  exact ro_plS (by omega) ⟨_, rfl, _, rfl, by omega⟩
end

section
variable {P : Program} {w : World} {K : PySem.W.Frag} {mg : Str → Option Value} {base : Heap}
theorem ok_law (T : Txt K mg) (D_law_source : Df P w K mg base "_law_source" 1 ["_law_script"] (spSource K)) (D_law_draw : Df P w K mg base "_law_draw" 1 ["_law_source_here", "_law_count"] (spDraw K))
    (D_law_same : Df P w K mg base "_law_same" 3 ["_law_found", "_law_due"] (spP K (R_same 3))) (D_is_word : Df P w K mg base "is_word" 2 ["text"] (spP K (R_lowN 6))) (D_is_name : Df P w K mg base "is_name" 2 ["text"] (spP K (R_lowN 8)))
    (D_law_choice : Df P w K mg base "_law_choice" 2 ["_law_source_here", "_law_items"] (spS K preChoice R_choice)) (D_law_letters : Df P w K mg base "_law_letters" 1 [] (spP K R_letters))
    (D_law_is_lowercase : Df P w K mg base "_law_is_lowercase" 2 ["_law_text", "_law_most"] (spP K R_low)) (D_law_bent : Df P w K mg base "_law_bent" 3 ["_law_source_here", "_law_text", "_law_signs"] (spS K preBent R_bent))
    {f : Addr} {fd : FuncData} (F : Fun K "law" "law" s_law f fd) : FnOk P w K mg base CX0 4 f fd ["_law_script"] (spLaw K) := by
  refine F.ok sc_law (by rintro vs H Q E ⟨a, ns, rfl, _⟩; rfl) (fun cdv A outer s H vs Q E hr h => ?_)
  obtain ⟨a, ns, rfl, hS, hlen, k⟩ := h
  refine ⟨_, (pss_cons (ps_set (i := 1) sc_law.nd rfl (by first | exact Or.inl rfl | exact Or.inr rfl) (pe_df D_law_source (hr.mono (by first | decide | omega)) (by rfl) (pa_cons (pv 0) pa_nil)))
  (pss_cons (ps_for PassesOwn.never (by rfl) (pi_range1 (by rfl) T.b_range (pa_cons pe_int pa_nil)) (pg_name (i := 2) sc_law.nd rfl (by first | exact Or.inl rfl | exact Or.inr rfl))
  (pss_cons (ps_set (i := 3) sc_law.nd rfl (by first | exact Or.inl rfl | exact Or.inr rfl) (kjoin (K := K) rfl pe_str (pe_lc (own := [("_law_k", 4)]) (by rfl) sc_law.nd (pi_range1 (by rfl) T.b_range (pa_cons (pe_df D_law_draw (hr.mono (by first | decide | omega)) (by rfl) (pa_cons (pv 1) (pa_cons pe_int pa_nil))) pa_nil)) (blkOk_by (own := [("_law_k", 4)]) (N := N_law) (sc := defScope s_law) (by decide +kernel)) (fun _ _ _ _ _ => (pg_name (i := 4) sc_law.nd rfl (by first | exact Or.inl rfl | exact Or.inr rfl))) (fun _ _ _ _ _ => pts_nil) (fun _ _ _ _ _ => (pe_df D_law_choice (hr.mono (by first | decide | omega)) (by rfl) (pa_cons (pv 1) (pa_cons (pe_df0 D_law_letters (hr.mono (by first | decide | omega)) (by rfl)) pa_nil)))))))
  (pss_cons (ps_if (pt_cmpR (kop_eq (K := K) rfl hr.units) (pe_df D_law_draw (hr.mono (by first | decide | omega)) (by rfl) (pa_cons (pv 1) (pa_cons pe_int pa_nil))) pe_int (nomark _))
  (pss_one (ps_set (i := 3) sc_law.nd rfl (by first | exact Or.inl rfl | exact Or.inr rfl) (pe_df D_law_bent (hr.mono (by first | decide | omega)) (by rfl) (pa_cons (pv 1) (pa_cons (pv 3) (pa_cons (pe_lst (pa_cons pe_str (pa_cons pe_str (pa_cons pe_str (pa_cons pe_str (pa_cons pe_str (pa_cons pe_str (pa_cons pe_str pa_nil)))))))) pa_nil))))))
  pss_nil)
  (pss_one (ps_if (pt_not (pt_val (pe_df D_law_same (hr.mono (by first | decide | omega)) (by rfl) (pa_cons (pe_lst (pa_cons (pe_df D_is_word (hr.mono (by first | decide | omega)) (by rfl) (pa_cons (pv 3) pa_nil)) (pa_cons (pe_df D_is_name (hr.mono (by first | decide | omega)) (by rfl) (pa_cons (pv 3) pa_nil)) pa_nil))) (pa_cons (pe_lst (pa_cons (pe_df D_law_is_lowercase (hr.mono (by first | decide | omega)) (by rfl) (pa_cons (pv 3) (pa_cons pe_int pa_nil))) (pa_cons (pe_df D_law_is_lowercase (hr.mono (by first | decide | omega)) (by rfl) (pa_cons (pv 3) (pa_cons pe_int pa_nil))) pa_nil))) pa_nil)))))
  (pss_one (ps_ret pe_bl))
  pss_nil)))))
  (pss_one (ps_ret (pe_df D_law_same (hr.mono (by first | decide | omega)) (by rfl) (pa_cons (pe_lst (pa_cons (pe_df D_is_word (hr.mono (by first | decide | omega)) (by rfl) (pa_cons pe_str pa_nil)) (pa_cons (pe_df D_is_word (hr.mono (by first | decide | omega)) (by rfl) (pa_cons pe_str pa_nil)) (pa_cons (pe_df D_is_name (hr.mono (by first | decide | omega)) (by rfl) (pa_cons pe_str pa_nil)) (pa_cons (pe_df D_is_name (hr.mono (by first | decide | omega)) (by rfl) (pa_cons pe_str pa_nil)) pa_nil))))) (pa_cons (pe_lst (pa_cons pe_bl (pa_cons pe_bl (pa_cons pe_bl (pa_cons pe_bl pa_nil))))) pa_nil))))))), ?_⟩
  refine law_start (k := 3) rfl hS hlen k fun p l H1 => ?_
  have hs := hasSrc2 K p l H1
  refine sm_seq (sm_for (ts := [2]) (ei_rng (ev_cons (ev_int (ev_nil ⟨10, rfl, by decide, fun i G _ => leG [none, some (.o p), none, none, none] G, by simp [leG], fun i x G _ hx hG => eg_less hG (eg_name ?_), fun G _ hG => sm_less hG ?_⟩)))))
  · -- the text
    refine sm_seq (sm_asg (ev_join (ev_str ⟨_, rfl, ev_lcRx (ts := [4]) (fun (i : Nat) => .d (.int (i : Int))) (fun _ d => ∃ s : Str, d = .str s ∧ s.length ≤ 1) (by simp) (ei_rng (ev_cons (ev_call (ev_cons (ev_var rfl (ev_cons (ev_int (ev_nil (rc_draw hs (by decide) (by decide) fun r r0 r1 => ?_)))))))))⟩)))
    obtain ⟨n, rfl⟩ := Int.eq_ofNat_of_zero_le r0
    refine ev_nil ⟨n, rfl, by omega, List.range n, rfl, by simp; omega, fun i hi => eg_name ?_, fun ds hds => ?_⟩
    · refine ev_call (ev_cons (ev_var rfl (ev_cons (ev_call (ev_nil (rc_pure rfl ⟨rfl, rfl⟩ (ev_nil (rc_src hs rfl (.inl ⟨letters, rfl, by decide +kernel, by decide +kernel⟩) fun d hd => ?_))))))))
      rcases hd with ⟨w, c, e, _, rfl⟩ | ⟨xs, e, _⟩
      · exact ⟨_, rfl, ⟨_, rfl, Nat.le_refl _⟩, rfl⟩
      · cases e
    obtain ⟨ys, rfl, hy, hy1⟩ := paired_strs hds
    rw [List.length_range] at hy
    have hsum := sum_le hy1
    have h0 : (Str.ofString "").length = 0 := rfl
    refine ⟨ys, .inl rfl, by rw [h0]; omega, ?_⟩
    have hj := join_len "" ys
    obtain ⟨t, ht⟩ : ∃ t, t = Txt.join "" ys := ⟨_, rfl⟩
    have htl : t.length ≤ 20 := by rw [ht]; rw [h0] at hj; omega
    show SM _ _ (List.set _ 3 (some (.d (.str (Txt.join "" ys))))) _ _
    rw [← ht]
    refine sm_cut (fun G' _ => ∃ t : Str, t.length ≤ 2000 ∧ leG [none, some (.o p), none, some (.d (.str t)), none] G') ?_ ?_
    · refine sm_if (et_test (ev_op (ev_call (ev_cons (ev_var rfl (ev_cons (ev_int (ev_nil (rc_draw hs (by decide) (by decide) fun r r0 r1 => ev_int (ro_eqU1 (ro_eqI ⟨_, rfl, ite2 (fun _ => ?_) (fun _ => ?_)⟩)))))))))))
      · refine sm_asg (ev_call (ev_cons (ev_var rfl (ev_cons (ev_var rfl (ev_cons (ev_lst (ev_cons (ev_str (ev_cons (ev_str (ev_cons (ev_str (ev_cons (ev_str (ev_cons (ev_str (ev_cons (ev_str (ev_cons (ev_str (ev_nil ⟨_, rfl, by simp, ?_⟩))))))))))))))))))))))
        refine ev_nil (rc_src hs rfl ⟨t, ["A", "1", " ", "-", "@", "_", ""], rfl, by omega, by decide, by decide, by decide +kernel⟩ fun d hd => ?_)
        obtain ⟨w, rfl, hw⟩ := hd
        exact ⟨w, by omega, by simp [leG]⟩
      · exact sm_next ⟨t, by omega, by simp [leG]⟩
    · rintro G' _ ⟨t, ht, hG⟩
      refine sm_less hG ?_
      refine sm_if (et_not (et_B (ev_call (ev_cons (ev_lst (ev_cons (ev_call (ev_cons (ev_var rfl (ev_nil (rc_pure rfl ⟨t, rfl, by omega, rfl⟩ ?_)))))))))))
      refine ev_cons (ev_call (ev_cons (ev_var rfl (ev_nil (rc_pure rfl ⟨t, rfl, by omega, rfl⟩ (ev_nil ⟨_, rfl, by simp, ?_⟩))))))
      refine ev_cons (ev_lst (ev_cons (ev_call (ev_cons (ev_var rfl (ev_cons (ev_int (ev_nil (rc_pure rfl ⟨t, 6, rfl, by omega, rfl⟩ ?_)))))))))
      refine ev_cons (ev_call (ev_cons (ev_var rfl (ev_cons (ev_int (ev_nil (rc_pure rfl ⟨t, 8, rfl, by omega, rfl⟩ (ev_nil ⟨_, rfl, by simp, ?_⟩))))))))
      refine ev_nil (rc_pure rfl ⟨_, rfl, ?_, rfl⟩ ⟨_, rfl, iteF (sm_next ?_)⟩)
      · refine ⟨by simp, fun x hx => ?_⟩
        simp only [List.mem_cons, List.not_mem_nil, or_false] at hx
        rcases hx with h | h <;> (rw [h]; trivial)
      simp [leG]
  · -- the end
    have b1 : lowc "abcdef" 6 = true := by decide +kernel
    have b2 : lowc "abcdefg" 6 = false := by decide +kernel
    have b3 : lowc "abcdefgh" 8 = true := by decide +kernel
    have b4 : lowc "" 8 = false := by decide +kernel
    refine sm_ret (ev_call (ev_cons (ev_lst (ev_cons (ev_call (ev_cons (ev_str (ev_nil (rc_pure rfl ⟨_, rfl, by decide +kernel, rfl⟩ ?_)))))))))
    refine ev_cons (ev_call (ev_cons (ev_str (ev_nil (rc_pure rfl ⟨_, rfl, by decide +kernel, rfl⟩ ?_)))))
    refine ev_cons (ev_call (ev_cons (ev_str (ev_nil (rc_pure rfl ⟨_, rfl, by decide +kernel, rfl⟩ ?_)))))
    refine ev_cons (ev_call (ev_cons (ev_str (ev_nil (rc_pure rfl ⟨_, rfl, by decide +kernel, rfl⟩ (ev_nil ⟨_, rfl, by simp, ?_⟩))))))
    refine ev_cons (ev_lst (ev_cons (ev_bl (ev_cons (ev_bl (ev_cons (ev_bl (ev_cons (ev_bl (ev_nil ⟨_, rfl, by simp, ?_⟩))))))))))
    rw [b1, b2, b3, b4]
    refine ev_nil (rc_pure rfl ⟨_, rfl, ⟨by simp, fun x hx => ?_⟩, rfl⟩ rfl)
    simp only [List.mem_cons, List.not_mem_nil, or_false] at hx
    rcases hx with h | h | h | h <;> (rw [h]; trivial)
end
theorem chain {P : Program} {w : World} {K : PySem.W.Frag} {mg : Str → Option Value} {base : Heap} (T : Txt K mg) (F1 : Tp K mg "is_lowercase" s_is_lowercase) (F2 : Tp K mg "is_word" s_is_word) (F3 : Tp K mg "is_name" s_is_name) (F4 : Tp K mg "_law_source" s_law_source)
    (F5 : Tp K mg "_law_draw" s_law_draw) (F6 : Tp K mg "_law_choice" s_law_choice) (F7 : Tp K mg "_law_same" s_law_same) (F8 : Tp K mg "_law_letters" s_law_letters) (F9 : Tp K mg "_law_is_lowercase" s_law_is_lowercase) (F10 : Tp K mg "_law_bent" s_law_bent)
    {f : Addr} {fd : FuncData} (F : Fun K "law" "law" s_law f fd) : FnOk P w K mg base CX0 4 f fd ["_law_script"] (spLaw K) :=
  ok_law T (df_source T F4) (df_draw T F5) (df_same T F7 3) (df_is_word T (df_is_lowercase T F1) F2) (df_is_name T (df_is_lowercase T F1) F3) (df_choice T (df_draw T F5) F6) (df_letters T F8) (df_law_is_lowercase T (df_letters T F8) F9)
    (df_bent T (df_draw T F5) (df_choice T (df_draw T F5) F6) F10) F
theorem all_mk {l : PySem.W.OpenLaw} {w : World} {K : PySem.W.Frag} {h : Heap} {mg : Str → Option Value} {fa : Addr} {f_is_lowercase : Addr} {od_is_lowercase an_is_lowercase : Option Addr} {sl_is_lowercase : Array (Option Value)} {oc_is_lowercase kV_is_lowercase dc_is_lowercase pm_is_lowercase cd_is_lowercase ct_is_lowercase : Value} {f_is_word : Addr} {od_is_word an_is_word : Option Addr} {sl_is_word : Array (Option Value)} {oc_is_word kV_is_word dc_is_word pm_is_word cd_is_word ct_is_word : Value} {f_is_name : Addr} {od_is_name an_is_name : Option Addr} {sl_is_name : Array (Option Value)} {oc_is_name kV_is_name dc_is_name pm_is_name cd_is_name ct_is_name : Value} {f_law_source : Addr} {od_law_source an_law_source : Option Addr} {sl_law_source : Array (Option Value)} {oc_law_source kV_law_source dc_law_source pm_law_source cd_law_source ct_law_source : Value} {f_law_draw : Addr} {od_law_draw an_law_draw : Option Addr} {sl_law_draw : Array (Option Value)} {oc_law_draw kV_law_draw dc_law_draw pm_law_draw cd_law_draw ct_law_draw : Value} {f_law_choice : Addr} {od_law_choice an_law_choice : Option Addr} {sl_law_choice : Array (Option Value)} {oc_law_choice kV_law_choice dc_law_choice pm_law_choice cd_law_choice ct_law_choice : Value} {f_law_same : Addr} {od_law_same an_law_same : Option Addr} {sl_law_same : Array (Option Value)} {oc_law_same kV_law_same dc_law_same pm_law_same cd_law_same ct_law_same : Value} {f_law_letters : Addr} {od_law_letters an_law_letters : Option Addr} {sl_law_letters : Array (Option Value)} {oc_law_letters kV_law_letters dc_law_letters pm_law_letters cd_law_letters ct_law_letters : Value} {f_law_is_lowercase : Addr} {od_law_is_lowercase an_law_is_lowercase : Option Addr} {sl_law_is_lowercase : Array (Option Value)} {oc_law_is_lowercase kV_law_is_lowercase dc_law_is_lowercase pm_law_is_lowercase cd_law_is_lowercase ct_law_is_lowercase : Value} {f_law_bent : Addr} {od_law_bent an_law_bent : Option Addr} {sl_law_bent : Array (Option Value)} {oc_law_bent kV_law_bent dc_law_bent pm_law_bent cd_law_bent ct_law_bent : Value} {f_law : Addr} {od_law an_law : Option Addr} {sl_law : Array (Option Value)} {oc_law kV_law dc_law pm_law cd_law ct_law : Value} {t_LETTERS : Tok} {t_MAX_WORD : Tok} {t_MAX_NAME : Tok} (X : K.In h) (G : h.Ns mainGlobals mg) (hfa : mg "law" = some (.ref fa))
    (a_is_lowercase : PySem.W.nsIn K mainGlobals "is_lowercase" = some (some (.ref f_is_lowercase))) (l_is_lowercase : K.lookup f_is_lowercase = some ⟨oc_is_lowercase, od_is_lowercase, .func (PySem.W.fnOf "is_lowercase" "is_lowercase" (defArgs s_is_lowercase) (defBody s_is_lowercase) (defScope s_is_lowercase) .none kV_is_lowercase dc_is_lowercase pm_is_lowercase an_is_lowercase cd_is_lowercase ct_is_lowercase), sl_is_lowercase⟩) (c_is_lowercase : PySem.W.codeIn K cd_is_lowercase "is_lowercase" = true) (k_is_lowercase : PySem.W.keepIn K (.ref f_is_lowercase) = true)
    (a_is_word : PySem.W.nsIn K mainGlobals "is_word" = some (some (.ref f_is_word))) (l_is_word : K.lookup f_is_word = some ⟨oc_is_word, od_is_word, .func (PySem.W.fnOf "is_word" "is_word" (defArgs s_is_word) (defBody s_is_word) (defScope s_is_word) .none kV_is_word dc_is_word pm_is_word an_is_word cd_is_word ct_is_word), sl_is_word⟩) (c_is_word : PySem.W.codeIn K cd_is_word "is_word" = true) (k_is_word : PySem.W.keepIn K (.ref f_is_word) = true)
    (a_is_name : PySem.W.nsIn K mainGlobals "is_name" = some (some (.ref f_is_name))) (l_is_name : K.lookup f_is_name = some ⟨oc_is_name, od_is_name, .func (PySem.W.fnOf "is_name" "is_name" (defArgs s_is_name) (defBody s_is_name) (defScope s_is_name) .none kV_is_name dc_is_name pm_is_name an_is_name cd_is_name ct_is_name), sl_is_name⟩) (c_is_name : PySem.W.codeIn K cd_is_name "is_name" = true) (k_is_name : PySem.W.keepIn K (.ref f_is_name) = true)
    (a_law_source : PySem.W.nsIn K mainGlobals "_law_source" = some (some (.ref f_law_source))) (l_law_source : K.lookup f_law_source = some ⟨oc_law_source, od_law_source, .func (PySem.W.fnOf "_law_source" "_law_source" (defArgs s_law_source) (defBody s_law_source) (defScope s_law_source) .none kV_law_source dc_law_source pm_law_source an_law_source cd_law_source ct_law_source), sl_law_source⟩) (c_law_source : PySem.W.codeIn K cd_law_source "_law_source" = true) (k_law_source : PySem.W.keepIn K (.ref f_law_source) = true)
    (a_law_draw : PySem.W.nsIn K mainGlobals "_law_draw" = some (some (.ref f_law_draw))) (l_law_draw : K.lookup f_law_draw = some ⟨oc_law_draw, od_law_draw, .func (PySem.W.fnOf "_law_draw" "_law_draw" (defArgs s_law_draw) (defBody s_law_draw) (defScope s_law_draw) .none kV_law_draw dc_law_draw pm_law_draw an_law_draw cd_law_draw ct_law_draw), sl_law_draw⟩) (c_law_draw : PySem.W.codeIn K cd_law_draw "_law_draw" = true) (k_law_draw : PySem.W.keepIn K (.ref f_law_draw) = true)
    (a_law_choice : PySem.W.nsIn K mainGlobals "_law_choice" = some (some (.ref f_law_choice))) (l_law_choice : K.lookup f_law_choice = some ⟨oc_law_choice, od_law_choice, .func (PySem.W.fnOf "_law_choice" "_law_choice" (defArgs s_law_choice) (defBody s_law_choice) (defScope s_law_choice) .none kV_law_choice dc_law_choice pm_law_choice an_law_choice cd_law_choice ct_law_choice), sl_law_choice⟩) (c_law_choice : PySem.W.codeIn K cd_law_choice "_law_choice" = true) (k_law_choice : PySem.W.keepIn K (.ref f_law_choice) = true)
    (a_law_same : PySem.W.nsIn K mainGlobals "_law_same" = some (some (.ref f_law_same))) (l_law_same : K.lookup f_law_same = some ⟨oc_law_same, od_law_same, .func (PySem.W.fnOf "_law_same" "_law_same" (defArgs s_law_same) (defBody s_law_same) (defScope s_law_same) .none kV_law_same dc_law_same pm_law_same an_law_same cd_law_same ct_law_same), sl_law_same⟩) (c_law_same : PySem.W.codeIn K cd_law_same "_law_same" = true) (k_law_same : PySem.W.keepIn K (.ref f_law_same) = true)
    (a_law_letters : PySem.W.nsIn K mainGlobals "_law_letters" = some (some (.ref f_law_letters))) (l_law_letters : K.lookup f_law_letters = some ⟨oc_law_letters, od_law_letters, .func (PySem.W.fnOf "_law_letters" "_law_letters" (defArgs s_law_letters) (defBody s_law_letters) (defScope s_law_letters) .none kV_law_letters dc_law_letters pm_law_letters an_law_letters cd_law_letters ct_law_letters), sl_law_letters⟩) (c_law_letters : PySem.W.codeIn K cd_law_letters "_law_letters" = true) (k_law_letters : PySem.W.keepIn K (.ref f_law_letters) = true)
    (a_law_is_lowercase : PySem.W.nsIn K mainGlobals "_law_is_lowercase" = some (some (.ref f_law_is_lowercase))) (l_law_is_lowercase : K.lookup f_law_is_lowercase = some ⟨oc_law_is_lowercase, od_law_is_lowercase, .func (PySem.W.fnOf "_law_is_lowercase" "_law_is_lowercase" (defArgs s_law_is_lowercase) (defBody s_law_is_lowercase) (defScope s_law_is_lowercase) .none kV_law_is_lowercase dc_law_is_lowercase pm_law_is_lowercase an_law_is_lowercase cd_law_is_lowercase ct_law_is_lowercase), sl_law_is_lowercase⟩) (c_law_is_lowercase : PySem.W.codeIn K cd_law_is_lowercase "_law_is_lowercase" = true) (k_law_is_lowercase : PySem.W.keepIn K (.ref f_law_is_lowercase) = true)
    (a_law_bent : PySem.W.nsIn K mainGlobals "_law_bent" = some (some (.ref f_law_bent))) (l_law_bent : K.lookup f_law_bent = some ⟨oc_law_bent, od_law_bent, .func (PySem.W.fnOf "_law_bent" "_law_bent" (defArgs s_law_bent) (defBody s_law_bent) (defScope s_law_bent) .none kV_law_bent dc_law_bent pm_law_bent an_law_bent cd_law_bent ct_law_bent), sl_law_bent⟩) (c_law_bent : PySem.W.codeIn K cd_law_bent "_law_bent" = true) (k_law_bent : PySem.W.keepIn K (.ref f_law_bent) = true)
    (a_law : PySem.W.nsIn K mainGlobals "law" = some (some (.ref f_law))) (l_law : K.lookup f_law = some ⟨oc_law, od_law, .func (PySem.W.fnOf "law" "law" (defArgs s_law) (defBody s_law) (defScope s_law) .none kV_law dc_law pm_law an_law cd_law ct_law), sl_law⟩) (c_law : PySem.W.codeIn K cd_law "law" = true) (k_law : PySem.W.keepIn K (.ref f_law) = true)
    (z_all : PySem.W.nsIn K mainGlobals "all" = some none)
    (z_bool : PySem.W.nsIn K mainGlobals "bool" = some none)
    (z_int : PySem.W.nsIn K mainGlobals "int" = some none)
    (z_isinstance : PySem.W.nsIn K mainGlobals "isinstance" = some none)
    (z_len : PySem.W.nsIn K mainGlobals "len" = some none)
    (z_list : PySem.W.nsIn K mainGlobals "list" = some none)
    (z_range : PySem.W.nsIn K mainGlobals "range" = some none)
    (z_str : PySem.W.nsIn K mainGlobals "str" = some none)
    (z_tuple : PySem.W.nsIn K mainGlobals "tuple" = some none)
    (z_zip : PySem.W.nsIn K mainGlobals "zip" = some none)
    (g_LETTERS : PySem.W.nsIn K mainGlobals "LETTERS" = some (some (.str "abcdefghijklmnopqrstuvwxyz" t_LETTERS)))
    (g_MAX_WORD : PySem.W.nsIn K mainGlobals "MAX_WORD" = some (some (.int 6 t_MAX_WORD)))
    (g_MAX_NAME : PySem.W.nsIn K mainGlobals "MAX_NAME" = some (some (.int 8 t_MAX_NAME))) :
    ∃ fd : FuncData, (∀ (s : Shared) (v : Value), BindsTo s fd ⟨[v], []⟩ [("_law_script", v)]) ∧ ∀ base : Heap, K.In base → base.Ns mainGlobals mg → FnOk l.prog w K mg base CX0 4 fa fd ["_law_script"] (spLaw K) := by
  have e := hfa.symm.trans (PySem.W.mg_of X G a_law)
  cases e
  have T : Txt K mg := ⟨PySem.W.mg_none_of X G z_all, PySem.W.mg_none_of X G z_bool, PySem.W.mg_none_of X G z_int, PySem.W.mg_none_of X G z_isinstance, PySem.W.mg_none_of X G z_len, PySem.W.mg_none_of X G z_list, PySem.W.mg_none_of X G z_range, PySem.W.mg_none_of X G z_str, PySem.W.mg_none_of X G z_tuple, PySem.W.mg_none_of X G z_zip, ⟨_, PySem.W.mg_of X G g_LETTERS⟩, ⟨_, PySem.W.mg_of X G g_MAX_WORD⟩, ⟨_, PySem.W.mg_of X G g_MAX_NAME⟩⟩
  have F_is_lowercase : Tp K mg "is_lowercase" s_is_lowercase := ⟨_, _, fun_mk (st := s_is_lowercase) l_is_lowercase c_is_lowercase k_is_lowercase, PySem.W.mg_of X G a_is_lowercase⟩
  have F_is_word : Tp K mg "is_word" s_is_word := ⟨_, _, fun_mk (st := s_is_word) l_is_word c_is_word k_is_word, PySem.W.mg_of X G a_is_word⟩
  have F_is_name : Tp K mg "is_name" s_is_name := ⟨_, _, fun_mk (st := s_is_name) l_is_name c_is_name k_is_name, PySem.W.mg_of X G a_is_name⟩
  have F_law_source : Tp K mg "_law_source" s_law_source := ⟨_, _, fun_mk (st := s_law_source) l_law_source c_law_source k_law_source, PySem.W.mg_of X G a_law_source⟩
  have F_law_draw : Tp K mg "_law_draw" s_law_draw := ⟨_, _, fun_mk (st := s_law_draw) l_law_draw c_law_draw k_law_draw, PySem.W.mg_of X G a_law_draw⟩
  have F_law_choice : Tp K mg "_law_choice" s_law_choice := ⟨_, _, fun_mk (st := s_law_choice) l_law_choice c_law_choice k_law_choice, PySem.W.mg_of X G a_law_choice⟩
  have F_law_same : Tp K mg "_law_same" s_law_same := ⟨_, _, fun_mk (st := s_law_same) l_law_same c_law_same k_law_same, PySem.W.mg_of X G a_law_same⟩
  have F_law_letters : Tp K mg "_law_letters" s_law_letters := ⟨_, _, fun_mk (st := s_law_letters) l_law_letters c_law_letters k_law_letters, PySem.W.mg_of X G a_law_letters⟩
  have F_law_is_lowercase : Tp K mg "_law_is_lowercase" s_law_is_lowercase := ⟨_, _, fun_mk (st := s_law_is_lowercase) l_law_is_lowercase c_law_is_lowercase k_law_is_lowercase, PySem.W.mg_of X G a_law_is_lowercase⟩
  have F_law_bent : Tp K mg "_law_bent" s_law_bent := ⟨_, _, fun_mk (st := s_law_bent) l_law_bent c_law_bent k_law_bent, PySem.W.mg_of X G a_law_bent⟩
  exact ⟨_, fun s v => .of_eq rfl, fun base _ _ => chain T F_is_lowercase F_is_word F_is_name F_law_source F_law_draw F_law_choice F_law_same F_law_letters F_law_is_lowercase F_law_bent (fun_mk (st := s_law) l_law c_law k_law)⟩
theorem walk {l : PySem.W.OpenLaw} {q : Program} {loose : List Str} {XP : (Str → Option Value) → Heap → Prop} {YP : World → Heap → Prop} {d : DefRec} {K : Params → PySem.W.Frag} (hn : l.most = some 63) (hdf : d.params.defaults = [])
    (hY : ∀ (w : World) (h : Heap), YP w h → (K w.params).In h)
    (F : ∀ (w : World) (mg : Str → Option Value) (fa : Addr) (h : Heap), (K w.params).In h → h.Ns mainGlobals mg → mg d.name = some (.ref fa) →
      ∃ fd : FuncData, (∀ (s : Shared) (u : Value), BindsTo s fd ⟨[u], []⟩ [("_law_script", u)]) ∧ ∀ base : Heap, (K w.params).In base → base.Ns mainGlobals mg → FnOk l.prog w (K w.params) mg base CX0 4 fa fd ["_law_script"] (spLaw (K w.params))) :
    PySem.W.WalkO q loose XP YP l.row.toRowW d [] (fun f vs => PySem.call f vs) :=
  L2.walk_of (n := 63) (k := 4) (x := "_law_script") (CX := fun _ => CX0) (sp := fun w => spLaw (K w.params)) hn (by decide) hdf ⟨rfl, by decide, by decide⟩ hY F (fun _ _ a ns hl _ hS => ⟨a, ns, rfl, hS, hl, fun _ => rfl⟩) fun _ _ _ _ _ z => z
end Cl

open PySem PySem.W PyProof.Rows in
set_option maxRecDepth 100000 in
set_option maxHeartbeats 0 in
theorem PySem.Challenge.cw_cutlore_k01_words_and_names_holds : PySem.Challenge.rw_cutlore_k01_words_and_names.Holds := by
  w_on; o_law; k_head; (case hw => w_witness2)
  k_fill
  refine Cl.walk (l := PySem.Challenge.rw_cutlore_k01_words_and_names) rfl rfl (fun w h Y => PySem.W.kIn_of Y) ?F
  case F =>
    intro w mg fa h KX G hmg
    refine' Cl.all_mk KX G hmg ?a_is_lowercase ?l_is_lowercase ?c_is_lowercase ?k_is_lowercase ?a_is_word ?l_is_word ?c_is_word ?k_is_word ?a_is_name ?l_is_name ?c_is_name ?k_is_name ?a_law_source ?l_law_source ?c_law_source ?k_law_source ?a_law_draw ?l_law_draw ?c_law_draw ?k_law_draw ?a_law_choice ?l_law_choice ?c_law_choice ?k_law_choice ?a_law_same ?l_law_same ?c_law_same ?k_law_same ?a_law_letters ?l_law_letters ?c_law_letters ?k_law_letters ?a_law_is_lowercase ?l_law_is_lowercase ?c_law_is_lowercase ?k_law_is_lowercase ?a_law_bent ?l_law_bent ?c_law_bent ?k_law_bent ?a_law ?l_law ?c_law ?k_law ?z_all ?z_bool ?z_int ?z_isinstance ?z_len ?z_list ?z_range ?z_str ?z_tuple ?z_zip ?g_LETTERS ?g_MAX_WORD ?g_MAX_NAME
    (case a_is_lowercase => k_is)
    (case l_is_lowercase => k_is)
    (case c_is_lowercase => k_is)
    (case k_is_lowercase => k_is)
    (case a_is_word => k_is)
    (case l_is_word => k_is)
    (case c_is_word => k_is)
    (case k_is_word => k_is)
    (case a_is_name => k_is)
    (case l_is_name => k_is)
    (case c_is_name => k_is)
    (case k_is_name => k_is)
    (case a_law_source => k_is)
    (case l_law_source => k_is)
    (case c_law_source => k_is)
    (case k_law_source => k_is)
    (case a_law_draw => k_is)
    (case l_law_draw => k_is)
    (case c_law_draw => k_is)
    (case k_law_draw => k_is)
    (case a_law_choice => k_is)
    (case l_law_choice => k_is)
    (case c_law_choice => k_is)
    (case k_law_choice => k_is)
    (case a_law_same => k_is)
    (case l_law_same => k_is)
    (case c_law_same => k_is)
    (case k_law_same => k_is)
    (case a_law_letters => k_is)
    (case l_law_letters => k_is)
    (case c_law_letters => k_is)
    (case k_law_letters => k_is)
    (case a_law_is_lowercase => k_is)
    (case l_law_is_lowercase => k_is)
    (case c_law_is_lowercase => k_is)
    (case k_law_is_lowercase => k_is)
    (case a_law_bent => k_is)
    (case l_law_bent => k_is)
    (case c_law_bent => k_is)
    (case k_law_bent => k_is)
    (case a_law => k_is)
    (case l_law => k_is)
    (case c_law => k_is)
    (case k_law => k_is)
    (case z_all => k_is)
    (case z_bool => k_is)
    (case z_int => k_is)
    (case z_isinstance => k_is)
    (case z_len => k_is)
    (case z_list => k_is)
    (case z_range => k_is)
    (case z_str => k_is)
    (case z_tuple => k_is)
    (case z_zip => k_is)
    (case g_LETTERS => k_is)
    (case g_MAX_WORD => k_is)
    (case g_MAX_NAME => k_is)

