import PyProof.Rows.All
import HandS.ExcField
import Wide.All
import OpenK.AllK
import Wide.FinOn
import HandS.ForMost
import HandS.IsInst
import HandS.Zip
import HandS.TupAny
import HandS.TupMul
import HandS.Style
import HandS.NoneIn
import HandS.Star
import HandS.Lambda
import HandS.Deep
import KE.DataMinMax
import HandS.WordsExc
import HandS.ClsMeth
import HandS.Conv
import HandS.Defaults
import HandS.MakeKwOnly
import HandS.SetFor
import HandS.Strs
import HandS.TupSets
import PyProof.Rows.SortShellAny
import HandS.SetBool
import HandS.Iter
import HandS.FStr
import HandS.Property
import HandS.ExcInit
import KE.KExcInit
import KE.KDflt
import HandS.HotCalls
import KE.KTryMore
import KE.GoesComp
import HandS.EndTab
import KE.KNestM
import HandS.Dict
import HandS.More
import KE.KCallOwn
import HandS.MakeKw
import PySem.Challenge.RW_cutlore_k14_builders_of_sayings
section
set_option Elab.async false
set_option linter.all false
set_option maxRecDepth 100000
set_option maxHeartbeats 2000000
/-! XCI: what is asked of an own exception class, as a test on the fragment (the head's text needs it ahead of all else) -/
namespace PySem
namespace Sxn
/-- own classes, then the base's mro -/
def refsT (tail : List Value) : List Value → Bool
  | .ref _ :: r => refsT tail r
  | l => l == tail
end Sxn
end PySem
namespace Sx
open PySem PySem.Spec PyProof.Rows L2 PySem.Sxn
def oexIn (K : PySem.W.Frag) (C : Addr) (newId : String) (tail : List Value) : Bool := match K.lookup C with
  | some ⟨.type "type", _, .cls cd, sl⟩ => (match cd.mro, sl.toList with
    | .ref C' :: bm, [_, _, _, _, some (.builtin n), _] => C' == C && n == newId && !cd.hasDel && cd.hasDict && refsT tail bm
    | _, _ => false)
  | _ => false
/-- all that is asked of an own exception class -/
def xcIn (K : PySem.W.Frag) (C CE NF : Addr) (newId : String) (tail : List Value) (fs : List Str) : Bool :=
  oexIn K C newId tail && (decide (PySem.W.findIn K (.ref C) "__setattr__" = some (some (.builtin "object.__setattr__"))) && (decide (PySem.W.subIn K (.ref C) (.type "BaseException") = some true) && (decide (PySem.W.typeIn K (.ref C) = some (.type "type")) && (PySem.W.keepIn K (.ref C) &&
    (xfB K C && (fs.all (fun f => decide (PySem.W.findIn K (.ref C) f = some none)) && decide (PySem.W.exmAny K (.ref C) [.ref CE, .ref NF] = some true)))))))
end Sx

end
section
set_option Elab.async false
set_option linter.all false
set_option maxRecDepth 100000
set_option maxHeartbeats 2000000
/-! DL: evaluation over plain data (PyData), above the hand layer: the heap is hidden behind data (Dx) and objects (A.o) -/
namespace Cl
open PySem L2

/-! ### heaps, hidden parts -/
abbrev Hm := Addr → Bool
def hid (h : Hm) (H : Hp) : Hp := fun b => if h b = true then none else H b
section
variable {h h' m : Hm} {H H' H1 H2 : Hp} {a b : Addr} {o : HO}
theorem hid_of (n : h b = false) (e : H b = some o) : hid h H b = some o := by
  unfold hid; rw [n]; simpa using e
theorem of_hid (e : hid h H b = some o) : h b = false ∧ H b = some o := by
  unfold hid at e
  cases q : h b with
  | true => rw [q] at e; simp at e
  | false => rw [q] at e; exact ⟨rfl, by simpa using e⟩
theorem hid_le : Same (hid h H) H := fun _ _ e => (of_hid e).2
theorem hid_mono (e : ∀ b o, h b = false → H b = some o → h' b = false ∧ H' b = some o) : Same (hid h H) (hid h' H') := fun b o q =>
  let ⟨n, r⟩ := of_hid q; hid_of (e b o n r).1 (e b o n r).2
def Good (h : Hm) (H : Hp) : Prop := ∀ b, h b = true → H b ≠ none
/-- all that stands outside m is as it was; nothing vanishes -/
def Kp (m : Hm) (H H' : Hp) : Prop := (∀ b o, m b = false → H b = some o → H' b = some o) ∧ ∀ b, H b ≠ none → H' b ≠ none
theorem Kp.refl : Kp m H H := ⟨fun _ _ _ e => e, fun _ e => e⟩
theorem Kp.trans (x : Kp m H H1) (y : Kp m H1 H2) : Kp m H H2 := ⟨fun b o n e => y.1 b o n (x.1 b o n e), fun b e => y.2 b (x.2 b e)⟩
theorem Kp.same (e : Same H H') : Kp m H H' := ⟨fun b o _ q => e b o q, fun b q => by
  cases r : H b with
  | none => exact absurd r q
  | some o => rw [e b o r]; exact fun z => nomatch z⟩
theorem Kp.sub (x : Kp m H H') (e : ∀ b, m b = true → h b = true) : Same (hid h H) (hid h H') := hid_mono fun b o n q => ⟨n, x.1 b o (by
  cases r : m b with
  | false => rfl
  | true => rw [e b r] at n; cases n) q⟩
theorem Kp.weak (x : Kp m H H') (e : ∀ b, m b = true → h b = true) : Kp h H H' := ⟨fun b o n q => x.1 b o (by
  cases r : m b with
  | false => rfl
  | true => rw [e b r] at n; cases n) q, x.2⟩
theorem Good.kp (g : Good h H) (x : Kp m H H') : Good h H' := fun b q => x.2 b (g b q)
theorem same_new (n : H a = none) : Same H (upd H a o) := fun b u e => by rw [upd_ne (ne_of_none e n)]; exact e
theorem hid_new (n : H a = none) : Same (hid h H) (hid h (upd H a o)) := hid_mono fun b u q e => ⟨q, same_new n b u e⟩
/-- one more address hidden -/
def plus (h : Hm) (a : Addr) : Hm := fun b => h b || decide (b = a)
theorem plus_self : plus h a a = true := by simp [plus]
theorem plus_sub (q : h b = true) : plus h a b = true := by simp [plus, q]
theorem plus_ne (n : b ≠ a) : plus h a b = h b := by simp [plus, n]
theorem hid_plus (n : H a = none) : Same (hid h H) (hid (plus h a) (upd H a o)) := hid_mono fun b u q e => by
  have nb : b ≠ a := ne_of_none e n
  exact ⟨by rw [plus_ne nb]; exact q, by rw [upd_ne nb]; exact e⟩
theorem hid_minus : Same (hid (plus h a) H) (hid h H) := hid_mono fun b u q e => by
  refine ⟨?_, e⟩
  cases r : h b with
  | false => rfl
  | true =>
    rw [plus_sub r] at q
    cases q
/-- two sets of hidden addresses -/
def orM (h g : Hm) : Hm := fun b => h b || g b
theorem orM_none : orM h (fun _ => false) = h := funext fun b => by simp [orM]
theorem Good.plus (g : Good h H) (e : H a = some o) : Good (plus h a) H := fun b q => by
  by_cases nb : b = a
  · subst nb; rw [e]; exact fun z => nomatch z
  · rw [plus_ne nb] at q; exact g b q
end
theorem sqT_mono {K : PySem.W.Frag} {H H' : Hp} {a : Addr} {xs : List V} (e : Same H H') (h : SqT K H a xs) : SqT K H' a xs := by
  rcases h with (h | ⟨o, h⟩) | h
  · exact .inl (.inl (e _ _ h))
  · exact .inl (.inr ⟨o, e _ _ h⟩)
  · exact .inr h

/-! ### data -/
mutual
inductive Dx (K : PySem.W.Frag) (H : Hp) : V → PyData → Prop
  | non : Dx K H .non .none
  | bl (b : Bool) : Dx K H (.bl b) (.bool b)
  | int (i : Int) : Dx K H (.int i) (.int i)
  | str (x : Str) : Dx K H (.str x) (.str x)
  | lst {a : Addr} {xs : List V} {ds : List PyData} : H a = some (.lst xs) → DxAll K H xs ds → Dx K H (.ref a) (.list ds)
  | tup {a : Addr} {xs : List V} {ds : List PyData} : SqT K H a xs → DxAll K H xs ds → Dx K H (.ref a) (.tuple ds)
inductive DxAll (K : PySem.W.Frag) (H : Hp) : List V → List PyData → Prop
  | nil : DxAll K H [] []
  | cons {v : V} {vs : List V} {d : PyData} {ds : List PyData} : Dx K H v d → DxAll K H vs ds → DxAll K H (v :: vs) (d :: ds)
end
section
variable {K : PySem.W.Frag} {H H' : Hp}
mutual
theorem Dx.mono (e : Same H H') : ∀ {v : V} {d : PyData}, Dx K H v d → Dx K H' v d
  | _, _, .non => .non
  | _, _, .bl b => .bl b
  | _, _, .int i => .int i
  | _, _, .str x => .str x
  | _, _, .lst s a => .lst (e _ _ s) (DxAll.mono e a)
  | _, _, .tup s a => .tup (sqT_mono e s) (DxAll.mono e a)
theorem DxAll.mono (e : Same H H') : ∀ {vs : List V} {ds : List PyData}, DxAll K H vs ds → DxAll K H' vs ds
  | _, _, .nil => .nil
  | _, _, .cons x y => .cons (Dx.mono e x) (DxAll.mono e y)
end
mutual
theorem Dx.dp : ∀ {v : V} {d : PyData}, Dx K H v d → Dp K H v d
  | _, _, .non => .non
  | _, _, .bl b => .bl b
  | _, _, .int i => .int i
  | _, _, .str x => .str x
  | _, _, .lst s a => .lst (SqL.of s) (DxAll.dp a)
  | _, _, .tup s a => .tup s (DxAll.dp a)
theorem DxAll.dp : ∀ {vs : List V} {ds : List PyData}, DxAll K H vs ds → DpAll K H vs ds
  | _, _, .nil => .nil
  | _, _, .cons x y => .cons (Dx.dp x) (DxAll.dp y)
end
theorem DxAll.length : ∀ {vs : List V} {ds : List PyData}, DxAll K H vs ds → vs.length = ds.length
  | _, _, .nil => rfl
  | _, _, .cons _ y => by simp [DxAll.length y]
theorem DxAll.get : ∀ {vs : List V} {ds : List PyData} {i : Nat} {v : V}, DxAll K H vs ds → vs[i]? = some v → ∃ d, ds[i]? = some d ∧ Dx K H v d
  | _, _, _, _, .nil, e => by simp at e
  | _, _, 0, _, .cons x _, e => by simp at e; subst e; exact ⟨_, rfl, x⟩
  | _, _, i + 1, v, .cons _ y, e => by
    obtain ⟨d, h1, h2⟩ := DxAll.get (i := i) (v := v) y (by simpa using e)
    exact ⟨d, by simpa using h1, h2⟩
theorem DxAll.got : ∀ {vs : List V} {ds : List PyData} {i : Nat} {d : PyData}, DxAll K H vs ds → ds[i]? = some d → ∃ v, vs[i]? = some v ∧ Dx K H v d
  | _, _, _, _, .nil, e => by simp at e
  | _, _, 0, _, .cons x _, e => by simp at e; subst e; exact ⟨_, rfl, x⟩
  | _, _, i + 1, d, .cons _ y, e => by
    obtain ⟨v, h1, h2⟩ := DxAll.got (i := i) (d := d) y (by simpa using e)
    exact ⟨v, by simpa using h1, h2⟩
theorem DxAll.append : ∀ {vs ws : List V} {ds es : List PyData}, DxAll K H vs ds → DxAll K H ws es → DxAll K H (vs ++ ws) (ds ++ es)
  | _, _, _, _, .nil, y => y
  | _, _, _, _, .cons x z, y => .cons x (DxAll.append z y)
theorem DxAll.one {v : V} {d : PyData} (x : Dx K H v d) : DxAll K H [v] [d] := .cons x .nil
theorem DxAll.drop : ∀ {vs : List V} {ds : List PyData} (n : Nat), DxAll K H vs ds → DxAll K H (vs.drop n) (ds.drop n)
  | _, _, 0, x => by simpa using x
  | _, _, _ + 1, .nil => .nil
  | _, _, n + 1, .cons _ y => by simpa using DxAll.drop n y
theorem DxAll.take : ∀ {vs : List V} {ds : List PyData} (n : Nat), DxAll K H vs ds → DxAll K H (vs.take n) (ds.take n)
  | _, _, 0, _ => by simpa using DxAll.nil
  | _, _, _ + 1, .nil => .nil
  | _, _, n + 1, .cons x y => by simpa using DxAll.cons x (DxAll.take n y)
theorem DxAll.ints : ∀ {vs : List V} {ns : List Int}, DxAll K H vs (ns.map PyData.int) → vs = ns.map V.int
  | _, [], .nil => rfl
  | _, n :: ns, .cons x y => by cases x; rw [DxAll.ints (ns := ns) y]; rfl
theorem DxAll.strs : ∀ {vs : List V} {ns : List Str}, DxAll K H vs (ns.map PyData.str) → vs = ns.map V.str
  | _, [], .nil => rfl
  | _, n :: ns, .cons x y => by cases x; rw [DxAll.strs (ns := ns) y]; rfl
theorem DxAll.bls : ∀ {vs : List V} {ns : List Bool}, DxAll K H vs (ns.map PyData.bool) → vs = ns.map V.bl
  | _, [], .nil => rfl
  | _, n :: ns, .cons x y => by cases x; rw [DxAll.bls (ns := ns) y]; rfl
theorem DxAll.ofInts : ∀ (ns : List Int), DxAll K H (ns.map V.int) (ns.map PyData.int)
  | [] => .nil
  | n :: ns => .cons (.int n) (DxAll.ofInts ns)
theorem DxAll.ofStrs : ∀ (ns : List Str), DxAll K H (ns.map V.str) (ns.map PyData.str)
  | [] => .nil
  | n :: ns => .cons (.str n) (DxAll.ofStrs ns)
end

/-! ### abstract values, slots, contexts -/
inductive A where
  | d (x : PyData)
  | o (a : Addr)
def Rv (K : PySem.W.Frag) (h : Hm) (H : Hp) (v : V) : A → Prop
  | .d x => Dx K (hid h H) v x
  | .o a => v = .ref a
inductive Rvs (K : PySem.W.Frag) (h : Hm) (H : Hp) : List V → List A → Prop
  | nil : Rvs K h H [] []
  | cons {v : V} {vs : List V} {x : A} {xs : List A} : Rv K h H v x → Rvs K h H vs xs → Rvs K h H (v :: vs) (x :: xs)
theorem Rv.mono {K : PySem.W.Frag} {h h' : Hm} {H H' : Hp} {v : V} (e : Same (hid h H) (hid h' H')) : ∀ {x : A}, Rv K h H v x → Rv K h' H' v x
  | .d _, r => Dx.mono e r
  | .o _, r => r
theorem Rvs.mono {K : PySem.W.Frag} {h h' : Hm} {H H' : Hp} (e : Same (hid h H) (hid h' H')) : ∀ {vs : List V} {xs : List A}, Rvs K h H vs xs → Rvs K h' H' vs xs
  | _, _, .nil => .nil
  | _, _, .cons x y => .cons (Rv.mono e x) (Rvs.mono e y)
theorem Rv.un {K : PySem.W.Frag} {h : Hm} {H : Hp} {v : V} {x : A} (r : Rv K (orM h (fun _ => false)) H v x) : Rv K h H v x := by rw [orM_none] at r; exact r
theorem Rv.non {K : PySem.W.Frag} {h g : Hm} {H : Hp} {v : V} {x : A} (r : Rv K h H v x) (e : g = fun _ => false) : Rv K (orM h g) H v x := by subst e; rw [orM_none]; exact r
abbrev Gm := List (Option A)
/-- all of a list of abstract values are data -/
def allD : List A → Option (List PyData)
  | [] => some []
  | .d x :: r => (allD r).map (x :: ·)
  | .o _ :: _ => none
theorem Rvs.data {K : PySem.W.Frag} {h : Hm} {H : Hp} : ∀ {vs : List V} {xs : List A} {ds : List PyData}, Rvs K h H vs xs → allD xs = some ds → DxAll K (hid h H) vs ds
  | _, _, ds, .nil, e => by cases e; exact .nil
  | _, _, ds, .cons (x := .d x) r t, e => by
    unfold allD at e
    cases q : allD _ with
    | none => rw [q] at e; cases e
    | some es => rw [q] at e; cases e; exact .cons r (Rvs.data t q)
  | _, _, ds, .cons (x := .o a) r t, e => by cases e

structure Sl (K : PySem.W.Frag) (h : Hm) (H : Hp) (σ : St) (G : Gm) : Prop where
  len : σ.length = G.length
  at_ : ∀ (i : Nat) (x : A), G[i]? = some (some x) → ∃ v, σ[i]? = some (some v) ∧ Rv K h H v x
theorem Sl.mono {K : PySem.W.Frag} {h h' : Hm} {H H' : Hp} {σ : St} {G : Gm} (e : Same (hid h H) (hid h' H')) (s : Sl K h H σ G) : Sl K h' H' σ G :=
  ⟨s.len, fun i x q => let ⟨v, a, b⟩ := s.at_ i x q; ⟨v, a, b.mono e⟩⟩
theorem Sl.set {K : PySem.W.Frag} {h : Hm} {H : Hp} {σ : St} {G : Gm} {v : V} {x : A} (i : Nat) (s : Sl K h H σ G) (r : Rv K h H v x) : Sl K h H (σ.set i (some v)) (G.set i (some x)) := by
  refine ⟨by simp [s.len], fun j y q => ?_⟩
  by_cases e : i = j
  · subst e
    by_cases l : i < G.length
    · rw [List.getElem?_set_self l] at q
      cases q
      exact ⟨v, by rw [List.getElem?_set_self (by rw [s.len]; exact l)], r⟩
    · rw [List.getElem?_eq_none (by simpa using l)] at q; cases q
  · rw [List.getElem?_set_ne e] at q ⊢
    exact s.at_ j y q
theorem Sl.none {K : PySem.W.Frag} {h : Hm} {H : Hp} {σ : St} {G : Gm} {u : Option V} (i : Nat) (s : Sl K h H σ G) : Sl K h H (σ.set i u) (G.set i none) := by
  refine ⟨by simp [s.len], fun j y q => ?_⟩
  by_cases e : i = j
  · subst e
    by_cases l : i < G.length
    · rw [List.getElem?_set_self l] at q; cases q
    · rw [List.getElem?_eq_none (by simpa using l)] at q; cases q
  · rw [List.getElem?_set_ne e] at q ⊢
    exact s.at_ j y q
def wipeG (G : Gm) : List Nat → Gm
  | [] => G
  | v :: vs => (wipeG G vs).set v none
theorem Sl.wipe {K : PySem.W.Frag} {h : Hm} {H : Hp} {σ : St} {G : Gm} (s : Sl K h H σ G) : ∀ vs : List Nat, Sl K h H (wipe σ vs) (wipeG G vs)
  | [] => s
  | v :: vs => (s.wipe vs).none v
theorem wipe_at {σ : St} : ∀ {vs : List Nat} {i : Nat}, (wipe σ vs)[i]? = if i ∈ vs then (if i < σ.length then some none else none) else σ[i]?
  | [], i => by simp [L2.wipe]
  | v :: vs, i => by
    unfold L2.wipe
    by_cases e : v = i
    · subst e
      rw [if_pos (by simp)]
      by_cases l : v < σ.length
      · rw [if_pos l, List.getElem?_set_self (by rw [wipe_length]; exact l)]
      · rw [if_neg l, List.getElem?_eq_none (by simpa [wipe_length] using l)]
    · rw [List.getElem?_set_ne e, wipe_at (vs := vs)]
      have q : (i ∈ v :: vs) = (i ∈ vs) := by simp [Ne.symm e]
      simp only [q]
theorem wipe_set {σ : St} {x : Option V} {j : Nat} {vs : List Nat} (hj : j ∈ vs) : wipe (σ.set j x) vs = wipe σ vs := by
  apply List.ext_getElem?
  intro i
  rw [wipe_at, wipe_at, List.length_set]
  by_cases e : i ∈ vs
  · rw [if_pos e, if_pos e]
  · rw [if_neg e, if_neg e, List.getElem?_set_ne]
    intro q; subst q; exact e hj
theorem wipe_wipe {σ : St} {vs : List Nat} : wipe (wipe σ vs) vs = wipe σ vs := by
  apply List.ext_getElem?
  intro i
  rw [wipe_at, wipe_length, wipe_at]
  split <;> rfl

structure Cc (T : Type) where
  K : PySem.W.Frag
  m : Hm
  I : Hm → T → Hp → Prop
  good : ∀ {h : Hm} {s : T} {H : Hp} {b : Addr}, I h s H → m b = true → H b ≠ none
  mono : ∀ {h h' : Hm} {s : T} {H H' : Hp}, I h s H → Same (hid h H) (hid h' H') → (∀ b, m b = true → H' b = H b) → I h' s H'
  /-- lists that must not be returned -/
  rh : Hm := fun _ => false
  rgood : ∀ {h : Hm} {s : T} {H : Hp} {b : Addr}, I h s H → rh b = true → ∃ xs, H b = some (.lst xs) := by intro _ _ _ _ _ q; cases q
structure O0 {T : Type} (C : Cc T) (h : Hm) (H : Hp) (s : T) : Prop where
  sub : ∀ b, C.m b = true → h b = true
  good : Good h H
  inv : C.I h s H
structure Ok {T : Type} (C : Cc T) (h : Hm) (σ : St) (H : Hp) (G : Gm) (s : T) : Prop where
  z : O0 C h H s
  sl : Sl C.K h H σ G
section
variable {T : Type} {C : Cc T} {h : Hm} {σ : St} {H H' : Hp} {G : Gm} {s s' : T}
theorem O0.go (z : O0 C h H s) (k : Kp C.m H H') (i : C.I h s' H') : O0 C h H' s' := ⟨z.sub, z.good.kp k, i⟩
theorem Ok.go (z : Ok C h σ H G s) (k : Kp C.m H H') (i : C.I h s' H') : Ok C h σ H' G s' := ⟨z.z.go k i, z.sl.mono (k.sub z.z.sub)⟩
theorem O0.same (z : O0 C h H s) (e : Same H H') : C.I h s H' := C.mono z.inv (hid_mono fun b o n q => ⟨n, e b o q⟩) fun b q => by
  cases r : H b with
  | none => exact absurd r (C.good z.inv q)
  | some o => exact e b o r
theorem O0.fresh (z : O0 C h H s) {p : Addr} (n : H p = none) : h p = false := by
  cases q : h p with
  | false => rfl
  | true => exact absurd n (z.good p q)
end

/-! ### evaluation -/
/-- what may be wanted behind a value: P over abstract values and states -/
def Wa {T : Type} (C : Cc T) (h : Hm) (H : Hp) (P : A → T → Prop) (Q : VK) : Prop := ∀ (x : A) (s' : T) (v : V) (H' : Hp), P x s' → Kp C.m H H' → C.I h s' H' → Rv C.K h H' v x → Q v H'
def EvE {T : Type} (C : Cc T) (te : TE) (G : Gm) (s : T) (P : A → T → Prop) : Prop :=
  ∀ (h : Hm) (σ : St) (H : Hp), Ok C h σ H G s → ∀ Q : VK, Wa C h H P Q → te σ H Q
def EvT {T : Type} (C : Cc T) (tt : TT) (G : Gm) (s : T) (P : Bool → T → Prop) : Prop :=
  ∀ (h : Hm) (σ : St) (H : Hp), Ok C h σ H G s → ∀ Q : Bool → Hp → Prop, (∀ b s' H', P b s' → Kp C.m H H' → C.I h s' H' → Q b H') → tt σ H Q
def EvA {T : Type} (C : Cc T) (ta : TA) (G : Gm) (s : T) (P : List A → T → Prop) : Prop :=
  ∀ (h : Hm) (σ : St) (H : Hp), Ok C h σ H G s → ∀ Q : List V → Hp → Prop, (∀ xs s' vs H', P xs s' → Kp C.m H H' → C.I h s' H' → Rvs C.K h H' vs xs → Q vs H') → ta σ H Q
def EvO {T : Type} (C : Cc T) (to : TO) (G : Gm) (s : T) (P : Option Int → T → Prop) : Prop :=
  ∀ (h : Hm) (σ : St) (H : Hp), Ok C h σ H G s → ∀ Q : Option Int → Hp → Prop, (∀ x s' H', P x s' → Kp C.m H H' → C.I h s' H' → Q x H') → to σ H Q
/-- operations on values -/
def RO {T : Type} (C : Cc T) (r : R2) (x y : A) (s : T) (P : A → T → Prop) : Prop :=
  ∀ (h : Hm) (H : Hp) (v u : V), O0 C h H s → Rv C.K h H v x → Rv C.K h H u y → ∀ Q : VK, Wa C h H P Q → r v u H Q
def RU {T : Type} (C : Cc T) (r : V → Hp → VK → Prop) (x : A) (s : T) (P : A → T → Prop) : Prop :=
  ∀ (h : Hm) (H : Hp) (v : V), O0 C h H s → Rv C.K h H v x → ∀ Q : VK, Wa C h H P Q → r v H Q
def RC {T : Type} (C : Cc T) (r : List V → Hp → VK → Prop) (xs : List A) (s : T) (P : A → T → Prop) : Prop :=
  ∀ (h : Hm) (H : Hp) (vs : List V), O0 C h H s → Rvs C.K h H vs xs → ∀ Q : VK, Wa C h H P Q → r vs H Q
def RM {T : Type} (C : Cc T) (r : V → List V → Hp → VK → Prop) (x : A) (xs : List A) (s : T) (P : A → T → Prop) : Prop :=
  ∀ (h : Hm) (H : Hp) (v : V) (vs : List V), O0 C h H s → Rv C.K h H v x → Rvs C.K h H vs xs → ∀ Q : VK, Wa C h H P Q → r v vs H Q
def RS {T : Type} (C : Cc T) (r : V → Option Int → Option Int → Hp → VK → Prop) (x : A) (lo hi : Option Int) (s : T) (P : A → T → Prop) : Prop :=
  ∀ (h : Hm) (H : Hp) (v : V), O0 C h H s → Rv C.K h H v x → ∀ Q : VK, Wa C h H P Q → r v lo hi H Q
section
variable {T : Type} {C : Cc T} {G : Gm} {s : T} {P : A → T → Prop} {ta tb tc te : TE} {tx : TA} {t u : TT}
theorem Wa.here {h : Hm} {H : Hp} {Q : VK} (k : Wa C h H P Q) {x : A} {v : V} (p : P x s) (i : C.I h s H) (r : Rv C.K h H v x) : Q v H := k x s v H p Kp.refl i r
/-- a new object -/
theorem Wa.new {h : Hm} {H : Hp} {Q : VK} (k : Wa C h H P Q) (z : O0 C h H s) {o : HO} {x : A} {p : Addr} (n : H p = none) (px : P x s) (r : Rv C.K h (upd H p o) (.ref p) x) : Q (.ref p) (upd H p o) :=
  k x s _ _ px (Kp.same (same_new n)) (z.same (same_new n)) r
theorem Wa.after {h : Hm} {H H1 : Hp} {Q : VK} {P' : A → T → Prop} (k : Wa C h H P Q) (e : Kp C.m H H1) (i : ∀ x s', P' x s' → P x s') : Wa C h H1 P' Q :=
  fun x s' v H' p e' i' r => k x s' v H' (i x s' p) (e.trans e') i' r
theorem EvE.imp {P' : A → T → Prop} (h : EvE C te G s P') (i : ∀ x s', P' x s' → P x s') : EvE C te G s P := fun hh σ H z Q k => h hh σ H z Q fun x s' v H' p => k x s' v H' (i x s' p)

theorem ev_var {i : Nat} {x : A} (e : G[i]? = some (some x)) (p : P x s) : EvE C (tVar i) G s P := fun h σ H z Q k =>
  let ⟨v, a, r⟩ := z.sl.at_ i x e
  ⟨v, a, k.here p z.z.inv r⟩
theorem ev_int {i : Int} (p : P (.d (.int i)) s) : EvE C (tC (.int i)) G s P := fun h σ H z Q k => k.here p z.z.inv (Dx.int i)
theorem ev_str {i : Str} (p : P (.d (.str i)) s) : EvE C (tC (.str i)) G s P := fun h σ H z Q k => k.here p z.z.inv (Dx.str i)
theorem ev_bl {i : Bool} (p : P (.d (.bool i)) s) : EvE C (tC (.bl i)) G s P := fun h σ H z Q k => k.here p z.z.inv (Dx.bl i)
theorem ev_non (p : P (.d .none) s) : EvE C (tC .non) G s P := fun h σ H z Q k => k.here p z.z.inv Dx.non
theorem ev_ref {a : Addr} (p : P (.o a) s) : EvE C (tC (.ref a)) G s P := fun h σ H z Q k => k.here p z.z.inv rfl
theorem ev_op {r : R2} (e : EvE C ta G s fun x s1 => EvE C tb G s1 fun y s2 => RO C r x y s2 P) : EvE C (tOp r ta tb) G s P := fun h σ H z Q k =>
  e h σ H z _ fun x s1 v H1 p1 k1 i1 r1 => p1 h σ H1 (z.go k1 i1) _ fun y s2 w H2 p2 k2 i2 r2 =>
    p2 h H2 v w ((z.go k1 i1).z.go k2 i2) (r1.mono (k2.sub z.z.sub)) r2 Q (k.after (k1.trans k2) fun _ _ q => q)
theorem ev_un {r : V → Hp → VK → Prop} (e : EvE C ta G s fun x s1 => RU C r x s1 P) : EvE C (tUn r ta) G s P := fun h σ H z Q k =>
  e h σ H z _ fun x s1 v H1 p1 k1 i1 r1 => p1 h H1 v (z.go k1 i1).z r1 Q (k.after k1 fun _ _ q => q)
theorem ev_cb {r : List V → Hp → VK → Prop} (e : EvA C tx G s fun xs s1 => RC C r xs s1 P) : EvE C (tCB r tx) G s P := fun h σ H z Q k =>
  e h σ H z _ fun x s1 v H1 p1 k1 i1 r1 => p1 h H1 v (z.go k1 i1).z r1 Q (k.after k1 fun _ _ q => q)
theorem ev_nil {P : List A → T → Prop} (p : P [] s) : EvA C tNil G s P := fun h σ H z Q k => k [] s [] H p Kp.refl z.z.inv .nil
theorem ev_cons {P : List A → T → Prop} (e : EvE C ta G s fun x s1 => EvA C tx G s1 fun xs s2 => P (x :: xs) s2) : EvA C (tCons ta tx) G s P := fun h σ H z Q k =>
  e h σ H z _ fun x s1 v H1 p1 k1 i1 r1 => p1 h σ H1 (z.go k1 i1) _ fun xs s2 vs H2 p2 k2 i2 r2 => k _ s2 _ H2 p2 (k1.trans k2) i2 (.cons (r1.mono (k2.sub z.z.sub)) r2)
theorem ev_call {sp : Sp} {dvs : List V} {E : XK} (e : EvA C tx G s fun xs s1 => RC C (fun vs H Q => sp (vs ++ dvs) H Q E) xs s1 P) : EvE C (tCall sp dvs E tx) G s P := fun h σ H z Q k =>
  e h σ H z _ fun x s1 v H1 p1 k1 i1 r1 => p1 h H1 v (z.go k1 i1).z r1 Q (k.after k1 fun _ _ q => q)
theorem ev_tup (e : EvA C tx G s fun xs s1 => ∃ ds, allD xs = some ds ∧ ds.length ≤ 100000 ∧ P (.d (.tuple ds)) s1) : EvE C (tTup tx) G s P := fun h σ H z Q k =>
  e h σ H z _ fun xs s1 vs H1 ⟨ds, e1, hl, p1⟩ k1 i1 r1 => by
    have rd := r1.data e1
    have zz := (z.go k1 i1).z
    refine ⟨by rw [rd.length]; exact Nat.le_trans hl (by decide), fun p hp => ?_⟩
    refine (k.after k1 fun _ _ q => q).new zz hp p1 ?_
    exact Dx.tup (SqT.of (hid_of (zz.fresh hp) upd_same)) (rd.mono (hid_mono fun b o n q => ⟨n, same_new hp b o q⟩))
theorem ev_lst (e : EvA C tx G s fun xs s1 => ∃ ds, allD xs = some ds ∧ ds.length ≤ 100000 ∧ P (.d (.list ds)) s1) : EvE C (tLst tx) G s P := fun h σ H z Q k =>
  e h σ H z _ fun xs s1 vs H1 ⟨ds, e1, hl, p1⟩ k1 i1 r1 => by
    have rd := r1.data e1
    have zz := (z.go k1 i1).z
    refine ⟨by rw [rd.length]; exact Nat.le_trans hl (by decide), fun p hp => ?_⟩
    refine (k.after k1 fun _ _ q => q).new zz hp p1 ?_
    exact Dx.lst (hid_of (zz.fresh hp) upd_same) (rd.mono (hid_mono fun b o n q => ⟨n, same_new hp b o q⟩))
end
end Cl

end
section
set_option Elab.async false
set_option linter.all false
set_option maxRecDepth 100000
set_option maxHeartbeats 2000000
namespace Cl
open PySem L2
section
variable {T : Type} {C : Cc T} {G : Gm} {s : T} {P : A → T → Prop} {ta tb tc te : TE} {tx : TA} {t u : TT}

/-! ### tests -/
theorem et_test {Pb : Bool → T → Prop} (e : EvE C te G s fun x s1 => ∃ b, x = .d (.bool b) ∧ Pb b s1) : EvT C (tTest te) G s Pb := fun h σ H z Q k =>
  e h σ H z _ fun x s1 v H1 ⟨b, e1, p1⟩ k1 i1 r1 => by subst e1; cases r1; exact ⟨b, rfl, k b s1 H1 p1 k1 i1⟩
theorem et_B {Pb : Bool → T → Prop} (e : EvE C te G s fun x s1 => ∃ b, x = .d (.bool b) ∧ Pb b s1) : EvT C (tB te) G s Pb := fun h σ H z Q k =>
  e h σ H z _ fun x s1 v H1 ⟨b, e1, p1⟩ k1 i1 r1 => by subst e1; cases r1; exact ⟨b, rfl, k b s1 H1 p1 k1 i1⟩
theorem et_and {Pb : Bool → T → Prop} (e : EvT C t G s fun b s1 => if b = true then EvT C u G s1 Pb else Pb false s1) : EvT C (tAnd t u) G s Pb := fun h σ H z Q k =>
  e h σ H z _ fun b s1 H1 p1 k1 i1 => by
    cases b with
    | true =>
      rw [if_pos rfl] at p1 ⊢
      exact p1 h σ H1 (z.go k1 i1) Q fun b s2 H2 p2 k2 i2 => k b s2 H2 p2 (k1.trans k2) i2
    | false =>
      rw [if_neg Bool.false_ne_true] at p1 ⊢
      exact k false s1 H1 p1 k1 i1
theorem et_or {Pb : Bool → T → Prop} (e : EvT C t G s fun b s1 => if b = true then Pb true s1 else EvT C u G s1 Pb) : EvT C (tOr t u) G s Pb := fun h σ H z Q k =>
  e h σ H z _ fun b s1 H1 p1 k1 i1 => by
    cases b with
    | false =>
      rw [if_neg Bool.false_ne_true] at p1 ⊢
      exact p1 h σ H1 (z.go k1 i1) Q fun b s2 H2 p2 k2 i2 => k b s2 H2 p2 (k1.trans k2) i2
    | true =>
      rw [if_pos rfl] at p1 ⊢
      exact k true s1 H1 p1 k1 i1
theorem et_not {Pb : Bool → T → Prop} (e : EvT C t G s fun b s1 => Pb (!b) s1) : EvT C (tNot t) G s Pb := fun h σ H z Q k =>
  e h σ H z _ fun b s1 H1 p1 k1 i1 => k (!b) s1 H1 p1 k1 i1
theorem et_yes {Pb : Bool → T → Prop} (p : Pb true s) : EvT C tYes G s Pb := fun h σ H z Q k => k true s H p Kp.refl z.z.inv
theorem ev_andV (e : EvE C ta G s fun x s1 => ∃ b, x = .d (.bool b) ∧ if b = true then EvE C tb G s1 P else P (.d (.bool false)) s1) : EvE C (tAndV ta tb) G s P := fun h σ H z Q k =>
  e h σ H z _ fun x s1 v H1 ⟨b, e1, p1⟩ k1 i1 r1 => by
    subst e1; cases r1
    refine ⟨b, rfl, ?_⟩
    cases b with
    | true =>
      rw [if_pos rfl] at p1 ⊢
      exact p1 h σ H1 (z.go k1 i1) Q (k.after k1 fun _ _ q => q)
    | false =>
      rw [if_neg Bool.false_ne_true] at p1 ⊢
      exact k _ s1 _ H1 p1 k1 i1 (Dx.bl false)
theorem ev_orV (e : EvE C ta G s fun x s1 => ∃ b, x = .d (.bool b) ∧ if b = true then P (.d (.bool true)) s1 else EvE C tb G s1 P) : EvE C (tOrV ta tb) G s P := fun h σ H z Q k =>
  e h σ H z _ fun x s1 v H1 ⟨b, e1, p1⟩ k1 i1 r1 => by
    subst e1; cases r1
    refine ⟨b, rfl, ?_⟩
    cases b with
    | false =>
      rw [if_neg Bool.false_ne_true] at p1 ⊢
      exact p1 h σ H1 (z.go k1 i1) Q (k.after k1 fun _ _ q => q)
    | true =>
      rw [if_pos rfl] at p1 ⊢
      exact k _ s1 _ H1 p1 k1 i1 (Dx.bl true)
theorem ev_notV (e : EvE C ta G s fun x s1 => ∃ b, x = .d (.bool b) ∧ P (.d (.bool (!b))) s1) : EvE C (tNotV ta) G s P := fun h σ H z Q k =>
  e h σ H z _ fun x s1 v H1 ⟨b, e1, p1⟩ k1 i1 r1 => by
    subst e1; cases r1
    exact ⟨b, rfl, k _ s1 _ H1 p1 k1 i1 (Dx.bl _)⟩
theorem ev_if (e : EvT C t G s fun b s1 => if b = true then EvE C ta G s1 P else EvE C tb G s1 P) : EvE C (tIf t ta tb) G s P := fun h σ H z Q k =>
  e h σ H z _ fun b s1 H1 p1 k1 i1 => by
    cases b with
    | true =>
      rw [if_pos rfl] at p1 ⊢
      exact p1 h σ H1 (z.go k1 i1) Q (k.after k1 fun _ _ q => q)
    | false =>
      rw [if_neg Bool.false_ne_true] at p1 ⊢
      exact p1 h σ H1 (z.go k1 i1) Q (k.after k1 fun _ _ q => q)
theorem ev_chain {r r' : R2} (e : EvE C ta G s fun x s1 => EvE C tb G s1 fun y s2 => RO C r x y s2 fun w s3 => ∃ b, w = .d (.bool b) ∧ if b = true then EvE C tc G s3 fun z s4 => RO C r' y z s4 P else P (.d (.bool false)) s3) :
    EvE C (tChain r r' ta tb tc) G s P := fun h σ H z Q k =>
  e h σ H z _ fun x s1 v H1 p1 k1 i1 r1 => p1 h σ H1 (z.go k1 i1) _ fun y s2 w H2 p2 k2 i2 r2 =>
    p2 h H2 v w ((z.go k1 i1).z.go k2 i2) (r1.mono (k2.sub z.z.sub)) r2 _ fun q s3 cv H3 ⟨b, e3, p3⟩ k3 i3 r3 => by
      subst e3; cases r3
      refine ⟨b, rfl, ?_⟩
      have z3 : Ok C h σ H3 G s3 := ((z.go k1 i1).go k2 i2).go k3 i3
      cases b with
      | true =>
        rw [if_pos rfl] at p3 ⊢
        exact p3 h σ H3 z3 _ fun cz s4 vz H4 p4 k4 i4 r4 => p4 h H4 w vz (z3.z.go k4 i4) (r2.mono ((k3.trans k4).sub z.z.sub)) r4 Q (k.after (((k1.trans k2).trans k3).trans k4) fun _ _ q => q)
      | false =>
        rw [if_neg Bool.false_ne_true] at p3 ⊢
        exact k _ s3 _ H3 p3 ((k1.trans k2).trans k3) i3 (Dx.bl false)

/-! ### operations on values -/
theorem RO.or1 {r r' : R2} {x y : A} (e : RO C r x y s P) : RO C (fun a b H Q => r a b H Q ∨ r' a b H Q) x y s P := fun h H v u z a b Q k => .inl (e h H v u z a b Q k)
theorem RO.or2 {r r' : R2} {x y : A} (e : RO C r' x y s P) : RO C (fun a b H Q => r a b H Q ∨ r' a b H Q) x y s P := fun h H v u z a b Q k => .inr (e h H v u z a b Q k)
theorem ro_int {g : Int → Int → V} {i j n : Int} (hg : g i j = .int n) (p : P (.d (.int n)) s) : RO C (rI0 g) (.d (.int i)) (.d (.int j)) s P := fun h H v u z a b Q k => by
  cases a; cases b
  exact ⟨i, j, rfl, rfl, by rw [hg]; exact k.here p z.inv (Dx.int n)⟩
theorem ro_bl {g : Int → Int → V} {i j : Int} {c : Bool} (hg : g i j = .bl c) (p : P (.d (.bool c)) s) : RO C (rI0 g) (.d (.int i)) (.d (.int j)) s P := fun h H v u z a b Q k => by
  cases a; cases b
  exact ⟨i, j, rfl, rfl, by rw [hg]; exact k.here p z.inv (Dx.bl c)⟩
theorem ro_intC {Cn : Int → Int → Prop} {g : Int → Int → V} {i j n : Int} (hg : g i j = .int n) (hc : Cn i j) (p : P (.d (.int n)) s) : RO C (rI Cn g) (.d (.int i)) (.d (.int j)) s P := fun h H v u z a b Q k => by
  cases a; cases b
  exact ⟨i, j, rfl, rfl, hc, by rw [hg]; exact k.here p z.inv (Dx.int n)⟩
theorem ro_eqI {i j : Int} (p : P (.d (.bool (decide (i = j)))) s) : RO C rEq (.d (.int i)) (.d (.int j)) s P := fun h H v u z a b Q k => by
  cases a; cases b
  refine ⟨rfl, ?_⟩
  have e : decide (V.int i = V.int j) = decide (i = j) := decide_eq_decide.mpr ⟨fun q => V.int.inj q, fun q => by rw [q]⟩
  rw [e]
  exact k.here p z.inv (Dx.bl _)
theorem ro_neI {i j : Int} (p : P (.d (.bool (!decide (i = j)))) s) : RO C rNe (.d (.int i)) (.d (.int j)) s P := fun h H v u z a b Q k => by
  cases a; cases b
  refine ⟨rfl, ?_⟩
  have e : decide (V.int i = V.int j) = decide (i = j) := decide_eq_decide.mpr ⟨fun q => V.int.inj q, fun q => by rw [q]⟩
  rw [e]
  exact k.here p z.inv (Dx.bl _)
theorem ro_eqS {i j : Str} (p : P (.d (.bool (decide (i = j)))) s) : RO C rEq (.d (.str i)) (.d (.str j)) s P := fun h H v u z a b Q k => by
  cases a; cases b
  refine ⟨rfl, ?_⟩
  have e : decide (V.str i = V.str j) = decide (i = j) := decide_eq_decide.mpr ⟨fun q => V.str.inj q, fun q => by rw [q]⟩
  rw [e]
  exact k.here p z.inv (Dx.bl _)
theorem ro_neS {i j : Str} (p : P (.d (.bool (!decide (i = j)))) s) : RO C rNe (.d (.str i)) (.d (.str j)) s P := fun h H v u z a b Q k => by
  cases a; cases b
  refine ⟨rfl, ?_⟩
  have e : decide (V.str i = V.str j) = decide (i = j) := decide_eq_decide.mpr ⟨fun q => V.str.inj q, fun q => by rw [q]⟩
  rw [e]
  exact k.here p z.inv (Dx.bl _)
theorem ro_eqB {i j : Bool} (p : P (.d (.bool (decide (i = j)))) s) : RO C rEq (.d (.bool i)) (.d (.bool j)) s P := fun h H v u z a b Q k => by
  cases a; cases b
  refine ⟨rfl, ?_⟩
  have e : decide (V.bl i = V.bl j) = decide (i = j) := decide_eq_decide.mpr ⟨fun q => V.bl.inj q, fun q => by rw [q]⟩
  rw [e]
  exact k.here p z.inv (Dx.bl _)
theorem ro_neB {i j : Bool} (p : P (.d (.bool (!decide (i = j)))) s) : RO C rNe (.d (.bool i)) (.d (.bool j)) s P := fun h H v u z a b Q k => by
  cases a; cases b
  refine ⟨rfl, ?_⟩
  have e : decide (V.bl i = V.bl j) = decide (i = j) := decide_eq_decide.mpr ⟨fun q => V.bl.inj q, fun q => by rw [q]⟩
  rw [e]
  exact k.here p z.inv (Dx.bl _)
theorem ro_eqD {d e : PyData} (hd : SeqAt.shaped d = true) (he : SeqAt.shaped e = true) (p : P (.d (.bool (PyData.eqv d e))) s) : RO C (rEqD C.K) (.d d) (.d e) s P := fun h H v u z a b Q k =>
  ⟨d, e, (Dx.mono hid_le a).dp, (Dx.mono hid_le b).dp, hd, he, k.here p z.inv (Dx.bl _)⟩
theorem ro_neD {d e : PyData} (hd : SeqAt.shaped d = true) (he : SeqAt.shaped e = true) (p : P (.d (.bool (!PyData.eqv d e))) s) : RO C (rNeD C.K) (.d d) (.d e) s P := fun h H v u z a b Q k =>
  ⟨d, e, (Dx.mono hid_le a).dp, (Dx.mono hid_le b).dp, hd, he, k.here p z.inv (Dx.bl _)⟩
/-- == of data: flat ones, or at any depth -/
def rEqU (K : PySem.W.Frag) : R2 := fun x y H Q => rEq x y H Q ∨ rEqD K x y H Q
def rNeU (K : PySem.W.Frag) : R2 := fun x y H Q => rNe x y H Q ∨ rNeD K x y H Q
def isNo : A → Bool
  | .d .none => true
  | _ => false
theorem rv_isNo {K : PySem.W.Frag} {h : Hm} {H : Hp} {v : V} : ∀ {x : A}, Rv K h H v x → decide (v = .non) = isNo x
  | .d .none, r => by cases r; rfl
  | .d (.bool b), r => by cases r; rfl
  | .d (.int b), r => by cases r; rfl
  | .d (.str b), r => by cases r; rfl
  | .d (.list b), r => by cases r; rfl
  | .d (.tuple b), r => by cases r; rfl
  | .d (.dict b), r => by cases r
  | .o a, r => by cases r; rfl
theorem ro_isN {x : A} (p : P (.d (.bool (isNo x))) s) : RO C (fun x y H Q => y = .non ∧ Q (.bl (decide (x = .non))) H) x (.d .none) s P := fun h H v u z a b Q k => by
  cases b
  refine ⟨rfl, ?_⟩
  rw [rv_isNo a]
  exact k.here p z.inv (Dx.bl _)
theorem ro_notN {x : A} (p : P (.d (.bool (!isNo x))) s) : RO C (fun x y H Q => y = .non ∧ Q (.bl (!decide (x = .non))) H) x (.d .none) s P := fun h H v u z a b Q k => by
  cases b
  refine ⟨rfl, ?_⟩
  rw [rv_isNo a]
  exact k.here p z.inv (Dx.bl _)
theorem atI_len {α β : Type} {xs : List α} {ys : List β} {i : Int} {y : β} (hl : xs.length = ys.length) (h : atI ys i = some y) : ∃ j : Nat, ys[j]? = some y ∧ ∀ x, xs[j]? = some x → atI xs i = some x := by
  unfold atI at h ⊢
  rw [hl]
  cases q : ixN ys.length i with
  | none => rw [q] at h; cases h
  | some j => rw [q] at h; exact ⟨j, h, fun x e => e⟩
theorem dx_at {K : PySem.W.Frag} {H : Hp} {vs : List V} {ds : List PyData} {i : Int} {d : PyData} (a : DxAll K H vs ds) (h : atI ds i = some d) : ∃ v, atI vs i = some v ∧ Dx K H v d := by
  obtain ⟨j, e1, e2⟩ := atI_len a.length h
  obtain ⟨v, e3, r⟩ := a.got e1
  exact ⟨v, e2 v e3, r⟩
theorem ro_ixL {ds : List PyData} {i : Int} {d : PyData} (e : atI ds i = some d) (p : P (.d d) s) : RO C (rIx C.K) (.d (.list ds)) (.d (.int i)) s P := fun h H v u z a b Q k => by
  cases b
  cases a with
  | lst q r =>
    obtain ⟨w, e1, r1⟩ := dx_at r e
    exact .inl ⟨_, _, i, w, rfl, rfl, SqL.of (hid_le _ _ q), e1, k.here p z.inv r1⟩
theorem ro_ixT {ds : List PyData} {i : Int} {d : PyData} (e : atI ds i = some d) (p : P (.d d) s) : RO C (rIx C.K) (.d (.tuple ds)) (.d (.int i)) s P := fun h H v u z a b Q k => by
  cases b
  cases a with
  | tup q r =>
    obtain ⟨w, e1, r1⟩ := dx_at r e
    exact .inr (.inl ⟨_, _, i, w, rfl, rfl, sqT_mono hid_le q, e1, k.here p z.inv r1⟩)
theorem ro_ixS {w : Str} {i : Int} {c : Nat} (hl : w.length ≤ 100000) (e : atI w.cps.toList i = some c) (p : P (.d (.str ⟨#[c]⟩)) s) : RO C (rIx C.K) (.d (.str w)) (.d (.int i)) s P := fun h H v u z a b Q k => by
  cases b; cases a
  exact .inr (.inr ⟨w, i, c, rfl, rfl, Nat.le_trans hl (by decide), e, k.here p z.inv (Dx.str _)⟩)
/-- + of numbers, texts, lists, tuples -/
def rStrCat : R2 := fun x y H Q => ∃ i j, x = .str i ∧ y = .str j ∧ i.length + j.length ≤ sizeLine ∧ Q (.str (i ++ j)) H
def rPlus (K : PySem.W.Frag) : R2 := fun x y H Q => rI0 (fun i j => .int (i + j)) x y H Q ∨ rStrCat x y H Q ∨ rCat x y H Q ∨ rCatA K x y H Q
theorem ro_plI {i j : Int} (p : P (.d (.int (i + j))) s) : RO C (rPlus C.K) (.d (.int i)) (.d (.int j)) s P := fun h H v u z a b Q k => .inl (ro_int rfl p h H v u z a b Q k)
theorem ro_plS {i j : Str} (hl : i.length + j.length ≤ 100000) (p : P (.d (.str (i ++ j))) s) : RO C (rPlus C.K) (.d (.str i)) (.d (.str j)) s P := fun h H v u z a b Q k => by
  cases a; cases b
  exact .inr (.inl ⟨i, j, rfl, rfl, Nat.le_trans hl (by decide), k.here p z.inv (Dx.str _)⟩)
theorem ro_plL {ds es : List PyData} (hl : ds.length + es.length ≤ 100000) (p : P (.d (.list (ds ++ es))) s) : RO C (rPlus C.K) (.d (.list ds)) (.d (.list es)) s P := fun h H v u z a b Q k => by
  cases a with
  | lst qa ra =>
    cases b with
    | lst qb rb =>
      refine .inr (.inr (.inl ⟨_, _, _, _, rfl, rfl, hid_le _ _ qa, hid_le _ _ qb, by rw [ra.length, rb.length]; exact Nat.le_trans hl (by decide), fun q hq => ?_⟩))
      exact k.new z hq p (Dx.lst (hid_of (z.fresh hq) upd_same) ((ra.append rb).mono (hid_new hq)))
theorem ro_plT {ds es : List PyData} (hl : ds.length + es.length ≤ 100000) (p : P (.d (.tuple (ds ++ es))) s) : RO C (rPlus C.K) (.d (.tuple ds)) (.d (.tuple es)) s P := fun h H v u z a b Q k => by
  cases a with
  | tup qa ra =>
    cases b with
    | tup qb rb =>
      refine .inr (.inr (.inr ⟨_, _, _, _, rfl, rfl, sqT_mono hid_le qa, sqT_mono hid_le qb, by rw [ra.length, rb.length]; exact Nat.le_trans hl (by decide), fun e => ?_, fun _ e => ?_, fun _ _ q hq => ?_⟩))
      · subst e
        cases ra
        exact k.here p z.inv (Dx.tup qb rb)
      · subst e
        cases rb
        rw [List.append_nil] at p
        exact k.here p z.inv (Dx.tup qa ra)
      · exact k.new z hq p (Dx.tup (SqT.of (hid_of (z.fresh hq) upd_same)) ((ra.append rb).mono (hid_new hq)))
/-- x in y: a sign in a text; flat things in a list or tuple -/
def rInSign : R2 := fun x y H Q => ∃ (c : Nat) (z : Str), x = .str ⟨#[c]⟩ ∧ y = .str z ∧ Q (.bl (decide (c ∈ z.cps.toList))) H
theorem ro_inS {c : Nat} {w : Str} (p : P (.d (.bool (decide (c ∈ w.cps.toList)))) s) : RO C rInSign (.d (.str ⟨#[c]⟩)) (.d (.str w)) s P := fun h H v u z a b Q k => by
  cases a; cases b
  exact ⟨c, w, rfl, rfl, k.here p z.inv (Dx.bl _)⟩
end
end Cl

end
section
set_option Elab.async false
set_option linter.all false
set_option maxRecDepth 100000
set_option maxHeartbeats 2000000
namespace Cl
open PySem L2 RZ
/-! ### unions of rules, whatever the kinds are -/
section
variable {X : Cx}
theorem opr_or {f : Value → Value → Sem Value} {r r' : R2} (a : OpR X f r) (b : OpR X f r') : OpR X f (fun x y H Q => r x y H Q ∨ r' x y H Q) := fun pins s σ H x y v u Q I rx ry h => by
  rcases h with h | h
  · exact a pins s σ H x y v u Q I rx ry h
  · exact b pins s σ H x y v u Q I rx ry h
theorem op_plus : OpR X (binaryOp .Add) (rPlus X.K) := opr_or op_add (opr_or op_add_str (opr_or op_cat op_catA))
theorem op_eqU (hu : X.A.units + 64 < cLine) : OpR X (compareOp .Eq) (rEqU X.K) := opr_or op_eq (op_eqD hu)
theorem op_neU (hu : X.A.units + 64 < cLine) : OpR X (compareOp .NotEq) (rNeU X.K) := opr_or op_ne (op_neD hu)
def rInU (K : PySem.W.Frag) (n : Bool) : R2 := fun x y H Q => (∃ (c : Nat) (z : Str), x = .str ⟨#[c]⟩ ∧ y = .str z ∧ Q (.bl (if n then !decide (c ∈ z.cps.toList) else decide (c ∈ z.cps.toList))) H) ∨ rIn K n x y H Q
theorem op_inU : OpR X (compareOp .In) (rInU X.K false) := opr_or op_in_sign op_in_seq
theorem op_notInU : OpR X (compareOp .NotIn) (rInU X.K true) := opr_or op_notIn_sign op_notIn_seq
theorem slr_or {r r' : V → Option Int → Option Int → Hp → VK → Prop} (a : SlR X r) (b : SlR X r') : SlR X (fun x lo hi H Q => r x lo hi H Q ∨ r' x lo hi H Q) := by
  intro pins s σ H x v vl vu lo hi sl Q I rx hs pl pu h
  rcases h with h | h
  · exact a pins s σ H x v vl vu lo hi sl Q I rx hs pl pu h
  · exact b pins s σ H x v vl vu lo hi sl Q I rx hs pl pu h
def rSlU (K : PySem.W.Frag) : V → Option Int → Option Int → Hp → VK → Prop := fun x lo hi H Q => rSlL K x lo hi H Q ∨ rSlA K x lo hi H Q ∨ rSlS x lo hi H Q
theorem sl_any : SlR X (rSlU X.K) := slr_or sl_list (slr_or sl_tupA sl_str)
theorem pi_or {tg e : Expr} {w w' : TI} (a : PI X tg e w) (b : PI X tg e w') : PI X tg e (fun σ H R => w σ H R ∨ w' σ H R) := ⟨fun pins s σ H R I h => by
  rcases h with h | h
  · exact a.run pins s σ H R I h
  · exact b.run pins s σ H R I h⟩
def iAny (K : PySem.W.Frag) (te : TE) : TI := fun σ H R => iList K te σ H R ∨ iTup K te σ H R ∨ iStr te σ H R
theorem pi_any {tg e : Expr} {te : TE} (h : PE X e te) : PI X tg e (iAny X.K te) := pi_or (pi_list h) (pi_or (pi_tup h) (pi_str h))
end

section
variable {T : Type} {C : Cc T} {G : Gm} {s : T} {P : A → T → Prop} {ta tb tc te : TE} {tx : TA} {t u : TT}
theorem RO.orE1 {r r' : R2} {x y : A} (e : RO C r x y s P) : RO C (fun a b H Q => r a b H Q ∨ r' a b H Q) x y s P := RO.or1 e
theorem ro_eqU1 {x y : A} (e : RO C rEq x y s P) : RO C (rEqU C.K) x y s P := fun h H v u z a b Q k => .inl (e h H v u z a b Q k)
theorem ro_eqU2 {x y : A} (e : RO C (rEqD C.K) x y s P) : RO C (rEqU C.K) x y s P := fun h H v u z a b Q k => .inr (e h H v u z a b Q k)
theorem ro_neU1 {x y : A} (e : RO C rNe x y s P) : RO C (rNeU C.K) x y s P := fun h H v u z a b Q k => .inl (e h H v u z a b Q k)
theorem ro_neU2 {x y : A} (e : RO C (rNeD C.K) x y s P) : RO C (rNeU C.K) x y s P := fun h H v u z a b Q k => .inr (e h H v u z a b Q k)
theorem ro_in1 {c : Nat} {w : Str} (p : P (.d (.bool (decide (c ∈ w.cps.toList)))) s) : RO C (rInU C.K false) (.d (.str ⟨#[c]⟩)) (.d (.str w)) s P := fun h H v u z a b Q k => by
  cases a; cases b
  exact .inl ⟨c, w, rfl, rfl, k.here p z.inv (Dx.bl _)⟩
theorem ro_ni1 {c : Nat} {w : Str} (p : P (.d (.bool (!decide (c ∈ w.cps.toList)))) s) : RO C (rInU C.K true) (.d (.str ⟨#[c]⟩)) (.d (.str w)) s P := fun h H v u z a b Q k => by
  cases a; cases b
  exact .inl ⟨c, w, rfl, rfl, k.here p z.inv (Dx.bl _)⟩

/-! ### slices -/
theorem eo_none {Po : Option Int → T → Prop} (p : Po none s) : EvO C tNoPart G s Po := fun h σ H z Q k => k none s H p Kp.refl z.z.inv
theorem eo_some {Po : Option Int → T → Prop} (e : EvE C te G s fun x s1 => ∃ i, x = .d (.int i) ∧ Po (some i) s1) : EvO C (tPart te) G s Po := fun h σ H z Q k =>
  e h σ H z _ fun x s1 v H1 ⟨i, e1, p1⟩ k1 i1 r1 => by subst e1; cases r1; exact ⟨i, rfl, k (some i) s1 H1 p1 k1 i1⟩
theorem ev_sl {r : V → Option Int → Option Int → Hp → VK → Prop} {tl th : TO} (e : EvE C te G s fun x s1 => EvO C tl G s1 fun lo s2 => EvO C th G s2 fun hi s3 => RS C r x lo hi s3 P) : EvE C (tSl r te tl th) G s P := fun h σ H z Q k =>
  e h σ H z _ fun x s1 v H1 p1 k1 i1 r1 => p1 h σ H1 (z.go k1 i1) _ fun lo s2 H2 p2 k2 i2 => p2 h σ H2 ((z.go k1 i1).go k2 i2) _ fun hi s3 H3 p3 k3 i3 =>
    p3 h H3 v (((z.go k1 i1).go k2 i2).go k3 i3).z (r1.mono ((k2.trans k3).sub z.z.sub)) Q (k.after ((k1.trans k2).trans k3) fun _ _ q => q)
/-- the slice of data -/
def cutD {α : Type} (xs : List α) (lo hi : Option Int) : List α := (xs.drop (HT.sIx xs.length 0 lo)).take (HT.sIx xs.length xs.length hi - HT.sIx xs.length 0 lo)
theorem dx_cut {K : PySem.W.Frag} {H : Hp} {vs : List V} {ds : List PyData} (a : DxAll K H vs ds) (lo hi : Option Int) : DxAll K H (cutV vs lo hi) (cutD ds lo hi) := by
  unfold cutV cutD
  rw [a.length]
  exact (a.drop _).take _
theorem rs_list {ds : List PyData} {lo hi : Option Int} (p : P (.d (.list (cutD ds lo hi))) s) : RS C (rSlU C.K) (.d (.list ds)) lo hi s P := fun h H v z a Q k => by
  cases a with
  | lst q r => exact .inl ⟨_, _, rfl, SqL.of (hid_le _ _ q), fun p' hp => k.new z hp p (Dx.lst (hid_of (z.fresh hp) upd_same) ((dx_cut r lo hi).mono (hid_new hp)))⟩
theorem rs_tup {ds : List PyData} {lo hi : Option Int} (p : P (.d (.tuple (cutD ds lo hi))) s) : RS C (rSlU C.K) (.d (.tuple ds)) lo hi s P := fun h H v z a Q k => by
  cases a with
  | @tup aa xs _ q r =>
    refine .inr (.inl ⟨_, _, rfl, sqT_mono hid_le q, fun hw => ?_, fun _ p' hp => k.new z hp p (Dx.tup (SqT.of (hid_of (z.fresh hp) upd_same)) ((dx_cut r lo hi).mono (hid_new hp)))⟩)
    have e : cutD ds lo hi = ds := by
      unfold cutD
      rw [r.length] at hw
      rw [hw.1, hw.2]
      simp
    rw [e] at p
    exact k.here p z.inv (Dx.tup q r)
theorem rs_str {w : Str} {lo hi : Option Int} (hl : w.length ≤ 100000) (p : P (.d (.str (cutS w lo hi))) s) : RS C (rSlU C.K) (.d (.str w)) lo hi s P := fun h H v z a Q k => by
  cases a
  exact .inr (.inr ⟨w, rfl, Nat.le_trans hl (by decide), k.here p z.inv (Dx.str _)⟩)

/-! ### built-ins -/
theorem rc_lenL {ds : List PyData} (p : P (.d (.int ds.length)) s) : RC C (fun xs H Q => ∃ x n, xs = [x] ∧ LenV C.K x H n ∧ Q (.int n) H) [.d (.list ds)] s P := fun h H vs z a Q k => by
  cases a with
  | cons r t =>
    cases t
    cases r with
    | lst q rr => exact ⟨_, ds.length, rfl, .inl ⟨_, SqL.of (hid_le _ _ q), rr.length.symm⟩, k.here p z.inv (Dx.int _)⟩
theorem rc_lenT {ds : List PyData} (p : P (.d (.int ds.length)) s) : RC C (fun xs H Q => ∃ x n, xs = [x] ∧ LenV C.K x H n ∧ Q (.int n) H) [.d (.tuple ds)] s P := fun h H vs z a Q k => by
  cases a with
  | cons r t =>
    cases t
    cases r with
    | tup q rr => exact ⟨_, ds.length, rfl, .inr ⟨_, sqT_mono hid_le q, rr.length.symm⟩, k.here p z.inv (Dx.int _)⟩
theorem rc_lenS {w : Str} (hl : w.length ≤ 100000) (p : P (.d (.int w.length)) s) : RC C (fun xs H Q => ∃ x n, xs = [x] ∧ LenV C.K x H n ∧ Q (.int n) H) [.d (.str w)] s P := fun h H vs z a Q k => by
  cases a with
  | cons r t =>
    cases t; cases r
    exact ⟨_, w.length, rfl, ⟨Nat.le_trans hl (by decide), rfl⟩, k.here p z.inv (Dx.int _)⟩
theorem rc_listL {ds : List PyData} (p : P (.d (.list ds)) s) : RC C (fun xs H Q => ∃ p ys, xs = [.ref p] ∧ (SqL C.K H p ys ∨ SqT C.K H p ys) ∧ ∀ l, H l = none → Q (.ref l) (upd H l (.lst ys))) [.d (.list ds)] s P := fun h H vs z a Q k => by
  cases a with
  | cons r t =>
    cases t
    cases r with
    | lst q rr => exact ⟨_, _, rfl, .inl (SqL.of (hid_le _ _ q)), fun l hl => k.new z hl p (Dx.lst (hid_of (z.fresh hl) upd_same) (rr.mono (hid_new hl)))⟩
theorem rc_listT {ds : List PyData} (p : P (.d (.list ds)) s) : RC C (fun xs H Q => ∃ p ys, xs = [.ref p] ∧ (SqL C.K H p ys ∨ SqT C.K H p ys) ∧ ∀ l, H l = none → Q (.ref l) (upd H l (.lst ys))) [.d (.tuple ds)] s P := fun h H vs z a Q k => by
  cases a with
  | cons r t =>
    cases t
    cases r with
    | tup q rr => exact ⟨_, _, rfl, .inr (sqT_mono hid_le q), fun l hl => k.new z hl p (Dx.lst (hid_of (z.fresh hl) upd_same) (rr.mono (hid_new hl)))⟩
theorem rc_tupL {ds : List PyData} (p : P (.d (.tuple ds)) s) : RC C (fun xs H Q => ∃ p ys, xs = [.ref p] ∧ ((SqL C.K H p ys ∧ ∀ l, H l = none → Q (.ref l) (upd H l (.tup ys))) ∨ (SqT C.K H p ys ∧ Q (.ref p) H))) [.d (.list ds)] s P := fun h H vs z a Q k => by
  cases a with
  | cons r t =>
    cases t
    cases r with
    | lst q rr => exact ⟨_, _, rfl, .inl ⟨SqL.of (hid_le _ _ q), fun l hl => k.new z hl p (Dx.tup (SqT.of (hid_of (z.fresh hl) upd_same)) (rr.mono (hid_new hl)))⟩⟩
theorem rc_tupT {ds : List PyData} (p : P (.d (.tuple ds)) s) : RC C (fun xs H Q => ∃ p ys, xs = [.ref p] ∧ ((SqL C.K H p ys ∧ ∀ l, H l = none → Q (.ref l) (upd H l (.tup ys))) ∨ (SqT C.K H p ys ∧ Q (.ref p) H))) [.d (.tuple ds)] s P := fun h H vs z a Q k => by
  cases a with
  | cons r t =>
    cases t
    cases r with
    | tup q rr => exact ⟨_, _, rfl, .inr ⟨sqT_mono hid_le q, k.here p z.inv (Dx.tup q rr)⟩⟩
theorem rc_all {bs : List Bool} (p : P (.d (.bool (bs.all id))) s) : RC C (rAll C.K) [.d (.list (bs.map PyData.bool))] s P := fun h H vs z a Q k => by
  cases a with
  | cons r t =>
    cases t
    cases r with
    | lst q rr =>
      have e := rr.bls
      subst e
      exact ⟨_, bs, rfl, SqL.of (hid_le _ _ q), k.here p z.inv (Dx.bl _)⟩
theorem rc_any {bs : List Bool} (p : P (.d (.bool (bs.any id))) s) : RC C (rAny C.K) [.d (.list (bs.map PyData.bool))] s P := fun h H vs z a Q k => by
  cases a with
  | cons r t =>
    cases t
    cases r with
    | lst q rr =>
      have e := rr.bls
      subst e
      exact ⟨_, bs, rfl, SqL.of (hid_le _ _ q), k.here p z.inv (Dx.bl _)⟩
theorem rc_max2 {i j : Int} (p : P (.d (.int (if j > i then j else i))) s) : RC C (fun xs H Q => ∃ i j, xs = [.int i, .int j] ∧ Q (.int (if j > i then j else i)) H) [.d (.int i), .d (.int j)] s P := fun h H vs z a Q k => by
  cases a with
  | cons r t =>
    cases t with
    | cons r2 t2 => cases t2; cases r; cases r2; exact ⟨i, j, rfl, k.here p z.inv (Dx.int _)⟩
theorem rc_min2 {i j : Int} (p : P (.d (.int (if j < i then j else i))) s) : RC C (fun xs H Q => ∃ i j, xs = [.int i, .int j] ∧ Q (.int (if j < i then j else i)) H) [.d (.int i), .d (.int j)] s P := fun h H vs z a Q k => by
  cases a with
  | cons r t =>
    cases t with
    | cons r2 t2 => cases t2; cases r; cases r2; exact ⟨i, j, rfl, k.here p z.inv (Dx.int _)⟩
/-- sep.join(xs) -/
theorem ev_join {to : TE} (e : EvE C to G s fun x s1 => ∃ a, x = .d (.str a) ∧ EvE C te G s1 fun y s2 => ∃ ys : List Str, (y = .d (.list (ys.map PyData.str)) ∨ y = .d (.tuple (ys.map PyData.str))) ∧ (ys.map (·.length)).sum + ys.length * a.length ≤ 16777216 ∧ P (.d (.str (Txt.join a ys))) s2) :
    EvE C (tM1 (fun x xs H Q => ∃ a p, ∃ ys : List Str, x = .str a ∧ xs = [.ref p] ∧ (SqL C.K H p (ys.map V.str) ∨ SqT C.K H p (ys.map V.str)) ∧ (ys.map (·.length)).sum + ys.length * a.length ≤ 16777216 ∧ Q (.str (Txt.join a ys)) H) to te) G s P := fun h σ H z Q k =>
  e h σ H z _ fun x s1 v H1 ⟨a, e1, p1⟩ k1 i1 r1 => by
    subst e1; cases r1
    refine ⟨⟨a, rfl⟩, p1 h σ H1 (z.go k1 i1) _ fun y s2 w H2 ⟨ys, e2, hz, p2⟩ k2 i2 r2 => ?_⟩
    rcases e2 with e2 | e2
    · subst e2
      cases r2 with
      | lst q rr =>
        have e := rr.strs
        subst e
        exact ⟨a, _, ys, rfl, rfl, .inl (SqL.of (hid_le _ _ q)), hz, k _ s2 _ H2 p2 (k1.trans k2) i2 (Dx.str _)⟩
    · subst e2
      cases r2 with
      | tup q rr =>
        have e := rr.strs
        subst e
        exact ⟨a, _, ys, rfl, rfl, .inr (sqT_mono hid_le q), hz, k _ s2 _ H2 p2 (k1.trans k2) i2 (Dx.str _)⟩

/-! ### isinstance of data against built-in classes -/
def tyD : PyData → String
  | .none => "NoneType"
  | .bool _ => "bool"
  | .int _ => "int"
  | .str _ => "str"
  | .list _ => "list"
  | .tuple _ => "tuple"
  | .dict _ => "dict"
theorem dx_ty {K : PySem.W.Frag} {H : Hp} {v : V} : ∀ {d : PyData}, Dx K H v d → TyX K H v (.type (tyD d))
  | .none, r => by cases r; exact .base .non
  | .bool b, r => by cases r; exact .base (.bl b)
  | .int b, r => by cases r; exact .base (.int b)
  | .str b, r => by cases r; exact .base (.str b)
  | .list ds, r => by
    cases r with
    | lst q _ => exact .base (.lst q)
  | .tuple ds, r => by
    cases r with
    | tup q _ =>
      rcases q with (q | ⟨o, q⟩) | ⟨o, its, n, q, c, _⟩
      · exact .base (.tup q)
      · exact .fTuple q
      · exact .kTuple q c
theorem ev_isi {n : String} {tv : TE} (e : EvE C tv G s fun x s1 => ∃ d b, x = .d d ∧ kitB (tyD d) n = some b ∧ P (.d (.bool b)) s1) : EvE C (tCB (rIsi C.K) (tCons tv (tCons (tC (.ty n)) tNil))) G s P := fun h σ H z Q k =>
  e h σ H z _ fun x s1 v H1 ⟨d, b, e1, hb, p1⟩ k1 i1 r1 => by
    subst e1
    exact ⟨v, .ty n, _, _, b, rfl, .ty n, dx_ty (Dx.mono hid_le r1), kit_ty hb, k _ s1 _ H1 p1 k1 i1 (Dx.bl _)⟩
theorem ev_isi2 {n n' : String} {tv : TE} (e : EvE C tv G s fun x s1 => ∃ d b, x = .d d ∧ PySem.W.kitAny C.K (.type (tyD d)) [.type n, .type n'] = some b ∧ P (.d (.bool b)) s1) :
    EvE C (tCB (rIsiT C.K) (tCons tv (tCons (tTup (tCons (tC (.ty n)) (tCons (tC (.ty n')) tNil))) tNil))) G s P := fun h σ H z Q k =>
  e h σ H z _ fun x s1 v H1 ⟨d, b, e1, hb, p1⟩ k1 i1 r1 => by
    subst e1
    refine ⟨by show 2 ≤ sizeLine; decide, fun p hp => ?_⟩
    have zz := (z.go k1 i1).z
    exact ⟨v, p, _, _, _, b, rfl, upd_same, .cons (.ty n) (.cons (.ty n') .nil), dx_ty (Dx.mono (hid_le.trans (same_new hp)) r1), hb,
      k _ s1 _ _ p1 (k1.trans (Kp.same (same_new hp))) (zz.same (same_new hp)) (Dx.bl _)⟩
end

/-! ### targets, iterators, comprehensions -/
section
variable {T : Type} {C : Cc T} {G : Gm} {s : T} {P : A → T → Prop} {ta tb tc te : TE} {tx : TA} {t u : TT}
/-- a target: ts the slots that it stores -/
def EvG (C : Cc T) (g : TG) (ts : List Nat) (x : A) (G : Gm) (s : T) (P : Gm → Prop) : Prop :=
  ∀ (h : Hm) (σ : St) (H : Hp) (v : V), Ok C h σ H G s → Rv C.K h H v x → ∀ Q : St → Hp → Prop, (∀ G2 σ2, P G2 → Sl C.K h H σ2 G2 → (∀ vs, (∀ j ∈ ts, j ∈ vs) → wipe σ2 vs = wipe σ vs) → Q σ2 H) → g v σ H Q
theorem eg_name {i : Nat} {x : A} {Pg : Gm → Prop} (p : Pg (G.set i (some x))) : EvG C (gName i) [i] x G s Pg := fun h σ H v z r Q k =>
  k _ _ p (z.sl.set i r) fun vs hv => wipe_set (hv i (by simp))
theorem eg_pair {i j : Nat} {d e : PyData} {Pg : Gm → Prop} (p : Pg ((G.set i (some (.d d))).set j (some (.d e)))) : EvG C (gTup C.K 2 (gCons (gName i) (gCons (gName j) gNil))) [i, j] (.d (.tuple [d, e])) G s Pg := fun h σ H v z r Q k => by
  cases r with
  | tup q rr =>
    cases rr with
    | cons r1 rr =>
      cases rr with
      | cons r2 rr =>
        cases rr
        refine ⟨_, _, rfl, sqT_mono hid_le q, rfl, _, _, rfl, _, _, rfl, rfl, k _ _ p ((z.sl.set (x := .d d) i r1).set (x := .d e) j r2) fun vs hv => ?_⟩
        rw [wipe_set (hv j (by simp)), wipe_set (hv i (by simp))]
/-- J walks the abstract items xs, whatever becomes of the heap while the data stand -/
structure Wk (K : PySem.W.Frag) (h : Hm) (H0 : Hp) (J : It) (xs : List A) : Prop where
  go : ∀ (h' : Hm) i H, Same (hid h H0) (hid h' H) → i < xs.length → J.go i H
  yld : ∀ (h' : Hm) i H v H', Same (hid h H0) (hid h' H) → J.yld i H v H' → i < xs.length → ∃ x, xs[i]? = some x ∧ Same H H' ∧ (Good h' H → Rv K h' H' v x)
  stop : ∀ (h' : Hm) i H, Same (hid h H0) (hid h' H) → xs.length ≤ i → J.stop i H
def EvI (C : Cc T) (wi : TI) (G : Gm) (s : T) (P : List A → T → Prop) : Prop :=
  ∀ (h : Hm) (σ : St) (H : Hp), Ok C h σ H G s → ∀ R : It → Hp → Prop, (∀ xs s' J H', P xs s' → Kp C.m H H' → C.I h s' H' → Wk C.K h H' J xs → R J H') → wi σ H R
theorem ei_list {Pi : List A → T → Prop} (e : EvE C te G s fun x s1 => ∃ ds, x = .d (.list ds) ∧ Pi (ds.map A.d) s1) : EvI C (iAny C.K te) G s Pi := fun h σ H z R k =>
  .inl (e h σ H z _ fun x s1 v H1 ⟨ds, e1, p1⟩ k1 i1 r1 => by
    subst e1
    cases r1 with
    | @lst a xs _ q rr =>
      refine ⟨a, rfl, ⟨_, SqL.of (hid_le _ _ q)⟩, k _ s1 _ H1 p1 k1 i1 ⟨fun hh i H2 e2 hi => ?_, fun hh i H2 v H3 e2 y hi => ?_, fun hh i H2 e2 hi => ?_⟩⟩
      · rw [List.length_map, ← rr.length] at hi
        exact ⟨_, xs[i], SqL.of (hid_le _ _ (e2 _ _ q)), by simp [hi]⟩
      · obtain ⟨e3, y⟩ := y
        subst e3
        have g := y _ (SqL.of (hid_le _ _ (e2 _ _ q)))
        obtain ⟨d, e4, r4⟩ := rr.get g
        exact ⟨.d d, by rw [List.getElem?_map, e4]; rfl, Same.refl _, fun _ => r4.mono e2⟩
      · rw [List.length_map, ← rr.length] at hi
        exact ⟨_, SqL.of (hid_le _ _ (e2 _ _ q)), hi⟩)
theorem ei_tup {Pi : List A → T → Prop} (e : EvE C te G s fun x s1 => ∃ ds, x = .d (.tuple ds) ∧ Pi (ds.map A.d) s1) : EvI C (iAny C.K te) G s Pi := fun h σ H z R k =>
  .inr (.inl (e h σ H z _ fun x s1 v H1 ⟨ds, e1, p1⟩ k1 i1 r1 => by
    subst e1
    cases r1 with
    | @tup a xs _ q rr =>
      refine ⟨a, rfl, ⟨_, sqT_mono hid_le q⟩, k _ s1 _ H1 p1 k1 i1 ⟨fun hh i H2 e2 hi => ?_, fun hh i H2 v H3 e2 y hi => ?_, fun hh i H2 e2 hi => ?_⟩⟩
      · rw [List.length_map, ← rr.length] at hi
        exact ⟨_, xs[i], sqT_mono (e2.trans hid_le) q, by simp [hi]⟩
      · obtain ⟨e3, y⟩ := y
        subst e3
        have g := y _ (sqT_mono (e2.trans hid_le) q)
        obtain ⟨d, e4, r4⟩ := rr.get g
        exact ⟨.d d, by rw [List.getElem?_map, e4]; rfl, Same.refl _, fun _ => r4.mono e2⟩
      · rw [List.length_map, ← rr.length] at hi
        exact ⟨_, sqT_mono (e2.trans hid_le) q, hi⟩))
/-- the signs of a text -/
def signs (w : Str) : List PyData := w.cps.toList.map fun c => .str ⟨#[c]⟩
theorem ei_str {Pi : List A → T → Prop} (e : EvE C te G s fun x s1 => ∃ w, x = .d (.str w) ∧ Pi ((signs w).map A.d) s1) : EvI C (iAny C.K te) G s Pi := fun h σ H z R k =>
  .inr (.inr (e h σ H z _ fun x s1 v H1 ⟨w, e1, p1⟩ k1 i1 r1 => by
    subst e1
    cases r1
    have hlen : ((signs w).map A.d).length = w.cps.size := by simp [signs]
    refine ⟨w, rfl, k _ s1 _ H1 p1 k1 i1 ⟨fun hh i H2 e2 hi => ?_, fun hh i H2 v H3 e2 y hi => ?_, fun hh i H2 e2 hi => ?_⟩⟩
    · rw [hlen] at hi; exact hi
    · obtain ⟨e3, c, e4, e5⟩ := y
      subst e3; subst e5
      refine ⟨.d (.str ⟨#[c]⟩), ?_, Same.refl _, fun _ => Dx.str _⟩
      rw [List.getElem?_map, signs, List.getElem?_map]
      simp [e4]
    · rw [hlen] at hi; exact hi))
theorem ei_rng {Pi : List A → T → Prop} (e : EvA C tx G s fun xs s1 => ∃ n : Nat, xs = [.d (.int n)] ∧ n ≤ 100000 ∧ Pi ((List.range n).map fun (i : Nat) => .d (.int ((i : Nat) : Int))) s1) : EvI C (iRng1 tx) G s Pi := fun h σ H z R k =>
  e h σ H z _ fun x s1 vs H1 ⟨n, e1, hn, p1⟩ k1 i1 r1 => by
    subst e1
    cases r1 with
    | cons r t =>
      cases t; cases r
      refine ⟨n, rfl, by omega, by omega, k _ s1 _ H1 p1 k1 i1 ⟨fun hh i H2 e2 hi => ?_, fun hh i H2 v H3 e2 y hi => ?_, fun hh i H2 e2 hi => ?_⟩⟩
      · show i < n
        simpa using hi
      · obtain ⟨e3, e4⟩ := y
        subst e3; subst e4
        have hi' : i < n := by simpa using hi
        refine ⟨.d (.int (i : Int)), ?_, Same.refl _, fun _ => ?_⟩
        · rw [List.getElem?_map, List.getElem?_range hi']; rfl
        · have : (0 : Int) + (i : Int) = (i : Int) := by omega
          rw [this]
          exact Dx.int _
      · show n ≤ i
        simpa using hi
/-- the pairs of two lists of data -/
def pairsD : List PyData → List PyData → List PyData
  | d :: ds, e :: es => .tuple [d, e] :: pairsD ds es
  | _, _ => []
theorem pairsD_get : ∀ {ds es : List PyData} {i : Nat} {d e : PyData}, ds[i]? = some d → es[i]? = some e → (pairsD ds es)[i]? = some (.tuple [d, e])
  | d :: ds, e :: es, 0, _, _, h1, h2 => by
    simp at h1 h2
    subst h1; subst h2
    rfl
  | d :: ds, e :: es, i + 1, _, _, h1, h2 => by
    simp only [List.getElem?_cons_succ] at h1 h2
    exact pairsD_get (ds := ds) (es := es) h1 h2
  | [], _, _, _, _, h1, _ => by simp at h1
  | _ :: _, [], _, _, _, _, h2 => by simp at h2
theorem pairsD_length : ∀ {ds es : List PyData}, (pairsD ds es).length = min ds.length es.length
  | [], es => by simp [pairsD]
  | d :: ds, [] => by simp [pairsD]
  | d :: ds, e :: es => by
    show (pairsD ds es).length + 1 = min (ds.length + 1) (es.length + 1)
    rw [pairsD_length]; omega
theorem ei_zipT {Pi : List A → T → Prop} (e : EvA C tx G s fun xs s1 => ∃ ds es, xs = [.d (.tuple ds), .d (.tuple es)] ∧ Pi ((pairsD ds es).map A.d) s1) : EvI C (iZipA C.K tx) G s Pi := fun h σ H z R k =>
  e h σ H z _ fun x s1 vs H1 ⟨ds, es, e1, p1⟩ k1 i1 r1 => by
    subst e1
    cases r1 with
    | cons r t =>
      cases t with
      | cons r2 t =>
        cases t
        cases r with
        | @tup a xs _ qa ra =>
          cases r2 with
          | @tup b ys _ qb rb =>
            have hlen : ((pairsD ds es).map A.d).length = min xs.length ys.length := by rw [List.length_map, pairsD_length, ra.length, rb.length]
            refine ⟨a, b, _, _, rfl, .inr ⟨sqT_mono hid_le qa, sqT_mono hid_le qb, k _ s1 _ H1 p1 k1 i1 ⟨fun hh i H2 e2 hi => ?_, fun hh i H2 v H3 e2 y hi => ?_, fun hh i H2 e2 hi => ?_⟩⟩⟩
            · rw [hlen] at hi
              exact ⟨xs, ys, xs[i]'(by omega), ys[i]'(by omega), sqT_mono (e2.trans hid_le) qa, sqT_mono (e2.trans hid_le) qb, by simp, by simp⟩
            · obtain ⟨Tp, x, y', rfl, hT, rfl, g1, g2⟩ := y
              have g1 := g1 _ (sqT_mono (e2.trans hid_le) qa)
              have g2 := g2 _ (sqT_mono (e2.trans hid_le) qb)
              obtain ⟨d, e3, r3⟩ := ra.get g1
              obtain ⟨d', e4, r4⟩ := rb.get g2
              refine ⟨.d (.tuple [d, d']), by rw [List.getElem?_map, pairsD_get e3 e4]; rfl, same_new hT, fun gd => ?_⟩
              have hTf : hh Tp = false := by
                cases q : hh Tp with
                | false => rfl
                | true => exact absurd hT (gd Tp q)
              exact Dx.tup (SqT.of (hid_of hTf upd_same)) ((DxAll.cons r3 (.cons r4 .nil)).mono (e2.trans (hid_new hT)))
            · rw [hlen] at hi
              exact ⟨xs, ys, sqT_mono (e2.trans hid_le) qa, sqT_mono (e2.trans hid_le) qb, by omega⟩
theorem ei_zipL {Pi : List A → T → Prop} (e : EvA C tx G s fun xs s1 => ∃ ds es, xs = [.d (.list ds), .d (.list es)] ∧ Pi ((pairsD ds es).map A.d) s1) : EvI C (iZipA C.K tx) G s Pi := fun h σ H z R k =>
  e h σ H z _ fun x s1 vs H1 ⟨ds, es, e1, p1⟩ k1 i1 r1 => by
    subst e1
    cases r1 with
    | cons r t =>
      cases t with
      | cons r2 t =>
        cases t
        cases r with
        | @lst a xs _ qa ra =>
          cases r2 with
          | @lst b ys _ qb rb =>
            have hlen : ((pairsD ds es).map A.d).length = min xs.length ys.length := by rw [List.length_map, pairsD_length, ra.length, rb.length]
            have sa : ∀ {hh : Hm} {H2 : Hp}, Same (hid h H1) (hid hh H2) → SqL C.K H2 a xs := fun e2 => SqL.of (hid_le _ _ (e2 _ _ qa))
            have sb : ∀ {hh : Hm} {H2 : Hp}, Same (hid h H1) (hid hh H2) → SqL C.K H2 b ys := fun e2 => SqL.of (hid_le _ _ (e2 _ _ qb))
            refine ⟨a, b, _, _, rfl, .inl ⟨sa (Same.refl _), sb (Same.refl _), k _ s1 _ H1 p1 k1 i1 ⟨fun hh i H2 e2 hi => ?_, fun hh i H2 v H3 e2 y hi => ?_, fun hh i H2 e2 hi => ?_⟩⟩⟩
            · rw [hlen] at hi
              exact ⟨xs, ys, xs[i]'(by omega), ys[i]'(by omega), sa e2, sb e2, by simp, by simp⟩
            · obtain ⟨Tp, x, y', rfl, hT, rfl, g1, g2⟩ := y
              have g1 := g1 _ (sa e2)
              have g2 := g2 _ (sb e2)
              obtain ⟨d, e3, r3⟩ := ra.get g1
              obtain ⟨d', e4, r4⟩ := rb.get g2
              refine ⟨.d (.tuple [d, d']), by rw [List.getElem?_map, pairsD_get e3 e4]; rfl, same_new hT, fun gd => ?_⟩
              have hTf : hh Tp = false := by
                cases q : hh Tp with
                | false => rfl
                | true => exact absurd hT (gd Tp q)
              exact Dx.tup (SqT.of (hid_of hTf upd_same)) ((DxAll.cons r3 (.cons r4 .nil)).mono (e2.trans (hid_new hT)))
            · rw [hlen] at hi
              exact ⟨xs, ys, sa e2, sb e2, by omega⟩
/-- a comprehension: J says what holds of the list so far and of the state -/
theorem ev_lc {wi : TI} {g : TG} {ts vs : List Nat} (hts : ∀ j ∈ ts, j ∈ vs)
    (e : EvI C wi G s fun xs s1 => xs.length ≤ 100000 ∧ ∃ J : Nat → List PyData → T → Prop, J 0 [] s1 ∧
      (∀ i x ds s', xs[i]? = some x → J i ds s' → EvG C g ts x (wipeG G vs) s' fun G2 => EvT C t G2 s' fun b s3 => if b = true then EvE C te G2 s3 fun y s4 => ∃ d, y = .d d ∧ J (i + 1) (ds ++ [d]) s4 else J (i + 1) ds s3) ∧
      ∀ ds s', J xs.length ds s' → P (.d (.list ds)) s') : EvE C (tLc wi g t te vs) G s P := fun h σ H z Q k =>
  e h σ H z _ fun xs s1 It H1 ⟨hlen, J, j0, turn, done⟩ k1 i1 wk => by
    intro D hD
    have z1 : Ok C h σ H1 G s1 := z.go k1 i1
    have hDf : h D = false := z1.z.fresh hD
    refine ⟨fun i m H2 => m = xs.length - i ∧ i ≤ xs.length ∧ ∃ (ds : List PyData) (s' : T) (acc : List V), J i ds s' ∧ ds.length ≤ i ∧ H2 D = some (.lst acc) ∧ DxAll C.K (hid (plus h D) H2) acc ds ∧ Kp C.m H1 H2 ∧ C.I (plus h D) s' H2 ∧ Same (hid h H1) (hid (plus h D) H2), ⟨xs.length, by simp, Nat.zero_le _, [], s1, [], j0, Nat.le_refl _, upd_same, .nil, Kp.same (same_new hD), ?_, hid_plus hD⟩, ?_⟩
    · exact C.mono i1 (hid_plus hD) fun b q => by
        have hb : b ≠ D := fun e => by
          rw [e] at q
          exact C.good i1 q hD
        rw [upd_ne hb]
    rintro i m H2 ⟨rfl, hi, ds, s', acc, hJ, hdl, hacc, hdx, hk, hI, hsame⟩
    have sub' : ∀ b, C.m b = true → (plus h D) b = true := fun b q => plus_sub (z.z.sub b q)
    have good' : Good (plus h D) H2 := fun b q => by
      by_cases nb : b = D
      · subst nb
        rw [hacc]; exact fun z => nomatch z
      · rw [plus_ne nb] at q
        exact hk.2 b (z1.z.good b q)
    have hDm : C.m D = false := by
      cases q : C.m D with
      | false => rfl
      | true => exact absurd hD (C.good i1 q)
    by_cases hlt : i < xs.length
    · refine .inr ⟨wk.go (plus h D) i H2 hsame hlt, fun H3 => i < xs.length ∧ ∃ (ds : List PyData) (s' : T) (acc : List V), J (i + 1) ds s' ∧ ds.length ≤ i + 1 ∧ H3 D = some (.lst acc) ∧ DxAll C.K (hid (plus h D) H3) acc ds ∧ Kp C.m H1 H3 ∧ C.I (plus h D) s' H3 ∧ Same (hid h H1) (hid (plus h D) H3), ?_, ?_⟩
      · rintro H3 ⟨_, q⟩
        exact ⟨xs.length - (i + 1), by omega, rfl, by omega, q⟩
      · intro v H3 y
        obtain ⟨x, ex, sm, rvx⟩ := wk.yld (plus h D) i H2 v H3 hsame y hlt
        have sm' : Same (hid (plus h D) H2) (hid (plus h D) H3) := hid_mono fun b o n q => ⟨n, sm b o q⟩
        have z3 : O0 C (plus h D) H3 s' := ⟨sub', good'.kp (Kp.same (m := C.m) sm), (O0.same ⟨sub', good', hI⟩ sm)⟩
        refine turn i x ds s' ex hJ (plus h D) (wipe σ vs) H3 v ⟨z3, (z1.sl.wipe vs).mono (hsame.trans sm')⟩ (rvx good') _ fun G2 σ2 pT sl2 hw => ⟨?_, ?_⟩
        · rw [hw vs hts, wipe_wipe]
        · refine pT (plus h D) σ2 H3 ⟨z3, sl2⟩ _ fun b s3 H4 p4 k4 i4 => ?_
          have z4 : Ok C (plus h D) σ2 H4 G2 s3 := Ok.go ⟨z3, sl2⟩ k4 i4
          have hacc4 : H4 D = some (.lst acc) := k4.1 D _ hDm (sm D _ hacc)
          have e4 : Same (hid (plus h D) H2) (hid (plus h D) H4) := sm'.trans (k4.sub sub')
          cases b with
          | false =>
            rw [if_neg Bool.false_ne_true] at p4 ⊢
            exact ⟨hlt, ds, s3, acc, p4, by omega, hacc4, hdx.mono e4, (hk.trans (Kp.same sm)).trans k4, i4, hsame.trans e4⟩
          | true =>
            rw [if_pos rfl] at p4 ⊢
            refine p4 (plus h D) σ2 H4 z4 _ fun y s4 w H5 ⟨d, ey, p5⟩ k5 i5 r5 => ?_
            subst ey
            have hacc5 : H5 D = some (.lst acc) := k5.1 D _ hDm hacc4
            have e5 : Same (hid (plus h D) H2) (hid (plus h D) H5) := e4.trans (k5.sub sub')
            have eD : Same (hid (plus h D) H5) (hid (plus h D) (upd H5 D (.lst (acc ++ [w])))) := hid_mono fun b o n q => by
              refine ⟨n, ?_⟩
              have nb : b ≠ D := fun e => by
                rw [e, plus_self] at n
                cases n
              rw [upd_ne nb]
              exact q
            refine ⟨acc, hacc5, ?_, hlt, ds ++ [d], s4, acc ++ [w], p5, by simp; omega, upd_same, ((hdx.mono e5).append (DxAll.one r5)).mono eD, ?_, ?_, (hsame.trans e5).trans eD⟩
            · rw [hdx.length]
              exact Nat.lt_of_le_of_lt (Nat.le_trans hdl (Nat.le_trans hi hlen)) (by decide)
            · have kk := ((hk.trans (Kp.same sm)).trans k4).trans k5
              refine ⟨fun b o n q => ?_, fun b q => ?_⟩
              · rw [upd_ne (ne_of_none q hD)]
                exact kk.1 b o n q
              · by_cases nb : b = D
                · subst nb; exact absurd hD q
                · rw [upd_ne nb]; exact kk.2 b q
            · refine C.mono i5 eD fun b q => ?_
              have nb : b ≠ D := fun e => by rw [e, hDm] at q; cases q
              rw [upd_ne nb]
    · have e : i = xs.length := by omega
      subst e
      refine .inl ⟨wk.stop (plus h D) _ H2 hsame (Nat.le_refl _), ?_⟩
      refine k _ s' _ H2 (done ds s' hJ) (k1.trans hk) (C.mono hI hid_minus fun _ _ => rfl) ?_
      exact Dx.lst (hid_of hDf hacc) (hdx.mono hid_minus)
end
end Cl

end
section
set_option Elab.async false
set_option linter.all false
set_option maxRecDepth 100000
set_option maxHeartbeats 2000000
namespace Cl
open PySem L2 RZ
/-! ### statements -/
structure Ed (T : Type) where
  nx : Gm → T → Prop
  rt : A → T → Prop
  bk : Gm → T → Prop := fun _ _ => False
  ct : Gm → T → Prop := fun _ _ => False
structure Wn {T : Type} (C : Cc T) (h : Hm) (H : Hp) (E : Ed T) (D : Ends) : Prop where
  nx : ∀ G' s' σ' H', E.nx G' s' → Kp C.m H H' → Ok C h σ' H' G' s' → D.nx σ' H'
  rt : ∀ x s' v H', E.rt x s' → Kp C.m H H' → C.I h s' H' → Rv C.K (orM h C.rh) H' v x → D.rt v H'
  bk : ∀ G' s' σ' H', E.bk G' s' → Kp C.m H H' → Ok C h σ' H' G' s' → D.bk σ' H'
  ct : ∀ G' s' σ' H', E.ct G' s' → Kp C.m H H' → Ok C h σ' H' G' s' → D.ct σ' H'
def SM {T : Type} (C : Cc T) (t : TS) (G : Gm) (s : T) (E : Ed T) : Prop := ∀ (h : Hm) (σ : St) (H : Hp), Ok C h σ H G s → ∀ D : Ends, Wn C h H E D → t D σ H
section
variable {T : Type} {C : Cc T} {G : Gm} {s : T} {E : Ed T} {te : TE} {tt : TT} {t u : TS}
theorem Wn.after {h : Hm} {H H1 : Hp} {D : Ends} (w : Wn C h H E D) (k : Kp C.m H H1) : Wn C h H1 E D :=
  ⟨fun G' s' σ' H' e k' z => w.nx G' s' σ' H' e (k.trans k') z, fun x s' v H' e k' i r => w.rt x s' v H' e (k.trans k') i r, fun G' s' σ' H' e k' z => w.bk G' s' σ' H' e (k.trans k') z, fun G' s' σ' H' e k' z => w.ct G' s' σ' H' e (k.trans k') z⟩
theorem sm_next (e : E.nx G s) : SM C tNext G s E := fun h σ H z D w => w.nx G s σ H e Kp.refl z
theorem sm_seq (e : SM C t G s { E with nx := fun G' s' => SM C u G' s' E }) : SM C (tSeq t u) G s E := fun h σ H z D w =>
  e h σ H z _ ⟨fun G' s' σ' H' q k z' => q h σ' H' z' D (w.after k), w.rt, w.bk, w.ct⟩
theorem sm_asg {i : Nat} (e : EvE C te G s fun x s' => E.nx (G.set i (some x)) s') : SM C (tAsg te (gName i)) G s E := fun h σ H z D w =>
  e h σ H z _ fun x s1 v H1 p1 k1 i1 r1 => w.nx _ s1 _ H1 p1 k1 ⟨(z.go k1 i1).z, ((z.go k1 i1).sl).set i r1⟩
/-- any target that stores names -/
theorem sm_asgG {g : TG} {ts : List Nat} (e : EvE C te G s fun x s' => EvG C g ts x G s' fun G2 => E.nx G2 s') : SM C (tAsg te g) G s E := fun h σ H z D w =>
  e h σ H z _ fun x s1 v H1 p1 k1 i1 r1 => p1 h σ H1 v (z.go k1 i1) r1 _ fun G2 σ2 p2 sl2 _ => w.nx G2 s1 σ2 H1 p2 k1 ⟨(z.go k1 i1).z, sl2⟩
theorem sm_par {i j : Nat} {ta : TA} (e : EvA C ta G s fun xs s' => ∃ x y, xs = [x, y] ∧ E.nx ((G.set i (some x)).set j (some y)) s') : SM C (tPar i j ta) G s E := fun h σ H z D w =>
  e h σ H z _ fun xs s1 vs H1 ⟨x, y, e1, p1⟩ k1 i1 r1 => by
    subst e1
    cases r1 with
    | cons r1 t1 =>
      cases t1 with
      | cons r2 t2 =>
        cases t2
        exact ⟨_, _, rfl, w.nx _ s1 _ H1 p1 k1 ⟨(z.go k1 i1).z, (((z.go k1 i1).sl).set i r1).set j r2⟩⟩
theorem sm_if (e : EvT C tt G s fun b s' => if b = true then SM C t G s' E else SM C u G s' E) : SM C (tIfS tt t u) G s E := fun h σ H z D w =>
  e h σ H z _ fun b s1 H1 p1 k1 i1 => by
    cases b with
    | true =>
      rw [if_pos rfl] at p1 ⊢
      exact p1 h σ H1 (z.go k1 i1) D (w.after k1)
    | false =>
      rw [if_neg Bool.false_ne_true] at p1 ⊢
      exact p1 h σ H1 (z.go k1 i1) D (w.after k1)
theorem sm_ret (e : EvE C te G s E.rt) (hr : C.rh = (fun _ => false) := by rfl) : SM C (tRet te) G s E := fun h σ H z D w => e h σ H z _ fun x s1 v H1 p1 k1 i1 r1 => w.rt x s1 v H1 p1 k1 i1 (r1.non hr)
theorem sm_retN (e : E.rt (.d .none) s) : SM C tRetN G s E := fun h σ H z D w => w.rt _ s _ H e Kp.refl z.z.inv Dx.non
theorem sm_drop (e : EvE C te G s fun _ s' => E.nx G s') : SM C (tDrop te) G s E := fun h σ H z D w => e h σ H z _ fun x s1 v H1 p1 k1 i1 r1 => w.nx G s1 σ H1 p1 k1 (z.go k1 i1)
theorem sm_brk (e : E.bk G s) : SM C tBreak G s E := fun h σ H z D w => w.bk G s σ H e Kp.refl z
theorem sm_cont (e : E.ct G s) : SM C tCont G s E := fun h σ H z D w => w.ct G s σ H e Kp.refl z
theorem SM.imp {E' : Ed T} (h : SM C t G s E') (n : ∀ G s, E'.nx G s → E.nx G s) (r : ∀ x s, E'.rt x s → E.rt x s) (b : ∀ G s, E'.bk G s → E.bk G s) (c : ∀ G s, E'.ct G s → E.ct G s) : SM C t G s E := fun hh σ H z D w =>
  h hh σ H z D ⟨fun G' s' σ' H' e => w.nx G' s' σ' H' (n _ _ e), fun x s' v H' e => w.rt x s' v H' (r _ _ e), fun G' s' σ' H' e => w.bk G' s' σ' H' (b _ _ e), fun G' s' σ' H' e => w.ct G' s' σ' H' (c _ _ e)⟩
/-- a for loop: J says what holds between two turns -/
theorem sm_for {wi : TI} {g : TG} {ts : List Nat} (e : EvI C wi G s fun xs s1 => ∃ J : Nat → Gm → T → Prop, J 0 G s1 ∧
      (∀ i x G' s', xs[i]? = some x → J i G' s' → EvG C g ts x G' s' fun G2 => SM C t G2 s' { E with nx := J (i + 1), ct := J (i + 1), bk := E.nx }) ∧
      ∀ G' s', J xs.length G' s' → E.nx G' s') : SM C (tFor wi g t) G s E := fun h σ H z D w =>
  e h σ H z _ fun xs s1 It H1 ⟨J, j0, turn, done⟩ k1 i1 wk => by
    have z1 : Ok C h σ H1 G s1 := z.go k1 i1
    refine ⟨fun i m σ2 H2 => m = xs.length - i ∧ i ≤ xs.length ∧ ∃ G' s', J i G' s' ∧ Kp C.m H1 H2 ∧ Ok C h σ2 H2 G' s', ⟨xs.length, by simp, Nat.zero_le _, G, s1, j0, Kp.refl, z1⟩, ?_⟩
    rintro i m σ2 H2 ⟨rfl, hi, G', s', hJ, hk, ok⟩
    have hs := hk.sub z.z.sub
    by_cases hlt : i < xs.length
    · refine .inr ⟨wk.go h i H2 hs hlt, fun σ3 H3 => ∃ G' s', J (i + 1) G' s' ∧ Kp C.m H1 H3 ∧ Ok C h σ3 H3 G' s', ?_, ?_⟩
      · rintro σ3 H3 q
        exact ⟨xs.length - (i + 1), by omega, rfl, by omega, q⟩
      · intro v H3 y
        obtain ⟨x, ex, sm, rvx⟩ := wk.yld h i H2 v H3 hs y hlt
        have ok3 : Ok C h σ2 H3 G' s' := ok.go (Kp.same sm) (ok.z.same sm)
        refine turn i x G' s' ex hJ h σ2 H3 v ok3 (rvx ok.z.good) _ fun G2 σ3 pT sl3 _ => ?_
        have k3 : Kp C.m H1 H3 := hk.trans (Kp.same sm)
        refine pT h σ3 H3 ⟨ok3.z, sl3⟩ _ ⟨fun G4 s4 σ4 H4 q k z' => ⟨G4, s4, q, k3.trans k, z'⟩, fun x s4 v H4 q k i4 r => w.rt x s4 v H4 q ((k1.trans k3).trans k) i4 r,
          fun G4 s4 σ4 H4 q k z' => w.nx G4 s4 σ4 H4 q ((k1.trans k3).trans k) z', fun G4 s4 σ4 H4 q k z' => ⟨G4, s4, q, k3.trans k, z'⟩⟩
    · have e : i = xs.length := by omega
      subst e
      exact .inl ⟨wk.stop h _ H2 hs (Nat.le_refl _), w.nx G' s' σ2 H2 (done G' s' hJ) (k1.trans hk) ok⟩
end

/-! ### a def without effects: a partial function of data -/
abbrev frzC (K : PySem.W.Frag) (m : Hm) (H0 : Hp) : Cc Unit where
  K := K
  m := m
  I := fun _ _ H => Good m H0 ∧ ∀ b, m b = true → H b = H0 b
  good := fun i q => by rw [i.2 _ q]; exact i.1 _ q
  mono := fun i _ e => ⟨i.1, fun b q => (e b q).trans (i.2 b q)⟩
def spP (K : PySem.W.Frag) (R : List PyData → PyData → Prop) : Sp := fun vs H Q _ => ∃ (m : Hm) (ds : List PyData) (d : PyData), Good m H ∧ DxAll K (hid m H) vs ds ∧ R ds d ∧ ∀ r H', Same H H' → Dx K (hid m H') r d → Q r H'
/-- the slots at a def's entry -/
def startG (n : Nat) (xs : List A) : Gm := xs.map some ++ List.replicate (n - xs.length) none
theorem sl_start {K : PySem.W.Frag} {h : Hm} {H : Hp} {N : List Str} : ∀ {vs : List V} {xs : List A}, Rvs K h H vs xs → Sl K h H (start N vs) (startG N.length xs) := fun {vs xs} r => by
  have hl : ∀ {vs : List V} {xs : List A}, Rvs K h H vs xs → vs.length = xs.length := fun {vs xs} r => by
    induction r with
    | nil => rfl
    | cons _ _ ih => simp [ih]
  have hg : ∀ {vs : List V} {xs : List A} {i : Nat} {x : A}, Rvs K h H vs xs → xs[i]? = some x → ∃ v, vs[i]? = some v ∧ Rv K h H v x := fun {vs xs i x} r => by
    induction r generalizing i with
    | nil => intro e; simp at e
    | cons a _ ih =>
      intro e
      cases i with
      | zero => simp at e; subst e; exact ⟨_, rfl, a⟩
      | succ i => simp only [List.getElem?_cons_succ] at e ⊢; exact ih e
  have hlen := hl r
  refine ⟨by simp [L2.start, startG, hlen], fun i x q => ?_⟩
  unfold startG at q
  by_cases hi : i < xs.length
  · rw [List.getElem?_append_left (by simpa using hi), List.getElem?_map] at q
    cases e : xs[i]? with
    | none => rw [e] at q; cases q
    | some y =>
      rw [e] at q
      cases q
      obtain ⟨v, e1, e2⟩ := hg r e
      refine ⟨v, ?_, e2⟩
      unfold L2.start
      rw [List.getElem?_append_left (by simp [hlen]; exact hi), List.getElem?_map, e1]
      rfl
  · rw [List.getElem?_append_right (by simpa using hi)] at q
    rw [List.getElem?_replicate] at q
    split at q <;> cases q
theorem rvs_of {K : PySem.W.Frag} {h : Hm} {H : Hp} : ∀ {vs : List V} {ds : List PyData}, DxAll K (hid h H) vs ds → Rvs K h H vs (ds.map A.d)
  | _, _, .nil => .nil
  | _, _, .cons x y => .cons x (rvs_of y)
theorem pure_body {K : PySem.W.Frag} {R : List PyData → PyData → Prop} {N : List Str} {t : TS} {vs : List V} {H : Hp} {Q : VK} {E : XK} (hsp : spP K R vs H Q E)
    (hb : ∀ (m : Hm) (ds : List PyData) (d : PyData), ds.length = vs.length → R ds d → SM (frzC K m H) t (startG N.length (ds.map A.d)) () ⟨fun _ _ => d = .none, fun x _ => x = .d d, fun _ _ => False, fun _ _ => False⟩) :
    t { nx := fun _ H' => Q .non H', rt := Q } (start N vs) H := by
  obtain ⟨m, ds, d, g, hd, hf, q⟩ := hsp
  have sm : ∀ {H' : Hp}, Kp m H H' → (∀ b, m b = true → H' b = H b) → Same H H' := fun {H'} k e b o r => by
    cases hm : m b with
    | true => rw [e b hm]; exact r
    | false => exact k.1 b o hm r
  refine hb m ds d hd.length.symm hf m (start N vs) H ⟨⟨fun _ z => z, g, ⟨g, fun _ _ => rfl⟩⟩, sl_start (rvs_of hd)⟩ _ ⟨fun G' s' σ' H' e k z => ?_, fun x s' v H' e k i r => ?_, fun _ _ _ _ e => e.elim, fun _ _ _ _ e => e.elim⟩
  · subst e
    exact q _ _ (sm k z.z.inv.2) Dx.non
  · subst e
    exact q _ _ (sm k i.2) (Rv.un (x := .d d) r)
theorem spP_len {K : PySem.W.Frag} {R : List PyData → PyData → Prop} {n : Nat} (hf : ∀ ds d, R ds d → ds.length = n) : ∀ vs H Q E, spP K R vs H Q E → vs.length = n := fun vs H Q E ⟨m, ds, d, g, hd, e, _⟩ => by rw [hd.length]; exact hf ds d e
section
variable {T : Type} {C : Cc T} {s : T} {P : A → T → Prop}
theorem rc_pure {R : List PyData → PyData → Prop} {E : XK} {xs : List A} {ds : List PyData} {d : PyData} (e1 : allD xs = some ds) (e2 : R ds d) (p : P (.d d) s) : RC C (fun vs H Q => spP C.K R (vs ++ []) H Q E) xs s P := fun h H vs z a Q k => by
  show spP C.K R (vs ++ []) H Q E
  rw [List.append_nil]
  exact ⟨h, ds, d, z.good, a.data e1, e2, fun r H' sm hr => k _ s _ H' p (Kp.same sm) (z.same sm) hr⟩
end

/-! ### the source of draws -/
def SrcOk (H : Hp) (a l : Addr) : Prop := ∃ (ns : List Int) (p : Nat) (r x : Int), H a = some (.lst [.ref l, .int p, .int r, .int x]) ∧ H l = some (.lst (ns.map V.int)) ∧ p ≤ ns.length ∧ ns.length ≤ 63 ∧ 0 ≤ r ∧ 0 ≤ x ∧ x < 2147483563
/-- the rest of the hidden things stands still -/
abbrev srcC (K : PySem.W.Frag) (m : Hm) (a l : Addr) (H0 : Hp) : Cc Unit where
  K := K
  m := m
  I := fun _ _ H => Good m H0 ∧ SrcOk H a l ∧ m a = true ∧ m l = true ∧ ∀ b, m b = true → b ≠ a → H b = H0 b
  good := fun {h s H b} i q => by
    by_cases e : b = a
    · subst e
      obtain ⟨_, ⟨_, _, _, _, e, _⟩, _⟩ := i
      rw [e]; exact fun z => nomatch z
    · rw [i.2.2.2.2 b q e]; exact i.1 b q
  mono := fun {h h' s H H'} i _ e => by
    obtain ⟨g, ⟨ns, p, r, x, e1, e2, q⟩, ma, ml, fr⟩ := i
    exact ⟨g, ⟨ns, p, r, x, (e a ma).trans e1, (e l ml).trans e2, q⟩, ma, ml, fun b qb nb => (e b qb).trans (fr b qb nb)⟩
/-- a def whose first argument is the source: R relates the data and the result -/
def spS (K : PySem.W.Frag) (pre : List PyData → Prop) (R : List PyData → PyData → Prop) : Sp := fun vs H Q _ => ∃ (a l : Addr) (ws : List V) (m : Hm) (ds : List PyData),
  vs = .ref a :: ws ∧ m a = true ∧ m l = true ∧ Good m H ∧ SrcOk H a l ∧ DxAll K (hid m H) ws ds ∧ pre ds ∧
  ∀ d r H', R ds d → (∀ b o, b ≠ a → H b = some o → H' b = some o) → SrcOk H' a l → Dx K (hid m H') r d → Q r H'
theorem spS_len {K : PySem.W.Frag} {pre : List PyData → Prop} {R : List PyData → PyData → Prop} {n : Nat} (hf : ∀ ds, pre ds → ds.length = n) : ∀ vs H Q E, spS K pre R vs H Q E → vs.length = n + 1 := by
  rintro vs H Q E ⟨a, l, ws, m, ds, rfl, _, _, _, _, hd, hp, _⟩
  rw [List.length_cons, hd.length, hf ds hp]
/-- a context that holds the source -/
structure HasSrc {T : Type} (C : Cc T) (a l : Addr) : Prop where
  ma : C.m a = true
  ml : C.m l = true
  at_ : ∀ {h : Hm} {s : T} {H : Hp}, C.I h s H → SrcOk H a l
  put : ∀ {h : Hm} {s : T} {H H' : Hp}, C.I h s H → Good h H → (∀ b, C.m b = true → h b = true) → (∀ b o, b ≠ a → H b = some o → H' b = some o) → SrcOk H' a l → C.I h s H'
theorem hasSrc (K : PySem.W.Frag) (m : Hm) (a l : Addr) (H0 : Hp) {h : Hm} {H : Hp} (i : (srcC K m a l H0).I h () H) : HasSrc (srcC K m a l H0) a l where
  ma := i.2.2.1
  ml := i.2.2.2.1
  at_ := fun i => i.2.1
  put := fun {h s H H'} i g sb e so => ⟨i.1, so, i.2.2.1, i.2.2.2.1, fun b qb nb => by
    have e1 := i.2.2.2.2 b qb nb
    cases e2 : H b with
    | none => exact absurd e2 (g b (sb b qb))
    | some o => rw [e b o nb e2, ← e1, e2]⟩
theorem src_body {K : PySem.W.Frag} {pre : List PyData → Prop} {R : List PyData → PyData → Prop} {N : List Str} {t : TS} {vs : List V} {H : Hp} {Q : VK} {E : XK} (hsp : spS K pre R vs H Q E)
    (hb : ∀ (m : Hm) (a l : Addr) (ds : List PyData), HasSrc (srcC K m a l H) a l → ds.length + 1 = vs.length → pre ds → SM (srcC K m a l H) t (startG N.length (.o a :: ds.map A.d)) () ⟨fun _ _ => R ds .none, fun x _ => ∃ d, x = .d d ∧ R ds d, fun _ _ => False, fun _ _ => False⟩) :
    t { nx := fun _ H' => Q .non H', rt := Q } (start N vs) H := by
  obtain ⟨a, l, ws, m, ds, rfl, ma, ml, g, so, hd, hp, q⟩ := hsp
  have sm : ∀ {H' : Hp}, Kp m H H' → (∀ b, m b = true → b ≠ a → H' b = H b) → ∀ b o, b ≠ a → H b = some o → H' b = some o := fun {H'} k e b o nb r => by
    cases hm : m b with
    | true => rw [e b hm nb]; exact r
    | false => exact k.1 b o hm r
  have z0 : O0 (srcC K m a l H) m H () := ⟨fun _ z => z, g, ⟨g, so, ma, ml, fun _ _ _ => rfl⟩⟩
  refine hb m a l ds (hasSrc K m a l H z0.inv) (by rw [List.length_cons, hd.length]) hp m (start N (.ref a :: ws)) H ⟨z0, sl_start (.cons rfl (rvs_of hd))⟩ _ ⟨fun G' s' σ' H' e k z => ?_, fun x s' v H' e k i r => ?_, fun _ _ _ _ e => e.elim, fun _ _ _ _ e => e.elim⟩
  · exact q _ _ _ e (sm k z.z.inv.2.2.2.2) z.z.inv.2.1 Dx.non
  · obtain ⟨d, rfl, hR⟩ := e
    exact q _ _ _ hR (sm k i.2.2.2.2) i.2.1 (Rv.un (x := .d d) r)
section
variable {T : Type} {C : Cc T} {s : T} {P : A → T → Prop}
theorem rc_src {pre : List PyData → Prop} {R : List PyData → PyData → Prop} {E : XK} {a l : Addr} {xs : List A} {ds : List PyData} (hs : HasSrc C a l) (e1 : allD xs = some ds) (e2 : pre ds) (p : ∀ d, R ds d → P (.d d) s) :
    RC C (fun vs H Q => spS C.K pre R (vs ++ []) H Q E) (.o a :: xs) s P := fun h H vs z av Q k => by
  show spS C.K pre R (vs ++ []) H Q E
  rw [List.append_nil]
  cases av with
  | cons r t =>
    cases r
    have hna : ∀ {H' : Hp}, SrcOk H' a l → H' a ≠ none := fun {H'} so => by
      obtain ⟨_, _, _, _, e, _⟩ := so
      rw [e]; exact fun z => nomatch z
    refine ⟨a, l, _, h, ds, rfl, z.sub _ hs.ma, z.sub _ hs.ml, z.good, hs.at_ z.inv, t.data e1, e2, fun d r H' hR e so hr => ?_⟩
    refine k _ s _ H' (p d hR) ⟨fun b o n q => e b o (fun eq => by rw [eq, hs.ma] at n; cases n) q, fun b q => ?_⟩ (hs.put z.inv z.good z.sub e so) hr
    by_cases eb : b = a
    · subst eb; exact hna so
    · cases r : H b with
      | none => exact absurd r q
      | some o => rw [e b o eb r]; exact fun z => nomatch z
end
end Cl

end
section
set_option Elab.async false
set_option linter.all false
set_option maxRecDepth 100000
set_option maxHeartbeats 2000000
/-! TUP1: a tuple times one: the tuple itself -/
namespace L2
open PySem PySem.Spec PyProof.Rows
theorem tuple_mul1 (l : Addr) (items : Array Value) (n : Nat) (dd : Option Addr) (sl : Array (Option Value)) (u : Tok) :
    Meets (Builtin.«tuple.__mul__» ⟨[.ref l, .int 1 u], []⟩) (fun _ R s => s.heap.get? l = some { cls := .type "tuple", dict := dd, data := .seq items n, slots := sl } ∧ R (.ok (.ret (.ref l))) s) :=
  .of_wp fun prog w A R s h => by
    obtain ⟨hp, g, d, tk, os⟩ := s
    obtain ⟨hl, h⟩ := h
    have f1 := AutoSeq1.idx_int
    have c1 : (items.isEmpty || (1 : Int) == 1) = true := by simp
    wp_walk using wpAny_loadPart' hl
    exact ⟨_, rfl, h⟩
def rRep1 (K : PySem.W.Frag) : R2 := fun x y H Q => ∃ l xs, x = .ref l ∧ y = .int 1 ∧ SqT K H l xs ∧ Q (.ref l) H
theorem op_rep1 {X : Cx} : OpR X (binaryOp .Mult) (rRep1 X.K) := by
  intro pins s σ H x y v u Q I rx ry h
  obtain ⟨l, xs, rfl, rfl, hT, q⟩ := h
  cases rx
  obtain ⟨t, rfl⟩ := ry
  obtain ⟨its, r, ⟨⟨cls, dd, data, sl⟩, ho, hc, n, hd⟩, hs⟩ := I.tuple hT
  simp only at hc hd
  subst hc hd
  refine wpAny_binaryOp_repeat_ref (T := "tuple") (U := "int") (by decide) ⟨_, ho, rfl⟩ (fun s' => typeIs_int s' 1 t) noFill_tuple_mul F.fills_int_mul F.slot_int_rmul repeat_tuple F.slot_int_index.lookup
    (call_meets F.slot_int_rmul (typeIs_int s 1 t) F.entry_int_rmul (F.args_int_rmul_2 _ _) (int_rmul_tuple 1 t l its.toArray n dd sl)
      ⟨ho, rfl, ⟨_, ho, rfl⟩, call_meets F.slot_tuple_mul ⟨_, ho, rfl⟩ F.entry_tuple_mul (F.args_tuple_mul_2 _ _) (tuple_mul1 l its.toArray n dd sl t) ⟨ho, ?_⟩⟩)
  exact ⟨.ref l, H, I, rfl, q⟩
end L2

end
section
set_option Elab.async false
set_option linter.all false
set_option maxRecDepth 100000
set_option maxHeartbeats 2000000
namespace Cl
open PySem L2 RZ
/-! ### lists of one's own, while they change -/
abbrev ownC {T : Type} (C : Cc T) (l : Addr) : Cc (T × List PyData) where
  K := C.K
  m := plus C.m l
  I := fun h s H => C.I h s.1 H ∧ ∃ xs, H l = some (.lst xs) ∧ DxAll C.K (hid h H) xs s.2
  good := fun {h s H b} i q => by
    obtain ⟨i, xs, e, _⟩ := i
    by_cases nb : b = l
    · subst nb; rw [e]; exact fun z => nomatch z
    · rw [plus_ne nb] at q; exact C.good i q
  mono := fun {h h' s H H'} i sm e => by
    obtain ⟨i, xs, e1, dx⟩ := i
    exact ⟨C.mono i sm fun b q => e b (plus_sub q), xs, (e l plus_self).trans e1, dx.mono sm⟩
  rh := C.rh
  rgood := fun i q => C.rgood i.1 q
structure HasLst {T : Type} (C : Cc T) (l : Addr) (get : T → List PyData) (set : List PyData → T → T) : Prop where
  ml : C.m l = true
  at_ : ∀ {h : Hm} {s : T} {H : Hp}, C.I h s H → ∃ xs, H l = some (.lst xs) ∧ DxAll C.K (hid h H) xs (get s)
  put : ∀ {h : Hm} {s : T} {H : Hp} {ys : List V} {es : List PyData}, C.I h s H → (∀ b, C.m b = true → h b = true) → DxAll C.K (hid h H) ys es → C.I h (set es s) (upd H l (.lst ys))
theorem hid_at {h : Hm} {H : Hp} {l : Addr} {o : HO} (hl : h l = true) : Same (hid h H) (hid h (upd H l o)) := hid_mono fun b u n q => by
  refine ⟨n, ?_⟩
  rw [upd_ne]
  · exact q
  · intro e; rw [e, hl] at n; cases n
section
variable {T : Type} {C : Cc T} {l l' a b : Addr} {get : T → List PyData} {set : List PyData → T → T}
theorem hasOwn (nm : C.m l = false) : HasLst (ownC C l) l (fun s => s.2) (fun es s => (s.1, es)) where
  ml := plus_self
  at_ := fun i => i.2
  put := fun {h s H ys es} i sb dx => by
    have hl : h l = true := sb l plus_self
    refine ⟨C.mono i.1 (hid_at hl) fun b q => ?_, ys, upd_same, dx.mono (hid_at hl)⟩
    rw [upd_ne]
    intro e; rw [e, nm] at q; cases q
theorem HasLst.lift (x : HasLst C l get set) (nm : C.m l' = false) : HasLst (ownC C l') l (fun s => get s.1) (fun es s => (set es s.1, s.2)) where
  ml := plus_sub x.ml
  at_ := fun i => x.at_ i.1
  put := fun {h s H ys es} i sb dx => by
    have hl : h l = true := sb l (plus_sub x.ml)
    have ne : l' ≠ l := fun e => by rw [e, x.ml] at nm; cases nm
    obtain ⟨i, xs, e, dx'⟩ := i
    exact ⟨x.put i (fun b q => sb b (plus_sub q)) dx, xs, by rw [upd_ne ne]; exact e, dx'.mono (hid_at hl)⟩
theorem HasSrc.lift (x : HasSrc C a b) (nm : C.m l' = false) : HasSrc (ownC C l') a b where
  ma := plus_sub x.ma
  ml := plus_sub x.ml
  at_ := fun i => x.at_ i.1
  put := fun {h s H H'} i g sb e so => by
    obtain ⟨i, xs, e1, dx⟩ := i
    have ne : l' ≠ a := fun e => by rw [e, x.ma] at nm; cases nm
    have sa : h a = true := sb a (plus_sub x.ma)
    refine ⟨x.put i g (fun b q => sb b (plus_sub q)) e so, xs, e _ _ ne e1, dx.mono (hid_mono fun b o n q => ⟨n, e b o (fun eb => by rw [eb, sa] at n; cases n) q⟩)⟩
/-- what was the list l of one's own is data again -/
def frzA (l : Addr) (ds : List PyData) : A → A
  | .o b => if b = l then .d (.list ds) else .o b
  | .d x => .d x
def frzG (l : Addr) (ds : List PyData) (G : Gm) : Gm := G.map fun o => o.map (frzA l ds)
theorem rv_frz {K : PySem.W.Frag} {h : Hm} {H : Hp} {l : Addr} {ds : List PyData} {xs : List V} {v : V} (hl : h l = false) (e : H l = some (.lst xs)) (dx : DxAll K (hid (plus h l) H) xs ds) : ∀ {x : A}, Rv K (plus h l) H v x → Rv K h H v (frzA l ds x)
  | .d x, r => Dx.mono hid_minus r
  | .o b, r => by
    show Rv K h H v (if b = l then .d (.list ds) else .o b)
    by_cases eb : b = l
    · subst eb
      rw [if_pos rfl]
      cases r
      exact Dx.lst (hid_of hl e) (dx.mono hid_minus)
    · rw [if_neg eb]
      exact r
theorem sl_frz {K : PySem.W.Frag} {h : Hm} {H : Hp} {l : Addr} {ds : List PyData} {xs : List V} {σ : St} {G : Gm} (hl : h l = false) (e : H l = some (.lst xs)) (dx : DxAll K (hid (plus h l) H) xs ds) (s : Sl K (plus h l) H σ G) : Sl K h H σ (frzG l ds G) := by
  refine ⟨by rw [s.len, frzG, List.length_map], fun i x q => ?_⟩
  rw [frzG, List.getElem?_map] at q
  cases e1 : G[i]? with
  | none => rw [e1] at q; cases q
  | some o =>
    rw [e1] at q
    cases o with
    | none => cases q
    | some y =>
      cases q
      obtain ⟨v, e2, r⟩ := s.at_ i y e1
      exact ⟨v, e2, rv_frz hl e dx r⟩
/-- x = [] and what follows, while the list changes; behind it, it is data -/
theorem sm_own {s : T} {G : Gm} {E : Ed T} {t : TS} {i : Nat}
    (e : ∀ l, C.m l = false → SM (ownC C l) t (G.set i (some (.o l))) (s, []) ⟨fun G' p => E.nx (frzG l p.2 G') p.1, fun x p => E.rt (frzA l p.2 x) p.1, fun G' p => E.bk (frzG l p.2 G') p.1, fun G' p => E.ct (frzG l p.2 G') p.1⟩) (hr : C.rh = (fun _ => false) := by rfl) :
    SM C (tSeq (tAsg (tLst tNil) (gName i)) t) G s E := fun h σ H z D w => by
  refine ⟨Nat.zero_le _, fun l hl => ?_⟩
  have nm : C.m l = false := by
    cases q : C.m l with
    | false => rfl
    | true => exact absurd hl (C.good z.z.inv q)
  have hlf : h l = false := z.z.fresh hl
  have kk : ∀ {H' : Hp}, Kp (plus C.m l) (upd H l (.lst [])) H' → Kp C.m H H' := fun {H'} k => by
    refine ⟨fun b o n q => k.1 b o ?_ ?_, fun b q => k.2 b ?_⟩
    · rw [plus_ne (ne_of_none q hl)]; exact n
    · rw [upd_ne (ne_of_none q hl)]; exact q
    · by_cases eb : b = l
      · subst eb; exact absurd hl q
      · rw [upd_ne eb]; exact q
  have okk : ∀ {G' : Gm} {p : T × List PyData} {σ' : St} {H' : Hp}, Kp (plus C.m l) (upd H l (.lst [])) H' → Ok (ownC C l) (plus h l) σ' H' G' p → Ok C h σ' H' (frzG l p.2 G') p.1 := fun {G' p σ' H'} k z' => by
    obtain ⟨⟨sb, gd, i', xs, e1, dx⟩, sl⟩ := z'
    exact ⟨⟨z.z.sub, fun b q => gd b (plus_sub q), C.mono i' hid_minus fun _ _ => rfl⟩, sl_frz hlf e1 dx sl⟩
  refine e l nm (plus h l) _ _ ⟨⟨fun b q => ?_, (fun b q => ?_), ?_, [], upd_same, .nil⟩, ((z.sl.mono (hid_plus hl)).set (x := .o l) i rfl)⟩ _ ⟨fun G' p σ' H' q k z' => w.nx _ _ _ _ q (kk k) (okk k z'), fun x p v H' q k i' r => ?_, fun G' p σ' H' q k z' => w.bk _ _ _ _ q (kk k) (okk k z'), fun G' p σ' H' q k z' => w.ct _ _ _ _ q (kk k) (okk k z')⟩
  · by_cases eb : b = l
    · subst eb; exact plus_self
    · have q : plus C.m l b = true := q
      rw [plus_ne eb] at q; exact plus_sub (z.z.sub b q)
  · by_cases eb : b = l
    · subst eb; rw [upd_same]; exact fun z => nomatch z
    · rw [plus_ne eb] at q; rw [upd_ne eb]; exact z.z.good b q
  · refine C.mono z.z.inv (hid_plus hl) fun b q => ?_
    rw [upd_ne]
    intro eb; rw [eb, nm] at q; cases q
  · obtain ⟨i', xs, e1, dx⟩ := i'
    have r : Rv C.K (orM (plus h l) C.rh) _ _ _ := r
    rw [hr, orM_none] at r
    exact w.rt _ _ _ _ q (kk k) (C.mono i' hid_minus fun _ _ => rfl) ((rv_frz hlf e1 dx r).non hr)
theorem sm_assoc {s : T} {G : Gm} {E : Ed T} {t u v : TS} (e : SM C (tSeq (tSeq t u) v) G s E) : SM C (tSeq t (tSeq u v)) G s E := e
/-- l.append(e) -/
theorem sm_app {s : T} {G : Gm} {E : Ed T} {te : TE} {i : Nat} (hL : HasLst C l get set) (hi : G[i]? = some (some (.o l)))
    (e : EvE C te G s fun x s' => ∃ d, x = .d d ∧ (get s').length < 90000 ∧ E.nx G (set (get s' ++ [d]) s')) : SM C (tDrop (tBM C.K "list" rAppend (tVar i) (tCons te tNil))) G s E := fun h σ H z D w => by
  obtain ⟨v, e1, r1⟩ := z.sl.at_ i _ hi
  cases r1
  obtain ⟨xs0, e0, _⟩ := hL.at_ z.z.inv
  refine ⟨_, e1, .inl ⟨rfl, xs0, SqL.of e0⟩, e h σ H z _ fun x s1 v H1 ⟨d, ex, hz, p1⟩ k1 i1 r1 => ?_⟩
  subst ex
  obtain ⟨xs, e2, dx⟩ := hL.at_ i1
  have hl : h l = true := z.z.sub l hL.ml
  have z1 := z.go k1 i1
  refine ⟨l, xs, v, rfl, rfl, e2, ?_, ?_⟩
  · rw [dx.length]; exact Nat.lt_trans hz (by decide)
  · refine w.nx _ _ _ _ p1 (k1.trans ?_) ⟨⟨z.z.sub, ?_, hL.put i1 z.z.sub (dx.append (DxAll.one r1))⟩, z1.sl.mono (hid_at hl)⟩
    · refine ⟨fun b o n q => ?_, fun b q => ?_⟩
      · rw [upd_ne]
        · exact q
        · intro eb; rw [eb, hL.ml] at n; cases n
      · by_cases eb : b = l
        · subst eb; rw [upd_same]; exact fun z => nomatch z
        · rw [upd_ne eb]; exact q
    · intro b q
      by_cases eb : b = l
      · subst eb; rw [upd_same]; exact fun z => nomatch z
      · rw [upd_ne eb]; exact z1.z.good b q
/-- l[j] = e -/
theorem sm_setL {s : T} {G : Gm} {E : Ed T} {te ti : TE} {i : Nat} (hL : HasLst C l get set) (hi : G[i]? = some (some (.o l)))
    (e : EvE C te G s fun x s' => ∃ d, x = .d d ∧ EvE C ti G s' fun y s2 => ∃ k j, y = .d (.int k) ∧ ixN (get s2).length k = some j ∧ E.nx G (set ((get s2).set j d) s2)) : SM C (tAsg te (gSub (tVar i) ti rSetL)) G s E := fun h σ H z D w =>
  e h σ H z _ fun x s1 v H1 ⟨d, ex, p1⟩ k1 i1 r1 => by
    subst ex
    have z1 := z.go k1 i1
    obtain ⟨vl, e1, rl⟩ := z1.sl.at_ i _ hi
    cases rl
    refine ⟨_, e1, p1 h σ H1 z1 _ fun y s2 u H2 ⟨k, j, ey, hj, p2⟩ k2 i2 r2 => ?_⟩
    subst ey
    cases r2
    obtain ⟨xs, e2, dx⟩ := hL.at_ i2
    have hl : h l = true := z.z.sub l hL.ml
    have z2 := z1.go k2 i2
    have dset : ∀ {xs : List V} {ds : List PyData} {j : Nat}, DxAll C.K (hid h H2) xs ds → DxAll C.K (hid h H2) (xs.set j v) (ds.set j d) := fun {xs ds j} x => by
      have rv : Dx C.K (hid h H2) v d := Dx.mono (k2.sub z.z.sub) r1
      induction j generalizing xs ds with
      | zero =>
        cases x with
        | nil => exact .nil
        | cons a b => exact .cons rv b
      | succ n ih =>
        cases x with
        | nil => exact .nil
        | cons a b => exact .cons a (ih b)
    refine ⟨l, xs, k, j, rfl, rfl, e2, by rw [dx.length]; exact hj, ?_⟩
    refine w.nx _ _ _ _ p2 ((k1.trans k2).trans ?_) ⟨⟨z.z.sub, ?_, hL.put i2 z.z.sub (dset dx)⟩, z2.sl.mono (hid_at hl)⟩
    · refine ⟨fun b o n q => ?_, fun b q => ?_⟩
      · rw [upd_ne]
        · exact q
        · intro eb; rw [eb, hL.ml] at n; cases n
      · by_cases eb : b = l
        · subst eb; rw [upd_same]; exact fun z => nomatch z
        · rw [upd_ne eb]; exact q
    · intro b q
      by_cases eb : b = l
      · subst eb; rw [upd_same]; exact fun z => nomatch z
      · rw [upd_ne eb]; exact z2.z.good b q
theorem ro_ixO {s : T} {P : A → T → Prop} {i : Int} {d : PyData} (hL : HasLst C l get set) (e : atI (get s) i = some d) (p : P (.d d) s) : RO C (rIx C.K) (.o l) (.d (.int i)) s P := fun h H v u z a b Q k => by
  cases b; cases a
  obtain ⟨xs, e1, dx⟩ := hL.at_ z.inv
  obtain ⟨w, e2, r⟩ := dx_at dx e
  exact .inl ⟨l, xs, i, w, rfl, rfl, SqL.of e1, e2, k.here p z.inv r⟩
theorem rc_lenO {s : T} {P : A → T → Prop} (hL : HasLst C l get set) (p : P (.d (.int (get s).length)) s) : RC C (fun xs H Q => ∃ x n, xs = [x] ∧ LenV C.K x H n ∧ Q (.int n) H) [.o l] s P := fun h H vs z a Q k => by
  cases a with
  | cons r t =>
    cases t; cases r
    obtain ⟨xs, e1, dx⟩ := hL.at_ z.inv
    exact ⟨_, (get s).length, rfl, .inl ⟨xs, SqL.of e1, dx.length.symm⟩, k.here p z.inv (Dx.int _)⟩
/-- a, b = xs (a list or a tuple of two) -/
def gTupU (K : PySem.W.Frag) (n : Nat) (t : TGs) : TG := fun v σ H Q => gTup K n t v σ H Q ∨ gUnl K n t v σ H Q
theorem eg_pairU {s : T} {G : Gm} {i j : Nat} {d e : PyData} {Pg : Gm → Prop} (p : Pg ((G.set i (some (.d d))).set j (some (.d e)))) : EvG C (gTupU C.K 2 (gCons (gName i) (gCons (gName j) gNil))) [i, j] (.d (.tuple [d, e])) G s Pg := fun h σ H v z r Q k => .inl (eg_pair p h σ H v z r Q k)
theorem eg_pairL {s : T} {G : Gm} {i j : Nat} {d e : PyData} {Pg : Gm → Prop} (p : Pg ((G.set i (some (.d d))).set j (some (.d e)))) : EvG C (gTupU C.K 2 (gCons (gName i) (gCons (gName j) gNil))) [i, j] (.d (.list [d, e])) G s Pg := fun h σ H v z r Q k => by
  cases r with
  | lst q rr =>
    cases rr with
    | cons r1 rr =>
      cases rr with
      | cons r2 rr =>
        cases rr
        refine .inr ⟨_, _, rfl, SqL.of (hid_le _ _ q), rfl, _, _, rfl, _, _, rfl, rfl, k _ _ p ((z.sl.set (x := .d d) i r1).set (x := .d e) j r2) fun vs hv => ?_⟩
        rw [wipe_set (hv j (by simp)), wipe_set (hv i (by simp))]
theorem ro_isB {s : T} {P : A → T → Prop} {x y : Bool} (p : P (.d (.bool (decide (x = y)))) s) : RO C rIsB (.d (.bool x)) (.d (.bool y)) s P := fun h H v u z a b Q k => by
  cases a; cases b
  exact ⟨x, y, rfl, rfl, k.here p z.inv (Dx.bl _)⟩
theorem ro_notB {s : T} {P : A → T → Prop} {x y : Bool} (p : P (.d (.bool (!decide (x = y)))) s) : RO C rNotB (.d (.bool x)) (.d (.bool y)) s P := fun h H v u z a b Q k => by
  cases a; cases b
  exact ⟨x, y, rfl, rfl, k.here p z.inv (Dx.bl _)⟩
/-- * of numbers; of a list, a tuple and a number -/
def rTimes (K : PySem.W.Frag) : R2 := fun x y H Q => rI CMul (fun i j => .int (i * j)) x y H Q ∨ rRep x y H Q ∨ rRepT K x y H Q ∨ rRep1 K x y H Q
theorem ro_tmI {s : T} {P : A → T → Prop} {i j : Int} (hc : CMul i j) (p : P (.d (.int (i * j))) s) : RO C (rTimes C.K) (.d (.int i)) (.d (.int j)) s P := fun h H v u z a b Q k => .inl (ro_intC rfl hc p h H v u z a b Q k)
/-- comprehensions without effects -/
theorem ev_lcM {α : Type} {s : T} {G : Gm} {P : A → T → Prop} {wi : TI} {g : TG} {ts vs : List Nat} {t : TT} {te : TE} (L : List α) (it : α → A) (f : α → Bool) (φ : α → PyData) (hts : ∀ j ∈ ts, j ∈ vs)
    (e : EvI C wi G s fun xs s1 => xs = L.map it ∧ L.length ≤ 100000 ∧
      (∀ a ∈ L, EvG C g ts (it a) (wipeG G vs) s1 fun G2 => EvT C t G2 s1 fun b s3 => b = f a ∧ s3 = s1 ∧ (f a = true → EvE C te G2 s1 fun y s4 => y = .d (φ a) ∧ s4 = s1)) ∧
      P (.d (.list ((L.filter f).map φ))) s1) : EvE C (tLc wi g t te vs) G s P := by
  refine ev_lc hts fun h σ H z R k => e h σ H z R fun xs s1 J H' ⟨ex, hl, hturn, hp⟩ kk ii wk => k xs s1 J H' ⟨by rw [ex, List.length_map]; exact hl, fun i ds s' => s' = s1 ∧ ds = ((L.take i).filter f).map φ, ⟨rfl, rfl⟩, fun i x ds s' hx ⟨es, ed⟩ => ?_, fun ds s' ⟨es, ed⟩ => ?_⟩ kk ii wk
  · subst es
    rw [ex, List.getElem?_map] at hx
    cases ea : L[i]? with
    | none => rw [ea] at hx; cases hx
    | some a =>
      rw [ea] at hx
      cases hx
      have hm : a ∈ L := List.mem_of_getElem? ea
      have ht : L.take (i + 1) = L.take i ++ [a] := by rw [List.take_add_one, ea]; rfl
      refine fun h σ H v z r Q k => hturn a hm h σ H v z r Q fun G2 σ2 p2 sl2 w2 => k G2 σ2 (fun h2 σ3 H2 z2 Q2 k2 => p2 h2 σ3 H2 z2 Q2 fun b s3 H3 ⟨eb, es3, pe⟩ kk2 ii2 => ?_) sl2 w2
      subst es3
      subst eb
      refine k2 _ _ _ ?_ kk2 ii2
      cases hf : f a with
      | true =>
        rw [if_pos rfl]
        refine (pe hf).imp fun y s4 ⟨ey, es4⟩ => ⟨φ a, ey, es4, ?_⟩
        rw [ht, List.filter_append, List.map_append, ed]
        simp [hf]
      | false =>
        rw [if_neg Bool.false_ne_true]
        refine ⟨rfl, ?_⟩
        rw [ht, List.filter_append, List.map_append, ed]
        simp [hf]
  · subst es
    rw [ed, ex, List.length_map, List.take_length]
    exact hp
theorem ev_lcN {α : Type} {s : T} {G : Gm} {P : A → T → Prop} {wi : TI} {g : TG} {ts vs : List Nat} {te : TE} (L : List α) (it : α → A) (φ : α → PyData) (hts : ∀ j ∈ ts, j ∈ vs)
    (e : EvI C wi G s fun xs s1 => xs = L.map it ∧ L.length ≤ 100000 ∧ (∀ a ∈ L, EvG C g ts (it a) (wipeG G vs) s1 fun G2 => EvE C te G2 s1 fun y s4 => y = .d (φ a) ∧ s4 = s1) ∧ P (.d (.list (L.map φ))) s1) : EvE C (tLc wi g tYes te vs) G s P := by
  refine ev_lcM L it (fun _ => true) φ hts fun h σ H z R k => e h σ H z R fun xs s1 J H' ⟨ex, hl, hturn, hp⟩ kk ii wk => k xs s1 J H' ⟨ex, hl, fun a ha => ?_, ?_⟩ kk ii wk
  · refine fun h σ H v z r Q k => hturn a ha h σ H v z r Q fun G2 σ2 p2 sl2 w2 => k G2 σ2 (et_yes ⟨rfl, rfl, fun _ => p2⟩) sl2 w2
  · have e : (L.filter fun _ => true) = L := by simp
    rw [e]
    exact hp
/-- each element by a relation (draws) -/
theorem ev_lcR {α : Type} {s : T} {G : Gm} {P : A → T → Prop} {wi : TI} {g : TG} {ts vs : List Nat} {te : TE} (L : List α) (it : α → A) (Jd : α → PyData → Prop) (hts : ∀ j ∈ ts, j ∈ vs)
    (e : EvI C wi G s fun xs s1 => xs = L.map it ∧ L.length ≤ 100000 ∧ (∀ a ∈ L, EvG C g ts (it a) (wipeG G vs) s1 fun G2 => EvE C te G2 s1 fun y s4 => ∃ d, y = .d d ∧ Jd a d ∧ s4 = s1) ∧
      ∀ ds, Paired Jd L ds → P (.d (.list ds)) s1) : EvE C (tLc wi g tYes te vs) G s P := by
  have snoc : ∀ {l : List α} {ds : List PyData} {a : α} {d : PyData}, Paired Jd l ds → Jd a d → Paired Jd (l ++ [a]) (ds ++ [d]) := fun {l ds a d} x y => by
    induction x with
    | nil => exact .cons y .nil
    | cons p _ ih => exact .cons p ih
  refine ev_lc hts fun h σ H z R k => e h σ H z R fun xs s1 J H' ⟨ex, hl, hturn, hp⟩ kk ii wk => k xs s1 J H' ⟨by rw [ex, List.length_map]; exact hl, fun i ds s' => s' = s1 ∧ Paired Jd (L.take i) ds, ⟨rfl, .nil⟩, fun i x ds s' hx ⟨es, ed⟩ => ?_, fun ds s' ⟨es, ed⟩ => ?_⟩ kk ii wk
  · subst es
    rw [ex, List.getElem?_map] at hx
    cases ea : L[i]? with
    | none => rw [ea] at hx; cases hx
    | some a =>
      rw [ea] at hx
      cases hx
      have hm : a ∈ L := List.mem_of_getElem? ea
      have ht : L.take (i + 1) = L.take i ++ [a] := by rw [List.take_add_one, ea]; rfl
      refine fun h σ H v z r Q k => hturn a hm h σ H v z r Q fun G2 σ2 p2 sl2 w2 => k G2 σ2 (et_yes ?_) sl2 w2
      rw [if_pos rfl]
      refine p2.imp fun y s4 ⟨d, ey, hj, es4⟩ => ⟨d, ey, es4, ?_⟩
      rw [ht]
      exact snoc ed hj
  · subst es
    rw [ex, List.length_map, List.take_length] at ed
    exact hp _ ed
theorem ev_lcMx {α : Type} {s : T} {G : Gm} {P : A → T → Prop} {wi : TI} {g : TG} {ts vs : List Nat} {t : TT} {te : TE} (it : α → A) (f : α → Bool) (φ : α → PyData) (hts : ∀ j ∈ ts, j ∈ vs)
    (e : EvI C wi G s fun xs s1 => ∃ L : List α, xs = L.map it ∧ L.length ≤ 100000 ∧
      (∀ a ∈ L, EvG C g ts (it a) (wipeG G vs) s1 fun G2 => EvT C t G2 s1 fun b s3 => b = f a ∧ s3 = s1 ∧ (f a = true → EvE C te G2 s1 fun y s4 => y = .d (φ a) ∧ s4 = s1)) ∧
      P (.d (.list ((L.filter f).map φ))) s1) : EvE C (tLc wi g t te vs) G s P := by
  refine ev_lc hts fun h σ H z R k => e h σ H z R fun xs s1 J H' ⟨L, ex, hl, hturn, hp⟩ kk ii wk => k xs s1 J H' ⟨by rw [ex, List.length_map]; exact hl, fun i ds s' => s' = s1 ∧ ds = ((L.take i).filter f).map φ, ⟨rfl, rfl⟩, fun i x ds s' hx ⟨es, ed⟩ => ?_, fun ds s' ⟨es, ed⟩ => ?_⟩ kk ii wk
  · subst es
    rw [ex, List.getElem?_map] at hx
    cases ea : L[i]? with
    | none => rw [ea] at hx; cases hx
    | some a =>
      rw [ea] at hx
      cases hx
      have hm : a ∈ L := List.mem_of_getElem? ea
      have ht : L.take (i + 1) = L.take i ++ [a] := by rw [List.take_add_one, ea]; rfl
      refine fun h σ H v z r Q k => hturn a hm h σ H v z r Q fun G2 σ2 p2 sl2 w2 => k G2 σ2 (fun h2 σ3 H2 z2 Q2 k2 => p2 h2 σ3 H2 z2 Q2 fun b s3 H3 ⟨eb, es3, pe⟩ kk2 ii2 => ?_) sl2 w2
      subst es3
      subst eb
      refine k2 _ _ _ ?_ kk2 ii2
      cases hf : f a with
      | true =>
        rw [if_pos rfl]
        refine (pe hf).imp fun y s4 ⟨ey, es4⟩ => ⟨φ a, ey, es4, ?_⟩
        rw [ht, List.filter_append, List.map_append, ed]
        simp [hf]
      | false =>
        rw [if_neg Bool.false_ne_true]
        refine ⟨rfl, ?_⟩
        rw [ht, List.filter_append, List.map_append, ed]
        simp [hf]
  · subst es
    rw [ed, ex, List.length_map, List.take_length]
    exact hp
theorem ev_lcNx {α : Type} {s : T} {G : Gm} {P : A → T → Prop} {wi : TI} {g : TG} {ts vs : List Nat} {te : TE} (it : α → A) (φ : α → PyData) (hts : ∀ j ∈ ts, j ∈ vs)
    (e : EvI C wi G s fun xs s1 => ∃ L : List α, xs = L.map it ∧ L.length ≤ 100000 ∧ (∀ a ∈ L, EvG C g ts (it a) (wipeG G vs) s1 fun G2 => EvE C te G2 s1 fun y s4 => y = .d (φ a) ∧ s4 = s1) ∧ P (.d (.list (L.map φ))) s1) : EvE C (tLc wi g tYes te vs) G s P := by
  refine ev_lcMx it (fun _ => true) φ hts fun h σ H z R k => e h σ H z R fun xs s1 J H' ⟨L, ex, hl, hturn, hp⟩ kk ii wk => k xs s1 J H' ⟨L, ex, hl, fun a ha => ?_, ?_⟩ kk ii wk
  · refine fun h σ H v z r Q k => hturn a ha h σ H v z r Q fun G2 σ2 p2 sl2 w2 => k G2 σ2 (et_yes ⟨rfl, rfl, fun _ => p2⟩) sl2 w2
  · have e : (L.filter fun _ => true) = L := by simp
    rw [e]
    exact hp
/-- each element by a relation (draws) -/
theorem ev_lcRx {α : Type} {s : T} {G : Gm} {P : A → T → Prop} {wi : TI} {g : TG} {ts vs : List Nat} {te : TE} (it : α → A) (Jd : α → PyData → Prop) (hts : ∀ j ∈ ts, j ∈ vs)
    (e : EvI C wi G s fun xs s1 => ∃ L : List α, xs = L.map it ∧ L.length ≤ 100000 ∧ (∀ a ∈ L, EvG C g ts (it a) (wipeG G vs) s1 fun G2 => EvE C te G2 s1 fun y s4 => ∃ d, y = .d d ∧ Jd a d ∧ s4 = s1) ∧
      ∀ ds, Paired Jd L ds → P (.d (.list ds)) s1) : EvE C (tLc wi g tYes te vs) G s P := by
  have snoc : ∀ {l : List α} {ds : List PyData} {a : α} {d : PyData}, Paired Jd l ds → Jd a d → Paired Jd (l ++ [a]) (ds ++ [d]) := fun {l ds a d} x y => by
    induction x with
    | nil => exact .cons y .nil
    | cons p _ ih => exact .cons p ih
  refine ev_lc hts fun h σ H z R k => e h σ H z R fun xs s1 J H' ⟨L, ex, hl, hturn, hp⟩ kk ii wk => k xs s1 J H' ⟨by rw [ex, List.length_map]; exact hl, fun i ds s' => s' = s1 ∧ Paired Jd (L.take i) ds, ⟨rfl, .nil⟩, fun i x ds s' hx ⟨es, ed⟩ => ?_, fun ds s' ⟨es, ed⟩ => ?_⟩ kk ii wk
  · subst es
    rw [ex, List.getElem?_map] at hx
    cases ea : L[i]? with
    | none => rw [ea] at hx; cases hx
    | some a =>
      rw [ea] at hx
      cases hx
      have hm : a ∈ L := List.mem_of_getElem? ea
      have ht : L.take (i + 1) = L.take i ++ [a] := by rw [List.take_add_one, ea]; rfl
      refine fun h σ H v z r Q k => hturn a hm h σ H v z r Q fun G2 σ2 p2 sl2 w2 => k G2 σ2 (et_yes ?_) sl2 w2
      rw [if_pos rfl]
      refine p2.imp fun y s4 ⟨d, ey, hj, es4⟩ => ⟨d, ey, es4, ?_⟩
      rw [ht]
      exact snoc ed hj
  · subst es
    rw [ex, List.length_map, List.take_length] at ed
    exact hp _ ed
end

section
variable {X : Cx}
theorem op_times : OpR X (binaryOp .Mult) (rTimes X.K) := opr_or op_mul (opr_or op_rep (opr_or op_repT op_rep1))
theorem pg_tupU {es : List Expr} {k : Nat} {pos : Pos} {t : TGs} {n : Nat} (a : PG X (.Tuple es k pos) (gTup X.K n t)) (b : PG X (.Tuple es k pos) (gUnl X.K n t)) : PG X (.Tuple es k pos) (gTupU X.K n t) := ⟨by
  intro pins s σ H v u Q I r h
  rcases h with h | h
  · exact a.run _ _ _ _ _ _ _ I r h
  · exact b.run _ _ _ _ _ _ _ I r h⟩
end
section
variable {T : Type} {C : Cc T} {s : T} {P : A → T → Prop}
theorem rc_allE {ds : List PyData} {bs : List Bool} (e : ds = bs.map PyData.bool) (p : P (.d (.bool (bs.all id))) s) : RC C (rAll C.K) [.d (.list ds)] s P := by subst e; exact rc_all p
theorem rc_anyE {ds : List PyData} {bs : List Bool} (e : ds = bs.map PyData.bool) (p : P (.d (.bool (bs.any id))) s) : RC C (rAny C.K) [.d (.list ds)] s P := by subst e; exact rc_any p
end
theorem pairsD_map {α β : Type} (f : α → PyData) (g : β → PyData) : ∀ (xs : List α) (ys : List β), pairsD (xs.map f) (ys.map g) = (xs.zip ys).map fun p => .tuple [f p.1, g p.2]
  | [], _ => rfl
  | _ :: _, [] => rfl
  | x :: xs, y :: ys => by
    show PyData.tuple [f x, g y] :: pairsD (xs.map f) (ys.map g) = _
    rw [pairsD_map f g xs ys]; rfl
/-- a def of the top, as it stands -/
def Tp (K : PySem.W.Frag) (mg : Str → Option Value) (x : Str) (st : Stmt) : Prop := ∃ f fd, Fun K x x st f fd ∧ mg x = some (.ref f)
/-- fewer slots are known -/
def leG : Gm → Gm → Prop
  | [], [] => True
  | none :: a, _ :: b => leG a b
  | some x :: a, y :: b => y = some x ∧ leG a b
  | _, _ => False
theorem leG.spec : ∀ {a b : Gm}, leG a b → a.length = b.length ∧ ∀ (i : Nat) x, a[i]? = some (some x) → b[i]? = some (some x)
  | [], [], _ => ⟨rfl, fun i x e => by simp at e⟩
  | none :: a, y :: b, h => by
    obtain ⟨h1, h2⟩ := leG.spec (show leG a b from h)
    refine ⟨by simp [h1], fun i x e => ?_⟩
    cases i with
    | zero => simp at e
    | succ i => simp only [List.getElem?_cons_succ] at e ⊢; exact h2 i x e
  | some z :: a, y :: b, h => by
    obtain ⟨h0, h⟩ := (show y = some z ∧ leG a b from h)
    obtain ⟨h1, h2⟩ := leG.spec h
    refine ⟨by simp [h1], fun i x e => ?_⟩
    cases i with
    | zero => simp only [List.getElem?_cons_zero] at e ⊢; rw [h0]; exact e
    | succ i => simp only [List.getElem?_cons_succ] at e ⊢; exact h2 i x e
  | none :: _, [], h => h.elim
  | some _ :: _, [], h => h.elim
  | [], _ :: _, h => h.elim
theorem sm_less {T : Type} {C : Cc T} {t : TS} {G0 G : Gm} {s : T} {E : Ed T} (l : leG G0 G) (e : SM C t G0 s E) : SM C t G s E := fun h σ H z D w =>
  e h σ H ⟨z.z, ⟨z.sl.len.trans l.spec.1.symm, fun i x q => z.sl.at_ i x (l.spec.2 i x q)⟩⟩ D w
theorem eg_less {T : Type} {C : Cc T} {g : TG} {ts : List Nat} {x : A} {G0 G : Gm} {s : T} {P : Gm → Prop} (l : leG G0 G) (e : EvG C g ts x G0 s P) : EvG C g ts x G s P := fun h σ H v z r Q k =>
  e h σ H v ⟨z.z, ⟨z.sl.len.trans l.spec.1.symm, fun i x q => z.sl.at_ i x (l.spec.2 i x q)⟩⟩ r Q k
theorem cutD_map {α β : Type} (f : α → β) (xs : List α) (lo hi : Option Int) : cutD (xs.map f) lo hi = (cutD xs lo hi).map f := by
  unfold cutD
  rw [List.length_map, List.map_take, List.map_drop]
theorem cutD_len {α : Type} (xs : List α) (lo hi : Option Int) : (cutD xs lo hi).length ≤ xs.length := by
  unfold cutD
  rw [List.length_take, List.length_drop]
  omega
theorem sm_assoc3 {T : Type} {C : Cc T} {s : T} {G : Gm} {E : Ed T} {t u v x : TS} (e : SM C (tSeq (tSeq t (tSeq u v)) x) G s E) : SM C (tSeq t (tSeq u (tSeq v x))) G s E := e
theorem sm_cut {T : Type} {C : Cc T} {s : T} {G : Gm} {E : Ed T} {t u : TS} (N : Gm → T → Prop) (h : SM C t G s { E with nx := N }) (k : ∀ G' s', N G' s' → SM C u G' s' E) : SM C (tSeq t u) G s E :=
  sm_seq (h.imp k (fun _ _ q => q) (fun _ _ q => q) (fun _ _ q => q))
/-- the law's own body, behind its source -/
def two (p l : Addr) : Hm := fun b => decide (b = p) || decide (b = l)
theorem law_go {K : PySem.W.Frag} {t : TS} {p l : Addr} {H1 : Hp} {Q : VK} {σ1 : L2.St} {k : Nat} (so : SrcOk H1 p l) (hσ : σ1[1]? = some (some (.ref p))) (hl : σ1.length = k + 2)
    (q : ∀ H', Q (.bl true) H') (e : SM (srcC K (two p l) p l H1) t (none :: some (.o p) :: List.replicate k none) () ⟨fun _ _ => False, fun x _ => x = .d (.bool true), fun _ _ => False, fun _ _ => False⟩) :
    t { nx := fun _ H' => Q .non H', rt := Q } σ1 H1 := by
  have ne : H1 l ≠ none ∧ H1 p ≠ none := by
    obtain ⟨_, _, _, _, e1, e2, _⟩ := so
    refine ⟨?_, ?_⟩
    · rw [e2]; exact fun z => nomatch z
    · rw [e1]; exact fun z => nomatch z
  have g : Good (two p l) H1 := fun b q => by
    unfold two at q
    simp only [Bool.or_eq_true, decide_eq_true_eq] at q
    rcases q with q | q
    · rw [q]; exact ne.2
    · rw [q]; exact ne.1
  refine e (two p l) σ1 H1 ⟨⟨fun _ z => z, g, g, so, by simp [two], by simp [two], fun _ _ _ => rfl⟩, ⟨by simp [hl], fun i x qx => ?_⟩⟩ _ ⟨fun _ _ _ _ e => e.elim, fun x s' v H' ex _ _ r => ?_, fun _ _ _ _ e => e.elim, fun _ _ _ _ e => e.elim⟩
  · match i, qx with
    | 0, qx => simp at qx
    | 1, qx =>
      simp at qx
      subst qx
      exact ⟨_, hσ, rfl⟩
    | i + 2, qx =>
      simp only [List.getElem?_cons_succ, List.getElem?_replicate] at qx
      split at qx <;> cases qx
  · subst ex
    cases (Rv.un (x := .d (.bool true)) r)
    exact q H'
theorem hasSrc2 (K : PySem.W.Frag) (p l : Addr) (H0 : Hp) : HasSrc (srcC K (two p l) p l H0) p l where
  ma := by simp [two]
  ml := by simp [two]
  at_ := fun i => i.2.1
  put := fun {h s H H'} i g sb e so => ⟨i.1, so, i.2.2.1, i.2.2.2.1, fun b qb nb => by
    have e1 := i.2.2.2.2 b qb nb
    cases e2 : H b with
    | none => exact absurd e2 (g b (sb b qb))
    | some o => rw [e b o nb e2, ← e1, e2]⟩
def spLaw (K : PySem.W.Frag) : Sp := fun vs H Q _ => ∃ (a : Addr) (ns : List Int), vs = [.ref a] ∧ SqL K H a (ns.map V.int) ∧ ns.length ≤ 63 ∧ ∀ H', Q (.bl true) H'
/-- numbers drawn -/
theorem paired_ints {α : Type} {C : Int → Prop} : ∀ {L : List α} {ds : List PyData}, Paired (fun (_ : α) d => ∃ k : Int, d = .int k ∧ C k) L ds → ∃ ks : List Int, ds = ks.map .int ∧ ks.length = L.length ∧ ∀ k ∈ ks, C k
  | _, _, .nil => ⟨[], rfl, rfl, by simp⟩
  | _, _, .cons ⟨k, e, c⟩ t => by
    obtain ⟨ks, e1, e2, e3⟩ := paired_ints t
    refine ⟨k :: ks, by rw [e, e1]; rfl, by simp [e2], fun j hj => ?_⟩
    rcases List.mem_cons.mp hj with h | h
    · rw [h]; exact c
    · exact e3 j h
/-- a def of which nothing is asked -/
theorem df_no {P : Program} {w : World} {K : PySem.W.Frag} {mg : Str → Option Value} {base : Heap} {x : Str} {st : Stmt} {ps : List Str} {sp : Sp} (F : Tp K mg x st) (hn : ∀ vs H Q E, ¬ sp vs H Q E)
    (hb : ∀ (kV doc pm : Value) (an : Option Addr) (cdv ct : Value) (us : List Value), us.length = ps.length → bindArgs (PySem.W.fnOf x x (defArgs st) (defBody st) (defScope st) .none kV doc pm an cdv ct) ⟨us, []⟩ = pure (ps.zip us)) :
    ∃ f fd, FnOk P w K mg base CX0 0 f fd ps sp ∧ mg x = some (.ref f) ∧ PySem.W.keepIn K (.ref f) = true ∧ Binds K fd ps [] := by
  obtain ⟨f, fd, F, hm⟩ := F
  exact ⟨f, fd, ⟨fun vs H Q E h => (hn _ _ _ _ h).elim, fun _ _ _ _ _ _ _ _ _ _ _ _ _ h => (hn _ _ _ _ h).elim⟩, hm, F.kp, F.binds hb⟩
/-! ### the rules with the written part named -/
section
variable {X : Cx} {K : PySem.W.Frag}
theorem kop_plus (hK : X.K = K) : OpR X (binaryOp .Add) (rPlus K) := hK ▸ op_plus
theorem kop_times (hK : X.K = K) : OpR X (binaryOp .Mult) (rTimes K) := hK ▸ op_times
theorem kop_eq (hK : X.K = K) (hu : X.A.units + 64 < cLine) : OpR X (compareOp .Eq) (rEqU K) := hK ▸ op_eqU hu
theorem kop_ne (hK : X.K = K) (hu : X.A.units + 64 < cLine) : OpR X (compareOp .NotEq) (rNeU K) := hK ▸ op_neU hu
theorem kop_in (hK : X.K = K) : OpR X (compareOp .In) (rInU K false) := hK ▸ op_inU
theorem kop_notIn (hK : X.K = K) : OpR X (compareOp .NotIn) (rInU K true) := hK ▸ op_notInU
theorem kix (hK : X.K = K) : IxR X (rIx K) := hK ▸ ix_seq
theorem ksl (hK : X.K = K) : SlR X (rSlU K) := hK ▸ sl_any
theorem kpi {tg e : Expr} {te : TE} (hK : X.K = K) (h : PE X e te) : PI X tg e (iAny K te) := hK ▸ pi_any h
theorem kpi_zip {e e2 : Expr} {ta : TA} {p pos tpos : Pos} {elts : List Expr} {kk : Nat} (hK : X.K = K) (hg : Gl X "zip") (hm : X.mg "zip" = none) (ha : PA X [e, e2] ta)
    (hs : starEach [e, e2] X.env = (false, eval e X.env) :: starEach [e2] X.env := by rfl) (hpl : (backTo pos (starEach [e2] X.env)).any (·.1) = false := by rfl) :
    PI X (.Tuple elts kk tpos) (.Call (.Name "zip" p) [e, e2] [] pos) (iZipA K ta) := hK ▸ pi_zipA hg hm ha hs hpl
def rLen (K : PySem.W.Frag) : List V → Hp → VK → Prop := fun xs H Q => ∃ x n, xs = [x] ∧ LenV K x H n ∧ Q (.int n) H
def rListOf (K : PySem.W.Frag) : List V → Hp → VK → Prop := fun xs H Q => ∃ p ys, xs = [.ref p] ∧ (SqL K H p ys ∨ SqT K H p ys) ∧ ∀ l, H l = none → Q (.ref l) (upd H l (.lst ys))
def rTupOf (K : PySem.W.Frag) : List V → Hp → VK → Prop := fun xs H Q => ∃ p ys, xs = [.ref p] ∧ ((SqL K H p ys ∧ ∀ l, H l = none → Q (.ref l) (upd H l (.tup ys))) ∨ (SqT K H p ys ∧ Q (.ref p) H))
theorem kc_len (hK : X.K = K) : CallR X (.builtin "len") (rLen K) := hK ▸ call_len
theorem kc_list (hK : X.K = K) : CallR X (.type "list") (rListOf K) := hK ▸ call_list_of
theorem kc_tuple (hK : X.K = K) : CallR X (.type "tuple") (rTupOf K) := hK ▸ call_tuple_of
theorem kc_all (hK : X.K = K) (hc : X.calm = true) : CallR X (.builtin "all") (rAll K) := hK ▸ cr_all hc
theorem kc_any (hK : X.K = K) (hc : X.calm = true) : CallR X (.builtin "any") (rAny K) := hK ▸ cr_any hc
theorem kc_isi (hK : X.K = K) : CallR X (.builtin "isinstance") (rIsi K) := hK ▸ call_isi
theorem kc_isiT (hK : X.K = K) : CallR X (.builtin "isinstance") (rIsiT K) := hK ▸ call_isiT
def rMax2 : List V → Hp → VK → Prop := fun xs H Q => ∃ i j, xs = [.int i, .int j] ∧ Q (.int (if j > i then j else i)) H
def rMin2 : List V → Hp → VK → Prop := fun xs H Q => ∃ i j, xs = [.int i, .int j] ∧ Q (.int (if j < i then j else i)) H
theorem kc_max2 (hc : X.calm = true) : CallR X (.builtin "max") rMax2 := call_max2 hc
theorem kc_min2 (hc : X.calm = true) : CallR X (.builtin "min") rMin2 := call_min2 hc
def rStrI : List V → Hp → VK → Prop := fun xs H Q => ∃ i, xs = [.int i] ∧ i.natAbs.log2 < 1920 ∧ Q (.str (toString i)) H
theorem kc_str : CallR X (.type "str") rStrI := call_str_int
def tJoin (K : PySem.W.Frag) (to te : TE) : TE := tM1 (fun x xs H Q => ∃ a p, ∃ ys : List Str, x = .str a ∧ xs = [.ref p] ∧ (SqL K H p (ys.map V.str) ∨ SqT K H p (ys.map V.str)) ∧ (ys.map (·.length)).sum + ys.length * a.length ≤ 16777216 ∧ Q (.str (Txt.join a ys)) H) to te
theorem kjoin {o e : Expr} {to te : TE} {apos pos : Pos} (hK : X.K = K) (ho : PE X o to) (he : PE X e te) (hs : starEach [e] X.env = [(false, eval e X.env)] := by rfl) (hbase : attributeBase o "join" X.env (eval o X.env) = eval o X.env := by rfl) (hline : (apos.endLine == pos.line) = true := by rfl) :
    PE X (.Call (.Attribute o "join" apos) [e] [] pos) (tJoin K to te) := hK ▸ pe_join ho he hs hbase hline
theorem kapp {o e : Expr} {to te : TE} {apos pos : Pos} (hK : X.K = K) (ho : PE X o to) (he : PE X e te) (h : PE X (.Call (.Attribute o "append" apos) [e] [] pos) (tBM X.K "list" rAppend to (tCons te tNil))) :
    PE X (.Call (.Attribute o "append" apos) [e] [] pos) (tBM K "list" rAppend to (tCons te tNil)) := hK ▸ h
theorem kpg_tup {es : List Expr} {k : Nat} {pos : Pos} {t : TGs} {n : Nat} (hK : X.K = K) (a : PG X (.Tuple es k pos) (gTup X.K n t)) (b : PG X (.Tuple es k pos) (gUnl X.K n t)) : PG X (.Tuple es k pos) (gTupU K n t) := hK ▸ pg_tupU a b
theorem kstar {e : Expr} {es : List Expr} {te : TE} {t : TA} {p : Pos} (hK : X.K = K) (he : PE X e te) (hr : PA X es t) (hs : starEach (.Starred e p :: es) X.env = (true, eval e X.env) :: starEach es X.env := by rfl) : PA X (.Starred e p :: es) (StX.tStar K te t) := hK ▸ StX.pa_star he hr hs
end
/-! ### what the top has left -/
def GI (mg : Str → Option Value) (x : Str) (i : Int) : Prop := ∃ t, mg x = some (.int i t)
def GS (mg : Str → Option Value) (x : Str) (i : Str) : Prop := ∃ t, mg x = some (.str i t)
theorem pe_gi {X : Cx} {x : Str} {i : Int} {pos : Pos} (hg : Gl X x) (h : GI X.mg x i) (hd : (x == ("__debug__" : Str)) = false := by decide) : PE X (.Name x pos) (tC (.int i)) := by
  obtain ⟨t, h⟩ := h
  exact pe_glob hg h ⟨t, rfl⟩ hd
theorem pe_gs {X : Cx} {x : Str} {i : Str} {pos : Pos} (hg : Gl X x) (h : GS X.mg x i) (hd : (x == ("__debug__" : Str)) = false := by decide) : PE X (.Name x pos) (tC (.str i)) := by
  obtain ⟨t, h⟩ := h
  exact pe_glob hg h ⟨t, rfl⟩ hd
/-- a def that keeps its promise -/
def Df (P : Program) (w : World) (K : PySem.W.Frag) (mg : Str → Option Value) (base : Heap) (x : Str) (k : Nat) (ps : List Str) (sp : Sp) : Prop :=
  ∃ f fd, FnOk P w K mg base CX0 k f fd ps sp ∧ mg x = some (.ref f) ∧ PySem.W.keepIn K (.ref f) = true ∧ Binds K fd ps []
section
variable {X : Cx} {x : Str} {k j : Nat} {ps : List Str} {sp : Sp} {p pos : Pos} {e : Expr} {es : List Expr} {t : TA}
theorem pe_df (D : Df X.prog X.w X.K X.mg X.base x k ps sp) (hr : Room k X.A) (hg : Gl X x) (ha : PA X (e :: es) t) (hdb : (x == ("__debug__" : Str)) = false := by decide)
    (he : starEach (e :: es) X.env = (false, eval e X.env) :: starEach es X.env := by rfl) (hpl : (backTo pos (starEach es X.env)).any (·.1) = false := by rfl) : PE X (.Call (.Name x p) (e :: es) [] pos) (tCall sp [] E0 t) := by
  obtain ⟨f, fd, F, hm, hk, hb⟩ := D
  exact pe_call F hr hg hm hk hb .nil pass0 ha hdb he hpl
theorem pe_df0 (D : Df X.prog X.w X.K X.mg X.base x k ps sp) (hr : Room k X.A) (hg : Gl X x) (hdb : (x == ("__debug__" : Str)) = false := by decide) : PE X (.Call (.Name x p) [] [] pos) (tCall sp [] E0 tNil) := by
  obtain ⟨f, fd, F, hm, hk, hb⟩ := D
  exact pe_call0 F hr hg hm hk hb .nil pass0 hdb
end
end Cl

end
section
set_option Elab.async false
set_option linter.all false
set_option maxRecDepth 100000
set_option maxHeartbeats 2000000
/-! SX1: a program over plain values and cells (demonic draws), and how the hand layer's readings follow it -/
namespace Sx
open PySem L2 Cl

inductive Val where
  | non | bl (b : Bool) | int (i : Int) | str (x : Str)
  | tup (xs : List Val) | lst (xs : List Val)
  | obj (c : Str) (ks : List Str) (xs : List Val)
  | ref (n : Nat) | src | ty (n : String) | cls (c : Str)
inductive Cell where
  | lst (xs : List Val)
  | ins (c : Str) (fs : List (Str × Val))
  | dct (kvs : List (L2.Key × Val))
/-- what is written: classes by their names -/
structure Ky where
  K : PySem.W.Frag
  cm : Str → Option Addr
  T : List (Addr × Str) := []
/-- where the cells stand, where the source of draws; hidden things that no cell tells of -/
structure Mp where
  cells : List Addr
  src : Option (Addr × Addr)
  ex : List Addr
  tb : List Addr := []
/-- what may be changed -/
def Mp.m (μ : Mp) : Hm := fun a => (decide (a ∈ μ.cells) || match μ.src with
  | some (p, _) => decide (a = p)
  | none => false) || decide (a ∈ μ.tb)
def Mp.k (μ : Mp) : Hm := fun a => decide (a ∈ μ.ex) || match μ.src with
  | some (_, l) => decide (a = l)
  | none => false
def Mp.h (μ : Mp) : Hm := fun a => μ.m a || μ.k a
abbrev vis (μ : Mp) (H : Hp) : Hp := hid μ.h H
abbrev Mh := List Cell
abbrev Me := List (Option Val)

mutual
inductive VR (Y : Ky) (μ : Mp) (G : Hp) : V → Val → Prop
  | non : VR Y μ G .non .non
  | bl (b : Bool) : VR Y μ G (.bl b) (.bl b)
  | int (i : Int) : VR Y μ G (.int i) (.int i)
  | str (x : Str) : VR Y μ G (.str x) (.str x)
  | ty (n : String) : VR Y μ G (.ty n) (.ty n)
  | lst {a : Addr} {vs : List V} {xs : List Val} : G a = some (.lst vs) → VRs Y μ G vs xs → VR Y μ G (.ref a) (.lst xs)
  | tup {a : Addr} {vs : List V} {xs : List Val} : SqT Y.K G a vs → VRs Y μ G vs xs → VR Y μ G (.ref a) (.tup xs)
  | obj {a C dx : Addr} {c : Str} {fs : List (Str × V)} {xs : List Val} : Y.cm c = some C → G a = some (.ins C dx fs) → VRs Y μ G (fs.map (·.2)) xs → VR Y μ G (.ref a) (.obj c (fs.map (·.1)) xs)
  | ref {n : Nat} {a : Addr} : μ.cells[n]? = some a → VR Y μ G (.ref a) (.ref n)
  | src {p l : Addr} : μ.src = some (p, l) → VR Y μ G (.ref p) .src
  | cls {c : Str} {C : Addr} : Y.cm c = some C → VR Y μ G (.ref C) (.cls c)
inductive VRs (Y : Ky) (μ : Mp) (G : Hp) : List V → List Val → Prop
  | nil : VRs Y μ G [] []
  | cons {v : V} {vs : List V} {x : Val} {xs : List Val} : VR Y μ G v x → VRs Y μ G vs xs → VRs Y μ G (v :: vs) (x :: xs)
end
/-- more cells, the visible heap kept -/
structure Le (μ μ' : Mp) (G G' : Hp) : Prop where
  cells : ∀ (n : Nat) a, μ.cells[n]? = some a → μ'.cells[n]? = some a
  src : ∀ s, μ.src = some s → μ'.src = some s
  same : Same G G'
section
variable {Y : Ky} {μ μ' : Mp} {G G' : Hp}
mutual
theorem VR.mono (e : Le μ μ' G G') : ∀ {v : V} {x : Val}, VR Y μ G v x → VR Y μ' G' v x
  | _, _, .non => .non
  | _, _, .bl b => .bl b
  | _, _, .int i => .int i
  | _, _, .str x => .str x
  | _, _, .ty x => .ty x
  | _, _, .lst s a => .lst (e.same _ _ s) (VRs.mono e a)
  | _, _, .tup s a => .tup (sqT_mono e.same s) (VRs.mono e a)
  | _, _, .obj c s a => .obj c (e.same _ _ s) (VRs.mono e a)
  | _, _, .ref s => .ref (e.cells _ _ s)
  | _, _, .src s => .src (e.src _ s)
  | _, _, .cls s => .cls s
theorem VRs.mono (e : Le μ μ' G G') : ∀ {vs : List V} {xs : List Val}, VRs Y μ G vs xs → VRs Y μ' G' vs xs
  | _, _, .nil => .nil
  | _, _, .cons a b => .cons (VR.mono e a) (VRs.mono e b)
end
theorem VRs.length : ∀ {vs : List V} {xs : List Val}, VRs Y μ G vs xs → vs.length = xs.length
  | _, _, .nil => rfl
  | _, _, .cons _ b => by simp [VRs.length b]
theorem VRs.get : ∀ {vs : List V} {xs : List Val} {i : Nat} {v : V}, VRs Y μ G vs xs → vs[i]? = some v → ∃ x, xs[i]? = some x ∧ VR Y μ G v x
  | _, _, _, _, .nil, e => by simp at e
  | _, _, 0, _, .cons x _, e => by simp at e; subst e; exact ⟨_, rfl, x⟩
  | _, _, i + 1, v, .cons _ y, e => by
    obtain ⟨d, h1, h2⟩ := VRs.get (i := i) (v := v) y (by simpa using e)
    exact ⟨d, by simpa using h1, h2⟩
theorem VRs.got : ∀ {vs : List V} {xs : List Val} {i : Nat} {x : Val}, VRs Y μ G vs xs → xs[i]? = some x → ∃ v, vs[i]? = some v ∧ VR Y μ G v x
  | _, _, _, _, .nil, e => by simp at e
  | _, _, 0, _, .cons x _, e => by simp at e; subst e; exact ⟨_, rfl, x⟩
  | _, _, i + 1, d, .cons _ y, e => by
    obtain ⟨v, h1, h2⟩ := VRs.got (i := i) (x := d) y (by simpa using e)
    exact ⟨v, by simpa using h1, h2⟩
theorem VRs.append : ∀ {vs ws : List V} {xs ys : List Val}, VRs Y μ G vs xs → VRs Y μ G ws ys → VRs Y μ G (vs ++ ws) (xs ++ ys)
  | _, _, _, _, .nil, y => y
  | _, _, _, _, .cons x z, y => .cons x (VRs.append z y)
theorem VRs.one {v : V} {x : Val} (r : VR Y μ G v x) : VRs Y μ G [v] [x] := .cons r .nil
theorem VRs.drop : ∀ {vs : List V} {xs : List Val} (n : Nat), VRs Y μ G vs xs → VRs Y μ G (vs.drop n) (xs.drop n)
  | _, _, 0, x => by simpa using x
  | _, _, _ + 1, .nil => .nil
  | _, _, n + 1, .cons _ y => by simpa using VRs.drop n y
theorem VRs.take : ∀ {vs : List V} {xs : List Val} (n : Nat), VRs Y μ G vs xs → VRs Y μ G (vs.take n) (xs.take n)
  | _, _, 0, _ => by simpa using VRs.nil
  | _, _, _ + 1, .nil => .nil
  | _, _, n + 1, .cons x y => by simpa using VRs.cons x (VRs.take n y)
theorem VRs.set {v : V} {x : Val} (r : VR Y μ G v x) : ∀ {vs : List V} {xs : List Val} (n : Nat), VRs Y μ G vs xs → VRs Y μ G (vs.set n v) (xs.set n x)
  | _, _, _, .nil => .nil
  | _, _, 0, .cons _ t => .cons r t
  | _, _, n + 1, .cons q t => .cons q (VRs.set r n t)
end

/-- a cell and its place -/
inductive CRl (Y : Ky) (μ : Mp) (H : Hp) (a : Addr) : Cell → Prop
  | lst {vs : List V} {xs : List Val} : H a = some (.lst vs) → VRs Y μ (vis μ H) vs xs → CRl Y μ H a (.lst xs)
  | ins {C dx : Addr} {c : Str} {fs : List (Str × V)} {gs : List (Str × Val)} : Y.cm c = some C → H a = some (.ins C dx fs) → fs.map (·.1) = gs.map (·.1) → VRs Y μ (vis μ H) (fs.map (·.2)) (gs.map (·.2)) → CRl Y μ H a (.ins c gs)
  | dct {ps : List (L2.Key × V)} {kvs : List (L2.Key × Val)} : H a = some (.dK ps) → ps.map (·.1) = kvs.map (·.1) → VRs Y μ (vis μ H) (ps.map (·.2)) (kvs.map (·.2)) → CRl Y μ H a (.dct kvs)
/-- tables of code objects -/
def TbOk (Y : Ky) (μ : Mp) (H : Hp) : Prop := ∀ p ∈ Y.T, ∃ ps : Array Value, H p.1 = some (.tbl ps) ∧ TriplesOk ps.toList ∧ ∀ (pos : Pos) (cv : Value), codeAmong pos ps.toList = some cv → ∃ c, cv = .ref c ∧ vis μ H c = some (LamX.CodeO c p.2)
theorem TbOk.mono {Y : Ky} {μ μ' : Mp} {H H' : Hp} (t : TbOk Y μ H) (s : Same (vis μ H) (vis μ' H')) (e : ∀ p ∈ Y.T, H p.1 ≠ none → H' p.1 = H p.1) : TbOk Y μ' H' := fun p hp => by
  obtain ⟨ps, h1, h2, h3⟩ := t p hp
  refine ⟨ps, (e p hp (by rw [h1]; exact fun z => nomatch z)).trans h1, h2, fun pos cv hc => ?_⟩
  obtain ⟨c, e1, e2⟩ := h3 pos cv hc
  exact ⟨c, e1, s _ _ e2⟩
structure Rel (Y : Ky) (μ : Mp) (h : Mh) (H : Hp) : Prop where
  len : μ.cells.length = h.length
  nd : μ.cells.Nodup
  at_ : ∀ (i : Nat) a c, μ.cells[i]? = some a → h[i]? = some c → CRl Y μ H a c
  src : ∀ p l, μ.src = some (p, l) → SrcOk H p l ∧ p ∉ μ.cells ∧ l ∉ μ.cells
  ex : ∀ a ∈ μ.ex, H a ≠ none ∧ μ.m a = false
  tbm : μ.tb = Y.T.map (·.1)
  tb : TbOk Y μ H
theorem CRl.some {Y : Ky} {μ : Mp} {H : Hp} {a : Addr} {c : Cell} (r : CRl Y μ H a c) : H a ≠ none := by
  cases r with
  | lst e _ => rw [e]; exact fun z => nomatch z
  | ins _ e _ _ => rw [e]; exact fun z => nomatch z
  | dct e _ _ => rw [e]; exact fun z => nomatch z
theorem CRl.ntbl {Y : Ky} {μ : Mp} {H : Hp} {a : Addr} {c : Cell} (r : CRl Y μ H a c) (ps : Array Value) : H a ≠ Option.some (HO.tbl ps) := by
  cases r with
  | lst e _ => rw [e]; exact fun z => nomatch z
  | ins _ e _ _ => rw [e]; exact fun z => nomatch z
  | dct e _ _ => rw [e]; exact fun z => nomatch z
theorem SrcOk.ne {H : Hp} {p l : Addr} (so : SrcOk H p l) : H p ≠ none ∧ H l ≠ none := by
  obtain ⟨_, _, _, _, e1, e2, _⟩ := so
  exact ⟨by rw [e1]; exact fun z => (nomatch z), by rw [e2]; exact fun z => (nomatch z)⟩
theorem Mp.m_cases {μ : Mp} {a : Addr} (q : μ.m a = true) : a ∈ μ.cells ∨ (∃ l, μ.src = some (a, l)) ∨ a ∈ μ.tb := by
  unfold Mp.m at q
  rcases Bool.or_eq_true_iff.mp q with q | q
  rotate_left
  · exact .inr (.inr (of_decide_eq_true q))
  rcases Bool.or_eq_true_iff.mp q with q | q
  · exact .inl (of_decide_eq_true q)
  · cases e : μ.src with
    | none => rw [e] at q; cases q
    | some s =>
      obtain ⟨p, l⟩ := s
      rw [e] at q
      have q := of_decide_eq_true q
      subst q
      exact .inr (.inl ⟨l, rfl⟩)
theorem Mp.k_cases {μ : Mp} {a : Addr} (q : μ.k a = true) : a ∈ μ.ex ∨ ∃ p, μ.src = some (p, a) := by
  unfold Mp.k at q
  rcases Bool.or_eq_true_iff.mp q with q | q
  · exact .inl (of_decide_eq_true q)
  · cases e : μ.src with
    | none => rw [e] at q; cases q
    | some s =>
      obtain ⟨p, l⟩ := s
      rw [e] at q
      have q := of_decide_eq_true q
      subst q
      exact .inr ⟨p, rfl⟩
theorem Rel.good {Y : Ky} {μ : Mp} {h : Mh} {H : Hp} (r : Rel Y μ h H) : Good μ.h H := fun b q => by
  unfold Mp.h at q
  rcases Bool.or_eq_true_iff.mp q with q | q
  · rcases Mp.m_cases q with q | ⟨l, e⟩ | q
    · obtain ⟨i, hi, e⟩ := List.getElem_of_mem q
      have e1 : μ.cells[i]? = some b := by rw [List.getElem?_eq_getElem hi, e]
      have hl : i < h.length := by rw [← r.len]; exact hi
      exact (r.at_ i b h[i] e1 (List.getElem?_eq_getElem hl)).some
    · exact (SrcOk.ne (r.src _ _ e).1).1
    · rw [r.tbm] at q
      obtain ⟨p, hp, rfl⟩ := List.mem_map.mp q
      obtain ⟨ps, h1, _⟩ := r.tb p hp
      rw [h1]; exact fun z => nomatch z
  · rcases Mp.k_cases q with q | ⟨p, e⟩
    · exact (r.ex b q).1
    · exact (SrcOk.ne (r.src _ _ e).1).2
theorem Mp.m_cell {μ : Mp} {n : Nat} {a : Addr} (e : μ.cells[n]? = some a) : μ.m a = true := by
  unfold Mp.m
  rw [decide_eq_true (List.mem_of_getElem? e)]; rfl
theorem Mp.m_tb {μ : Mp} {a : Addr} (e : a ∈ μ.tb) : μ.m a = true := by
  unfold Mp.m
  rw [decide_eq_true e]; simp
theorem Mp.m_src {μ : Mp} {p l : Addr} (e : μ.src = some (p, l)) : μ.m p = true ∧ μ.k l = true := by
  unfold Mp.m Mp.k
  rw [e]; simp
theorem Mp.h_m {μ : Mp} {a : Addr} (e : μ.m a = true) : μ.h a = true := by unfold Mp.h; rw [e]; rfl
theorem Mp.m_h {μ : Mp} {a : Addr} (e : μ.h a = false) : μ.m a = false := by
  unfold Mp.h at e
  exact (Bool.or_eq_false_iff.mp e).1
/-- a step on: more cells; what is not hidden stays -/
structure Ext (μ μ' : Mp) (H H' : Hp) : Prop where
  cells : ∀ (n : Nat) a, μ.cells[n]? = some a → μ'.cells[n]? = some a
  src : μ'.src = μ.src
  ex : μ'.ex = μ.ex
  freshm : ∀ a, μ'.m a = true → μ.m a = true ∨ H a = none
  keep : ∀ b o, μ.m b = false → H b = some o → H' b = some o
  there : ∀ b, H b ≠ none → H' b ≠ none
  tb : μ'.tb = μ.tb
section
variable {Y : Ky} {μ μ' μ'' : Mp} {H H' H'' : Hp} {h h' : Mh}
theorem Ext.refl : Ext μ μ H H := ⟨fun _ _ e => e, rfl, rfl, fun _ q => .inl q, fun _ _ _ e => e, fun _ q => q, rfl⟩
theorem Ext.fresh (a : Ext μ μ' H H') (c : Addr) (q : μ'.h c = true) : μ.h c = true ∨ H c = none := by
  unfold Mp.h at q ⊢
  rcases Bool.or_eq_true_iff.mp q with q | q
  · rcases a.freshm c q with q | q
    · exact .inl (by rw [q]; rfl)
    · exact .inr q
  · refine .inl ?_
    have : μ'.k c = μ.k c := by unfold Mp.k; rw [a.src, a.ex]
    rw [← this, q]; simp
theorem Ext.nm (a : Ext μ μ' H H') {b : Addr} (n : μ.m b = false) (e : H b ≠ none) : μ'.m b = false := by
  cases q : μ'.m b with
  | false => rfl
  | true =>
    rcases a.freshm b q with q | q
    · rw [q] at n; cases n
    · exact absurd q e
theorem Ext.trans (a : Ext μ μ' H H') (b : Ext μ' μ'' H' H'') : Ext μ μ'' H H'' where
  cells := fun n c e => b.cells n c (a.cells n c e)
  src := b.src.trans a.src
  ex := b.ex.trans a.ex
  freshm := fun c q => by
    rcases b.freshm c q with q | q
    · exact a.freshm c q
    · refine .inr ?_
      cases e : H c with
      | none => rfl
      | some o => exact absurd q (a.there c (by rw [e]; exact fun z => nomatch z))
  keep := fun c o n e => b.keep c o (a.nm n (by rw [e]; exact fun z => nomatch z)) (a.keep c o n e)
  there := fun c q => b.there c (a.there c q)
  tb := b.tb.trans a.tb
theorem Ext.vis (a : Ext μ μ' H H') : Same (vis μ H) (vis μ' H') := hid_mono fun b o n e => by
  refine ⟨?_, a.keep b o (Mp.m_h n) e⟩
  cases q : μ'.h b with
  | false => rfl
  | true =>
    rcases a.fresh b q with q | q
    · rw [q] at n; cases n
    · rw [q] at e; cases e
theorem Ext.le (a : Ext μ μ' H H') : Le μ μ' (Sx.vis μ H) (Sx.vis μ' H') := ⟨a.cells, fun s e => a.src.trans e, a.vis⟩
/-- the heap grows, the cells stay -/
theorem Ext.same (e : Same H H') : Ext μ μ H H' := ⟨fun _ _ e => e, rfl, rfl, fun _ q => .inl q, fun b o _ q => e b o q, fun b q => by
  cases r : H b with
  | none => exact absurd r q
  | some o => rw [e b o r]; exact fun z => (nomatch z), rfl⟩
theorem CRl.mono {a : Addr} {c : Cell} (l : Le μ μ' (Sx.vis μ H) (Sx.vis μ' H')) (e : H' a = H a) (r : CRl Y μ H a c) : CRl Y μ' H' a c := by
  cases r with
  | lst q v => exact .lst (e.trans q) (v.mono l)
  | ins c q k v => exact .ins c (e.trans q) k (v.mono l)
  | dct q k v => exact .dct (e.trans q) k (v.mono l)
theorem SrcOk.same {p l : Addr} (s : Same H H') (so : SrcOk H p l) : SrcOk H' p l := by
  obtain ⟨ns, k, r, x, e1, e2, q⟩ := so
  exact ⟨ns, k, r, x, s _ _ e1, s _ _ e2, q⟩
theorem Same.eq {a : Addr} (s : Same H H') (n : H a ≠ none) : H' a = H a := by
  cases e : H a with
  | none => exact absurd e n
  | some o => exact s a o e
theorem Rel.same (r : Rel Y μ h H) (s : Same H H') : Rel Y μ h H' where
  len := r.len
  nd := r.nd
  at_ := fun i a c e1 e2 => (r.at_ i a c e1 e2).mono (Ext.same s).le (Same.eq s (r.at_ i a c e1 e2).some)
  src := fun p l e => ⟨SrcOk.same s (r.src p l e).1, (r.src p l e).2⟩
  ex := fun a q => ⟨by rw [Same.eq s (r.ex a q).1]; exact (r.ex a q).1, (r.ex a q).2⟩
  tbm := r.tbm
  tb := r.tb.mono (Ext.same s).vis fun p _ n => Same.eq s n
end

/-! ### what is wanted -/
/-- an exception: its class, its attributes -/
structure Exn where
  c : Str
  ks : List Str
  xs : List Val
abbrev VQ := Val → Mh → Prop
abbrev XQ := Exn → Mh → Prop
abbrev ME := Me → Mh → VQ → XQ → Prop
abbrev MT := Me → Mh → (Bool → Mh → Prop) → XQ → Prop
abbrev MA := Me → Mh → (List Val → Mh → Prop) → XQ → Prop
structure MD where
  nx : Me → Mh → Prop
  rt : VQ
  bk : Me → Mh → Prop := fun _ _ => False
  ct : Me → Mh → Prop := fun _ _ => False
  xc : Exn → Me → Mh → Prop := fun _ _ _ => False
abbrev MS := Me → Mh → MD → Prop
/-- exceptions of the hand layer that stand for e: the class at C, the attributes in the dict at d -/
def XR (Y : Ky) (μ : Mp) (G : Hp) (e : Exn) (cls : Value) (d : Option Addr) : Prop := ∃ (C : Addr) (dx : Addr) (fs : List (Str × V)), Y.cm e.c = some C ∧ cls = .ref C ∧ d = some dx ∧ G dx = some (.xd fs) ∧ e.ks = fs.map (·.1) ∧ VRs Y μ G (fs.map (·.2)) e.xs
def Kq (Y : Ky) (μ : Mp) (H : Hp) (Q : VK) : VQ := fun x h' => ∀ (μ' : Mp) (v : V) (H' : Hp), Ext μ μ' H H' → Rel Y μ' h' H' → VR Y μ' (vis μ' H') v x → Q v H'
def Kx (Y : Ky) (μ : Mp) (H : Hp) (W : XK) : XQ := fun e h' => ∀ (μ' : Mp) (cls : Value) (d : Option Addr) (H' : Hp), Ext μ μ' H H' → Rel Y μ' h' H' → XR Y μ' (vis μ' H') e cls d → W cls d H'
structure SR (Y : Ky) (μ : Mp) (H : Hp) (σ : St) (env : Me) : Prop where
  len : σ.length = env.length
  at_ : ∀ (i : Nat) x, env[i]? = some (some x) → ∃ v, σ[i]? = some (some v) ∧ VR Y μ (vis μ H) v x
structure Ok (Y : Ky) (μ : Mp) (h : Mh) (H : Hp) (σ : St) (env : Me) : Prop where
  r : Rel Y μ h H
  s : SR Y μ H σ env
section
variable {Y : Ky} {μ μ' : Mp} {H H' : Hp} {h h' : Mh} {σ : St} {env : Me} {Q : VK} {W : XK}
theorem SR.mono (e : Ext μ μ' H H') (s : SR Y μ H σ env) : SR Y μ' H' σ env := ⟨s.len, fun i x q => let ⟨v, a, b⟩ := s.at_ i x q; ⟨v, a, b.mono e.le⟩⟩
theorem Ok.go (z : Ok Y μ h H σ env) (e : Ext μ μ' H H') (r : Rel Y μ' h' H') : Ok Y μ' h' H' σ env := ⟨r, z.s.mono e⟩
theorem Kq.after (e : Ext μ μ' H H') {x : Val} (k : Kq Y μ H Q x h') : Kq Y μ' H' Q x h' := fun μ2 v H2 e2 r rv => k μ2 v H2 (e.trans e2) r rv
theorem Kx.after (e : Ext μ μ' H H') {x : Exn} (k : Kx Y μ H W x h') : Kx Y μ' H' W x h' := fun μ2 c d H2 e2 r rv => k μ2 c d H2 (e.trans e2) r rv
theorem Kq.here {x : Val} {v : V} (k : Kq Y μ H Q x h) (r : Rel Y μ h H) (rv : VR Y μ (vis μ H) v x) : Q v H := k μ v H .refl r rv
theorem SR.set {v : V} {x : Val} (i : Nat) (s : SR Y μ H σ env) (r : VR Y μ (vis μ H) v x) : SR Y μ H (σ.set i (some v)) (env.set i (some x)) := by
  refine ⟨by simp [s.len], fun j y q => ?_⟩
  by_cases e : i = j
  · subst e
    by_cases l : i < env.length
    · rw [List.getElem?_set_self l] at q
      cases q
      exact ⟨v, by rw [List.getElem?_set_self (by rw [s.len]; exact l)], r⟩
    · rw [List.getElem?_eq_none (by simpa using l)] at q; cases q
  · rw [List.getElem?_set_ne e] at q ⊢
    exact s.at_ j y q
theorem SR.none {u : Option V} (i : Nat) (s : SR Y μ H σ env) : SR Y μ H (σ.set i u) (env.set i none) := by
  refine ⟨by simp [s.len], fun j y q => ?_⟩
  by_cases e : i = j
  · subst e
    by_cases l : i < env.length
    · rw [List.getElem?_set_self l] at q; cases q
    · rw [List.getElem?_eq_none (by simpa using l)] at q; cases q
  · rw [List.getElem?_set_ne e] at q ⊢
    exact s.at_ j y q
def wipeM (env : Me) : List Nat → Me
  | [] => env
  | v :: vs => (wipeM env vs).set v none
theorem SR.wipe (s : SR Y μ H σ env) : ∀ vs : List Nat, SR Y μ H (wipe σ vs) (wipeM env vs)
  | [] => s
  | v :: vs => (s.wipe vs).none v
end
/-- a new thing that is not a cell: the visible heap grows -/
theorem new_vis {Y : Ky} {μ : Mp} {h : Mh} {H : Hp} {p : Addr} {o : HO} (r : Rel Y μ h H) (n : H p = none) : vis μ (upd H p o) p = some o ∧ Same (vis μ H) (vis μ (upd H p o)) := by
  refine ⟨hid_of ?_ upd_same, (Ext.same (same_new n)).vis⟩
  cases q : μ.h p with
  | false => rfl
  | true => exact absurd n (r.good p q)
theorem Kq.new {Y : Ky} {μ : Mp} {h : Mh} {H : Hp} {Q : VK} {p : Addr} {o : HO} {x : Val} (k : Kq Y μ H Q x h) (r : Rel Y μ h H) (n : H p = none)
    (rv : vis μ (upd H p o) p = some o → Same (vis μ H) (vis μ (upd H p o)) → VR Y μ (vis μ (upd H p o)) (.ref p) x) : Q (.ref p) (upd H p o) :=
  k μ _ _ (Ext.same (same_new n)) (r.same (same_new n)) (rv (new_vis r n).1 (new_vis r n).2)
theorem VRs.sm {Y : Ky} {μ : Mp} {G G' : Hp} {vs : List V} {xs : List Val} (s : Same G G') (r : VRs Y μ G vs xs) : VRs Y μ G' vs xs := r.mono ⟨fun _ _ e => e, fun _ e => e, s⟩
theorem VR.sm {Y : Ky} {μ : Mp} {G G' : Hp} {v : V} {x : Val} (s : Same G G') (r : VR Y μ G v x) : VR Y μ G' v x := r.mono ⟨fun _ _ e => e, fun _ e => e, s⟩

/-! ### the judgements -/
def SE (Y : Ky) (W : WX) (te : TE) (m : ME) : Prop := ∀ (μ : Mp) (env : Me) (h : Mh) (σ : St) (H : Hp) (Q : VK) (q : VQ) (x : XQ), Ok Y μ h H σ env → m env h q x →
  (∀ v h', q v h' → Kq Y μ H Q v h') → (∀ e h', x e h' → Kx Y μ H (fun c d H' => W c d σ H') e h') → te σ H Q
def ST (Y : Ky) (W : WX) (tt : TT) (m : MT) : Prop := ∀ (μ : Mp) (env : Me) (h : Mh) (σ : St) (H : Hp) (Q : Bool → Hp → Prop) (q : Bool → Mh → Prop) (x : XQ), Ok Y μ h H σ env → m env h q x →
  (∀ b h', q b h' → ∀ μ' H', Ext μ μ' H H' → Rel Y μ' h' H' → Q b H') → (∀ e h', x e h' → Kx Y μ H (fun c d H' => W c d σ H') e h') → tt σ H Q
def SA (Y : Ky) (W : WX) (ta : TA) (m : MA) : Prop := ∀ (μ : Mp) (env : Me) (h : Mh) (σ : St) (H : Hp) (Q : List V → Hp → Prop) (q : List Val → Mh → Prop) (x : XQ), Ok Y μ h H σ env → m env h q x →
  (∀ xs h', q xs h' → ∀ μ' vs H', Ext μ μ' H H' → Rel Y μ' h' H' → VRs Y μ' (vis μ' H') vs xs → Q vs H') → (∀ e h', x e h' → Kx Y μ H (fun c d H' => W c d σ H') e h') → ta σ H Q
structure SD (Y : Ky) (W : WX) (μ : Mp) (H : Hp) (D : Ends) (d : MD) : Prop where
  nx : ∀ env' h', d.nx env' h' → ∀ μ' σ' H', Ext μ μ' H H' → Ok Y μ' h' H' σ' env' → D.nx σ' H'
  rt : ∀ v h', d.rt v h' → Kq Y μ H D.rt v h'
  bk : ∀ env' h', d.bk env' h' → ∀ μ' σ' H', Ext μ μ' H H' → Ok Y μ' h' H' σ' env' → D.bk σ' H'
  ct : ∀ env' h', d.ct env' h' → ∀ μ' σ' H', Ext μ μ' H H' → Ok Y μ' h' H' σ' env' → D.ct σ' H'
  xc : ∀ e env' h', d.xc e env' h' → ∀ (μ' : Mp) (σ' : St) (H' : Hp) (cls : Value) (dx : Option Addr), Ext μ μ' H H' → Ok Y μ' h' H' σ' env' → XR Y μ' (vis μ' H') e cls dx → W cls dx σ' H'
theorem SD.after {Y : Ky} {W : WX} {μ μ' : Mp} {H H' : Hp} {D : Ends} {d : MD} (e : Ext μ μ' H H') (s : SD Y W μ H D d) : SD Y W μ' H' D d :=
  ⟨fun a b c μ2 σ2 H2 e2 z => s.nx a b c μ2 σ2 H2 (e.trans e2) z, fun a b c => (s.rt a b c).after e, fun a b c μ2 σ2 H2 e2 z => s.bk a b c μ2 σ2 H2 (e.trans e2) z, fun a b c μ2 σ2 H2 e2 z => s.ct a b c μ2 σ2 H2 (e.trans e2) z, fun a b c q μ2 σ2 H2 cls dx e2 z => s.xc a b c q μ2 σ2 H2 cls dx (e.trans e2) z⟩
theorem SD.kx {Y : Ky} {W : WX} {μ : Mp} {H : Hp} {D : Ends} {d : MD} {h : Mh} {σ : St} {env : Me} (s : SD Y W μ H D d) (z : Ok Y μ h H σ env) : ∀ e h', d.xc e env h' → Kx Y μ H (fun c d H' => W c d σ H') e h' :=
  fun e h' q μ' cls dx H' e' r xr => s.xc e env h' q μ' σ H' cls dx e' (z.go e' r) xr
def SS (Y : Ky) (W : WX) (t : TS) (m : MS) : Prop := ∀ (μ : Mp) (env : Me) (h : Mh) (σ : St) (H : Hp) (D : Ends) (d : MD), Ok Y μ h H σ env → m env h d → SD Y W μ H D d → t D σ H
structure DE (X : Cx) (Y : Ky) (W : WX) (e : Expr) (m : ME) : Prop where
  go : ∃ te, PE X e te ∧ SE Y W te m
structure DT (X : Cx) (Y : Ky) (W : WX) (e : Expr) (m : MT) : Prop where
  go : ∃ te, PT X e te ∧ ST Y W te m
structure DW (X : Cx) (Y : Ky) (W : WX) (e : Expr) (m : MT) : Prop where
  go : ∃ te, PW X e te ∧ ST Y W te m
structure DA (X : Cx) (Y : Ky) (W : WX) (es : List Expr) (m : MA) : Prop where
  go : ∃ te, PA X es te ∧ SA Y W te m
structure DS (X : Cx) (Y : Ky) (W : WX) (st : Stmt) (m : MS) : Prop where
  go : ∃ te, PS X st te ∧ SS Y W te m
structure DSs (X : Cx) (Y : Ky) (W : WX) (st : List Stmt) (m : MS) : Prop where
  go : ∃ te, PSs X st te ∧ SS Y W te m
end Sx

end
section
set_option Elab.async false
set_option linter.all false
set_option maxRecDepth 100000
set_option maxHeartbeats 2000000
/-! SX2: expressions -/
namespace Sx
open PySem L2 Cl RZ

/-! ### reading -/
def lstOf (h : Mh) : Val → Option (List Val)
  | .lst xs => some xs
  | .ref n => match h[n]? with
    | some (.lst xs) => some xs
    | _ => none
  | _ => none
/-- a list or a tuple -/
def anyOf (h : Mh) : Val → Option (List Val)
  | .tup xs => some xs
  | v => lstOf h v
mutual
def datV : Val → Option PyData
  | .non => some .none
  | .bl b => some (.bool b)
  | .int i => some (.int i)
  | .str x => some (.str x)
  | .lst xs => (datVs xs).map .list
  | .tup xs => (datVs xs).map .tuple
  | _ => none
def datVs : List Val → Option (List PyData)
  | [] => some []
  | x :: xs => match datV x, datVs xs with
    | some d, some ds => some (d :: ds)
    | _, _ => none
end
def datOf (h : Mh) : Val → Option PyData
  | .ref n => match h[n]? with
    | some (.lst xs) => (datVs xs).map .list
    | _ => none
  | v => datV v
section
variable {Y : Ky} {μ : Mp} {h : Mh} {H : Hp} {U : V} {v : Val} {xs : List Val} {d : PyData}
theorem rd_lst (r : Rel Y μ h H) (rv : VR Y μ (vis μ H) U v) (e : lstOf h v = some xs) : ∃ a vs, U = .ref a ∧ H a = some (.lst vs) ∧ VRs Y μ (vis μ H) vs xs := by
  cases rv with
  | lst q t => cases e; exact ⟨_, _, rfl, hid_le _ _ q, t⟩
  | @ref n a q =>
    unfold lstOf at e
    cases hn : h[n]? with
    | none => simp only [hn] at e; cases e
    | some c =>
      simp only [hn] at e
      have := r.at_ n a c q hn
      cases this with
      | lst e1 t => cases e; exact ⟨_, _, rfl, e1, t⟩
      | ins _ _ _ _ => cases e
      | dct _ _ _ => cases e
  | non => cases e
  | bl => cases e
  | int => cases e
  | str => cases e
  | ty => cases e
  | tup => cases e
  | obj => cases e
  | src => cases e
  | cls => cases e
theorem rd_tup (rv : VR Y μ (vis μ H) U (.tup xs)) : ∃ a vs, U = .ref a ∧ SqT Y.K H a vs ∧ VRs Y μ (vis μ H) vs xs := by
  cases rv with
  | tup q t => exact ⟨_, _, rfl, sqT_mono hid_le q, t⟩
theorem rd_any (r : Rel Y μ h H) (rv : VR Y μ (vis μ H) U v) (e : anyOf h v = some xs) : ∃ a vs, U = .ref a ∧ (H a = some (.lst vs) ∨ SqT Y.K H a vs) ∧ VRs Y μ (vis μ H) vs xs := by
  have gen : lstOf h v = some xs → ∃ a vs, U = .ref a ∧ (H a = some (.lst vs) ∨ SqT Y.K H a vs) ∧ VRs Y μ (vis μ H) vs xs := fun e =>
    let ⟨a, vs, e1, e2, t⟩ := rd_lst r rv e
    ⟨a, vs, e1, .inl e2, t⟩
  cases v with
  | tup ys =>
    cases e
    obtain ⟨a, vs, e1, e2, t⟩ := rd_tup rv
    exact ⟨a, vs, e1, .inr e2, t⟩
  | non => exact gen e
  | bl => exact gen e
  | int => exact gen e
  | str => exact gen e
  | ty => exact gen e
  | lst => exact gen e
  | obj => exact gen e
  | src => exact gen e
  | cls => exact gen e
  | ref => exact gen e
mutual
theorem rd_dat : ∀ {U : V} {v : Val} {d : PyData}, VR Y μ (vis μ H) U v → datV v = some d → Dp Y.K H U d
  | _, _, d, .non, e => by cases e; exact .non
  | _, _, d, .bl b, e => by cases e; exact .bl b
  | _, _, d, .int b, e => by cases e; exact .int b
  | _, _, d, .str b, e => by cases e; exact .str b
  | _, _, d, .lst (xs := xs) q t, e => by
    unfold datV at e
    cases hd : datVs xs with
    | none => rw [hd] at e; cases e
    | some ds => rw [hd] at e; cases e; exact .lst (SqL.of (hid_le _ _ q)) (rd_dats t hd)
  | _, _, d, .tup (xs := xs) q t, e => by
    unfold datV at e
    cases hd : datVs xs with
    | none => rw [hd] at e; cases e
    | some ds => rw [hd] at e; cases e; exact .tup (sqT_mono hid_le q) (rd_dats t hd)
  | _, _, d, .ty b, e => by cases e
  | _, _, d, .obj _ _ _, e => by cases e
  | _, _, d, .ref _, e => by cases e
  | _, _, d, .src _, e => by cases e
  | _, _, d, .cls _, e => by cases e
theorem rd_dats : ∀ {vs : List V} {xs : List Val} {ds : List PyData}, VRs Y μ (vis μ H) vs xs → datVs xs = some ds → DpAll Y.K H vs ds
  | _, _, ds, .nil, e => by unfold datVs at e; cases e; exact .nil
  | _, _, ds, .cons (x := x) (xs := xs) a b, e => by
    unfold datVs at e
    cases h1 : datV x with
    | none => simp only [h1] at e; cases e
    | some d =>
      cases h2 : datVs xs with
      | none => simp only [h1, h2] at e; cases e
      | some es =>
        simp only [h1, h2] at e
        cases e
        exact .cons (rd_dat a h1) (rd_dats b h2)
end
theorem rd_datOf (r : Rel Y μ h H) (rv : VR Y μ (vis μ H) U v) (e : datOf h v = some d) : Dp Y.K H U d := by
  cases v with
  | ref n =>
    unfold datOf at e
    cases hn : h[n]? with
    | none => simp only [hn] at e; cases e
    | some c =>
      simp only [hn] at e
      cases c with
      | ins => cases e
      | dct => cases e
      | lst xs =>
        cases hd : datVs xs with
        | none => simp only [hd] at e; cases e
        | some ds =>
          simp only [hd] at e
          cases e
          obtain ⟨a, vs, e1, e2, t⟩ := rd_lst (xs := xs) r rv (by unfold lstOf; simp only [hn])
          subst e1
          exact .lst (SqL.of e2) (rd_dats t hd)
  | non => exact rd_dat rv e
  | bl => exact rd_dat rv e
  | int => exact rd_dat rv e
  | str => exact rd_dat rv e
  | ty => exact rd_dat rv e
  | lst => exact rd_dat rv e
  | tup => exact rd_dat rv e
  | obj => exact rd_dat rv e
  | src => exact rd_dat rv e
  | cls => exact rd_dat rv e
end

/-! ### names, constants -/
def eVar (i : Nat) : ME := fun env h q _ => match env[i]? with
  | some (some v) => q v h
  | _ => False
def eC (v : Val) : ME := fun _ h q _ => q v h
def cV : V → Val
  | .non => .non | .bl b => .bl b | .int i => .int i | .str x => .str x | .ty n => .ty n | _ => .non
section
variable {X : Cx} {Y : Ky} {W : WX}
theorem se_var {i : Nat} : SE Y W (tVar i) (eVar i) := fun μ env h σ H Q q x z hm kq kx => by
  unfold eVar at hm
  cases e : env[i]? with
  | none => rw [e] at hm; exact hm.elim
  | some o =>
    cases o with
    | none => rw [e] at hm; exact hm.elim
    | some v =>
      rw [e] at hm
      obtain ⟨u, e1, rv⟩ := z.s.at_ i v e
      exact ⟨u, e1, (kq _ _ hm).here z.r rv⟩
theorem se_c {v : V} {u : Val} (hv : ∀ μ G, VR Y μ G v u) : SE Y W (tC v) (eC u) := fun μ env h σ H Q q x z hm kq kx => (kq _ _ hm).here z.r (hv _ _)
theorem de_var (i : Nat) {x : Str} {pos : Pos} (hN : X.N[i]? = some x := by rfl) (hv : Vis X.env.scope x := by first | exact Or.inl rfl | exact Or.inr (Or.inl rfl) | exact Or.inr (Or.inr rfl)) (hd : (x == ("__debug__" : Str)) = false := by decide)
    (hcd : (x == ("__classdict__" : Str)) = false := by decide) : DE X Y W (.Name x pos) (eVar i) := ⟨_, pe_var hN hv hd hcd, se_var⟩
theorem de_int {i j pos} : DE X Y W (.Constant (.int i) j pos) (eC (.int i)) := ⟨_, pe_int, se_c fun _ _ => .int _⟩
theorem de_str {i j pos} : DE X Y W (.Constant (.str i) j pos) (eC (.str i)) := ⟨_, pe_str, se_c fun _ _ => .str _⟩
theorem de_bl {i j pos} : DE X Y W (.Constant (.bool i) j pos) (eC (.bl i)) := ⟨_, pe_bl, se_c fun _ _ => .bl _⟩
theorem de_non {j pos} : DE X Y W (.Constant .none j pos) (eC .non) := ⟨_, pe_non, se_c fun _ _ => .non⟩
theorem de_gi {x : Str} {i : Int} {pos : Pos} (hg : Gl X x) (h : GI X.mg x i) (hd : (x == ("__debug__" : Str)) = false := by decide) : DE X Y W (.Name x pos) (eC (.int i)) := ⟨_, pe_gi hg h hd, se_c fun _ _ => .int _⟩
theorem de_gs {x : Str} {i : Str} {pos : Pos} (hg : Gl X x) (h : GS X.mg x i) (hd : (x == ("__debug__" : Str)) = false := by decide) : DE X Y W (.Name x pos) (eC (.str i)) := ⟨_, pe_gs hg h hd, se_c fun _ _ => .str _⟩
theorem de_ty {x : Str} {n : String} {u : Value} {pos : Pos} (hg : Gl X x) (hm : X.mg x = none) (hv : bootBuiltins x = some u) (r : RelV (.ty n) u) (hn : x ≠ "__name__" := by decide) (hd : (x == ("__debug__" : Str)) = false := by decide) :
    DE X Y W (.Name x pos) (eC (.ty n)) := ⟨_, pe_bltn hg hm hv r hn hd, se_c fun _ _ => .ty _⟩
end

/-! ### operators -/
abbrev MO := Val → Val → Mh → VQ → Prop
abbrev MU := Val → Mh → VQ → Prop
abbrev MC := List Val → Mh → VQ → Prop
def SO (Y : Ky) (r : R2) (f : MO) : Prop := ∀ (μ : Mp) (h : Mh) (H : Hp) (U V' : V) (u v : Val) (Q : VK) (q : VQ), Rel Y μ h H → VR Y μ (vis μ H) U u → VR Y μ (vis μ H) V' v → f u v h q → (∀ v h', q v h' → Kq Y μ H Q v h') → r U V' H Q
def SU (Y : Ky) (r : V → Hp → VK → Prop) (f : MU) : Prop := ∀ (μ : Mp) (h : Mh) (H : Hp) (U : V) (u : Val) (Q : VK) (q : VQ), Rel Y μ h H → VR Y μ (vis μ H) U u → f u h q → (∀ v h', q v h' → Kq Y μ H Q v h') → r U H Q
def SC (Y : Ky) (r : List V → Hp → VK → Prop) (f : MC) : Prop := ∀ (μ : Mp) (h : Mh) (H : Hp) (Us : List V) (us : List Val) (Q : VK) (q : VQ), Rel Y μ h H → VRs Y μ (vis μ H) Us us → f us h q → (∀ v h', q v h' → Kq Y μ H Q v h') → r Us H Q
def eOp (f : MO) (a b : ME) : ME := fun env h q x => a env h (fun u h1 => b env h1 (fun v h2 => f u v h2 q) x) x
def eUn (f : MU) (a : ME) : ME := fun env h q x => a env h (fun u h1 => f u h1 q) x
section
variable {X : Cx} {Y : Ky} {W : WX} {ta tb tc : TE} {ma mb mc : ME}
theorem se_op {r : R2} {f : MO} (o : SO Y r f) (a : SE Y W ta ma) (b : SE Y W tb mb) : SE Y W (tOp r ta tb) (eOp f ma mb) := fun μ env h σ H Q q x z hm kq kx =>
  a μ env h σ H _ _ x z hm (fun u h1 hb μ1 U H1 e1 r1 v1 => b μ1 env h1 σ H1 _ _ x (z.go e1 r1) hb (fun v h2 hf μ2 V' H2 e2 r2 v2 =>
    o μ2 h2 H2 U V' u v Q q r2 (v1.mono e2.le) v2 hf fun v h' k => (kq v h' k).after (e1.trans e2)) fun e h' k => (kx e h' k).after e1) kx
theorem se_un {r : V → Hp → VK → Prop} {f : MU} (o : SU Y r f) (a : SE Y W ta ma) : SE Y W (tUn r ta) (eUn f ma) := fun μ env h σ H Q q x z hm kq kx =>
  a μ env h σ H _ _ x z hm (fun u h1 hf μ1 U H1 e1 r1 v1 => o μ1 h1 H1 U u Q q r1 v1 hf fun v h' k => (kq v h' k).after e1) kx
/-- a binary operator that keeps to f -/
structure OpD (X : Cx) (Y : Ky) (g : Value → Value → Sem Value) (f : MO) : Prop where
  go : ∃ r, OpR X g r ∧ SO Y r f
structure IxD (X : Cx) (Y : Ky) (f : MO) : Prop where
  go : ∃ r, IxR X r ∧ SO Y r f
structure UnD (X : Cx) (Y : Ky) (g : Value → Sem Value) (f : MU) : Prop where
  go : ∃ r, UnR X g r ∧ SU Y r f
structure CaD (X : Cx) (Y : Ky) (g : Value) (f : MC) : Prop where
  go : ∃ r, CallR X g r ∧ SC Y r f
variable {a b c : Expr} {pos : Pos}
theorem de_op {op : Operator} {f : MO} (o : OpD X Y (binaryOp op) f) (ha : DE X Y W a ma) (hb : DE X Y W b mb) : DE X Y W (.BinOp a op b pos) (eOp f ma mb) := by
  obtain ⟨r, o1, o2⟩ := o; obtain ⟨ta, a1, a2⟩ := ha; obtain ⟨tb, b1, b2⟩ := hb
  exact ⟨_, pe_op o1 a1 b1, se_op o2 a2 b2⟩
theorem de_un {op : UnaryOp} {f : MU} (o : UnD X Y (unaryOp op) f) (ha : DE X Y W a ma) : DE X Y W (.UnaryOp op a pos) (eUn f ma) := by
  obtain ⟨r, o1, o2⟩ := o; obtain ⟨ta, a1, a2⟩ := ha
  exact ⟨_, pe_un o1 a1, se_un o2 a2⟩
theorem de_cmp {op : CmpOp} {f : MO} (o : OpD X Y (compareOp op) f) (ha : DE X Y W a ma) (hb : DE X Y W b mb) (hm : behindInMarks op b = false) : DE X Y W (.Compare a [op] [b] pos) (eOp f ma mb) := by
  obtain ⟨r, o1, o2⟩ := o; obtain ⟨ta, a1, a2⟩ := ha; obtain ⟨tb, b1, b2⟩ := hb
  exact ⟨_, pe_cmpR o1 a1 b1 hm, se_op o2 a2 b2⟩
theorem de_ix {f : MO} (o : IxD X Y f) (ha : DE X Y W a ma) (hb : DE X Y W b mb) (hs : PlainIx b) : DE X Y W (.Subscript a b pos) (eOp f ma mb) := by
  obtain ⟨r, o1, o2⟩ := o; obtain ⟨ta, a1, a2⟩ := ha; obtain ⟨tb, b1, b2⟩ := hb
  exact ⟨_, pe_ix o1 a1 b1 hs, se_op o2 a2 b2⟩
/-- by a truth value -/
def onB (v : Val) (T F : Prop) : Prop := match v with
  | .bl true => T
  | .bl false => F
  | _ => False
/-- a op b op' c -/
def eChain (f g : MO) (a b c : ME) : ME := fun env h q x => a env h (fun u h1 => b env h1 (fun v h2 => f u v h2 fun w h3 => onB w (c env h3 (fun y h4 => g v y h4 q) x) (q (.bl false) h3)) x) x
theorem se_chain {r r' : R2} {f g : MO} (o : SO Y r f) (o' : SO Y r' g) (a : SE Y W ta ma) (b : SE Y W tb mb) (c : SE Y W tc mc) : SE Y W (tChain r r' ta tb tc) (eChain f g ma mb mc) := fun μ env h σ H Q q x z hm kq kx =>
  a μ env h σ H _ _ x z hm (fun u h1 hb μ1 U H1 e1 r1 v1 => b μ1 env h1 σ H1 _ _ x (z.go e1 r1) hb (fun v h2 hf μ2 V' H2 e2 r2 v2 =>
    o μ2 h2 H2 U V' u v _ _ r2 (v1.mono e2.le) v2 hf fun w h3 k μ3 Z H3 e3 r3 v3 => by
      cases v3 with
      | bl k3 =>
        refine ⟨k3, rfl, ?_⟩
        cases k3 with
        | true =>
          rw [if_pos rfl]
          have e13 := (e1.trans e2).trans e3
          exact c μ3 env h3 σ H3 _ _ x (z.go e13 r3) k (fun y h4 hg μ4 Yv H4 e4 r4 v4 => o' μ4 h4 H4 V' Yv v y Q q r4 ((v2.mono e3.le).mono e4.le) v4 hg fun w h' k => (kq w h' k).after (e13.trans e4)) fun e h' k => (kx e h' k).after e13
        | false =>
          rw [if_neg Bool.false_ne_true]
          exact (kq _ _ k) μ3 _ H3 ((e1.trans e2).trans e3) r3 (.bl false)
      | _ => exact k.elim) fun e h' k => (kx e h' k).after e1) kx
end
end Sx

end
section
set_option Elab.async false
set_option linter.all false
set_option maxRecDepth 100000
set_option maxHeartbeats 2000000
/-! SX3: operators on values, tests -/
namespace Sx
open PySem L2 Cl RZ
section
variable {X : Cx} {Y : Ky} {W : WX}

def oInt (g : Int → Int → Val) : MO := fun u v h q => match u, v with
  | .int i, .int j => q (g i j) h
  | _, _ => False
theorem so_int {g : Int → Int → V} {g' : Int → Int → Val} (hg : ∀ i j μ G, VR Y μ G (g i j) (g' i j)) : SO Y (rI0 g) (oInt g') := fun μ h H U V' u v Q q r a b hf kq => by
  cases a <;> first | exact hf.elim | skip
  cases b <;> first | exact hf.elim | skip
  exact ⟨_, _, rfl, rfl, (kq _ _ hf).here r (hg _ _ _ _)⟩
def oIntC (C : Int → Int → Prop) (g : Int → Int → Val) : MO := fun u v h q => match u, v with
  | .int i, .int j => C i j ∧ q (g i j) h
  | _, _ => False
theorem so_intC {C : Int → Int → Prop} {g : Int → Int → V} {g' : Int → Int → Val} (hg : ∀ i j μ G, VR Y μ G (g i j) (g' i j)) : SO Y (rI C g) (oIntC C g') := fun μ h H U V' u v Q q r a b hf kq => by
  cases a <;> first | exact hf.elim | skip
  cases b <;> first | exact hf.elim | skip
  exact ⟨_, _, rfl, rfl, hf.1, (kq _ _ hf.2).here r (hg _ _ _ _)⟩
abbrev oSub : MO := oInt fun i j => .int (i - j)
abbrev oLt : MO := oInt fun i j => .bl (decide (i < j))
abbrev oLe : MO := oInt fun i j => .bl (decide (i ≤ j))
abbrev oGt : MO := oInt fun i j => .bl (decide (j < i))
abbrev oGe : MO := oInt fun i j => .bl (decide (j ≤ i))
abbrev oDiv : MO := oIntC CDiv fun i j => .int (i / j)
abbrev oMod : MO := oIntC (fun _ j => 0 < j) fun i j => .int (i % j)
abbrev oPow : MO := oIntC CPow fun i j => .int (i ^ j.toNat)
theorem od_sub : OpD X Y (binaryOp .Sub) oSub := ⟨_, op_sub, so_int fun _ _ _ _ => .int _⟩
theorem od_lt : OpD X Y (compareOp .Lt) oLt := ⟨_, op_lt, so_int fun _ _ _ _ => .bl _⟩
theorem od_le : OpD X Y (compareOp .LtE) oLe := ⟨_, op_le, so_int fun _ _ _ _ => .bl _⟩
theorem od_gt : OpD X Y (compareOp .Gt) oGt := ⟨_, op_gt, so_int fun _ _ _ _ => .bl _⟩
theorem od_ge : OpD X Y (compareOp .GtE) oGe := ⟨_, op_ge, so_int fun _ _ _ _ => .bl _⟩
theorem od_div : OpD X Y (binaryOp .FloorDiv) oDiv := ⟨_, op_fdiv, so_intC fun _ _ _ _ => .int _⟩
theorem od_mod : OpD X Y (binaryOp .Mod) oMod := ⟨_, op_mod, so_intC fun _ _ _ _ => .int _⟩
theorem od_pow : OpD X Y (binaryOp .Pow) oPow := ⟨_, op_pow, so_intC fun _ _ _ _ => .int _⟩
def uNeg : MU := fun u h q => match u with
  | .int i => q (.int (-i)) h
  | _ => False
theorem ud_neg : UnD X Y (unaryOp .USub) uNeg := ⟨_, un_neg, fun μ h H U u Q q r a hf kq => by
  cases a <;> first | exact hf.elim | skip
  exact ⟨_, rfl, (kq _ _ hf).here r (.int _)⟩⟩

/-- + -/
def oAdd : MO := fun u v h q => match u, v with
  | .int i, .int j => q (.int (i + j)) h
  | .str i, .str j => i.length + j.length ≤ 100000 ∧ q (.str (i ++ j)) h
  | .tup a, .tup b => a.length + b.length ≤ 100000 ∧ q (.tup (a ++ b)) h
  | u, v => ∃ xs ys, lstOf h u = some xs ∧ lstOf h v = some ys ∧ xs.length + ys.length ≤ 100000 ∧ q (.lst (xs ++ ys)) h
theorem big {n : Nat} (h : n ≤ 100000) : n ≤ sizeLine := Nat.le_trans h (by decide)
theorem so_add : SO Y (rPlus Y.K) oAdd := fun μ h H U V' u v Q q r a b hf kq => by
  have gen : (∃ xs ys, lstOf h u = some xs ∧ lstOf h v = some ys ∧ xs.length + ys.length ≤ 100000 ∧ q (.lst (xs ++ ys)) h) → rPlus Y.K U V' H Q := by
    rintro ⟨xs, ys, e1, e2, hl, k⟩
    obtain ⟨p, vs, rfl, h1, t1⟩ := rd_lst r a e1
    obtain ⟨p', ws, rfl, h2, t2⟩ := rd_lst r b e2
    refine .inr (.inr (.inl ⟨_, _, _, _, rfl, rfl, h1, h2, by rw [t1.length, t2.length]; exact big hl, fun p hp => ?_⟩))
    exact (kq _ _ k).new r hp fun e s => .lst e ((t1.append t2).sm s)
  have tt : ∀ {xs ys}, u = .tup xs → v = .tup ys → (xs.length + ys.length ≤ 100000 ∧ q (.tup (xs ++ ys)) h) → rPlus Y.K U V' H Q := by
    rintro xs ys rfl rfl ⟨hl, k⟩
    obtain ⟨p, vs, rfl, h1, t1⟩ := rd_tup a
    obtain ⟨p', ws, rfl, h2, t2⟩ := rd_tup b
    refine .inr (.inr (.inr ⟨_, _, _, _, rfl, rfl, h1, h2, by rw [t1.length, t2.length]; exact big hl, fun e => ?_, fun _ e => ?_, fun _ _ p hp => ?_⟩))
    · subst e; cases t1; exact (kq _ _ k).here r b
    · subst e; cases t2; rw [List.append_nil] at k; exact (kq _ _ k).here r a
    · exact (kq _ _ k).new r hp fun e s => .tup (SqT.of e) ((t1.append t2).sm s)
  have rest : ∀ {i j}, u = .int i → v = .int j → q (.int (i + j)) h → rPlus Y.K U V' H Q := by
    rintro i j rfl rfl k; cases a; cases b
    exact .inl ⟨_, _, rfl, rfl, (kq _ _ k).here r (.int _)⟩
  have rests : ∀ {i j : Str}, u = .str i → v = .str j → (i.length + j.length ≤ 100000 ∧ q (.str (i ++ j)) h) → rPlus Y.K U V' H Q := by
    rintro i j rfl rfl k; cases a; cases b
    exact .inr (.inl ⟨_, _, rfl, rfl, big k.1, (kq _ _ k.2).here r (.str _)⟩)
  cases u <;> cases v <;> first | exact rest rfl rfl hf | exact rests rfl rfl hf | exact tt rfl rfl hf | exact gen hf
theorem od_add (hK : X.K = Y.K) : OpD X Y (binaryOp .Add) oAdd := ⟨_, kop_plus hK, so_add⟩

/-- * -/
def oMul : MO := fun u v h q => match u, v with
  | .int i, .int j => CMul i j ∧ q (.int (i * j)) h
  | .tup xs, .int k => xs ≠ [] ∧ 1 ≤ k ∧ k ≤ 1000 ∧ xs.length ≤ 1000 ∧ q (.tup (List.replicate k.toNat xs).flatten) h
  | u, .int k => ∃ xs, lstOf h u = some xs ∧ 0 ≤ k ∧ k ≤ 1000 ∧ xs.length * k.toNat ≤ 100000 ∧ q (.lst (List.replicate k.toNat xs).flatten) h
  | _, _ => False
theorem vrs_rep {μ : Mp} {G : Hp} {vs : List V} {xs : List Val} (t : VRs Y μ G vs xs) : ∀ n : Nat, VRs Y μ G (List.replicate n vs).flatten (List.replicate n xs).flatten
  | 0 => .nil
  | n + 1 => by
    rw [List.replicate_succ, List.replicate_succ, List.flatten_cons, List.flatten_cons]
    exact t.append (vrs_rep t n)
theorem so_mul : SO Y (rTimes Y.K) oMul := fun μ h H U V' u v Q q r a b hf kq => by
  have gen : ∀ {k}, v = .int k → (∃ xs, lstOf h u = some xs ∧ 0 ≤ k ∧ k ≤ 1000 ∧ xs.length * k.toNat ≤ 100000 ∧ q (.lst (List.replicate k.toNat xs).flatten) h) → rTimes Y.K U V' H Q := by
    rintro k rfl ⟨xs, e1, h0, h1, hl, hq⟩
    cases b
    obtain ⟨p, vs, rfl, h2, t1⟩ := rd_lst r a e1
    refine .inr (.inl ⟨_, _, _, rfl, rfl, h2, by omega, by omega, by rw [t1.length]; exact big hl, fun p hp => ?_⟩)
    exact (kq _ _ hq).new r hp fun e s => .lst e ((vrs_rep t1 _).sm s)
  have ii : ∀ {i j}, u = .int i → v = .int j → (CMul i j ∧ q (.int (i * j)) h) → rTimes Y.K U V' H Q := by
    rintro i j rfl rfl k; cases a; cases b
    exact .inl ⟨_, _, rfl, rfl, k.1, (kq _ _ k.2).here r (.int _)⟩
  have ti : ∀ {xs k}, u = .tup xs → v = .int k → (xs ≠ [] ∧ 1 ≤ k ∧ k ≤ 1000 ∧ xs.length ≤ 1000 ∧ q (.tup (List.replicate k.toNat xs).flatten) h) → rTimes Y.K U V' H Q := by
    rintro xs k rfl rfl ⟨hn, h1, h2, hl, hq⟩
    cases b
    obtain ⟨p, vs, rfl, h3, t1⟩ := rd_tup a
    by_cases hk : k = 1
    · subst hk
      refine .inr (.inr (.inr ⟨_, _, rfl, rfl, h3, (kq _ _ hq).here r ?_⟩))
      have e : (List.replicate (1 : Int).toNat xs).flatten = xs := by simp
      rw [e]; exact a
    · refine .inr (.inr (.inl ⟨_, _, _, rfl, rfl, h3, fun e => hn ?_, by omega, h2, by rw [t1.length]; exact hl, fun p hp => ?_⟩))
      · subst e; cases t1; rfl
      · exact (kq _ _ hq).new r hp fun e s => .tup (SqT.of e) ((vrs_rep t1 _).sm s)
  cases v <;> first | exact hf.elim | skip
  all_goals (cases u <;> first | exact ii rfl rfl hf | exact ti rfl rfl hf | exact gen rfl hf | exact hf.elim)
theorem od_mul (hK : X.K = Y.K) : OpD X Y (binaryOp .Mult) oMul := ⟨_, kop_times hK, so_mul⟩

/-! == -/
/-- == of things without parts -/
def scEq : Val → Val → Option Bool
  | .non, .non => some true
  | .int i, .int j => some (decide (i = j))
  | .bl i, .bl j => some (decide (i = j))
  | .str i, .str j => some (decide (i = j))
  | .non, .int _ => some false | .int _, .non => some false | .non, .bl _ => some false | .bl _, .non => some false | .non, .str _ => some false | .str _, .non => some false
  | .int _, .str _ => some false | .str _, .int _ => some false | .bl _, .str _ => some false | .str _, .bl _ => some false
  | _, _ => none
def oEq : MO := fun u v h q => (∃ b, scEq u v = some b ∧ q (.bl b) h) ∨ ∃ d e, datOf h u = some d ∧ datOf h v = some e ∧ SeqAt.shaped d = true ∧ SeqAt.shaped e = true ∧ q (.bl (PyData.eqv d e)) h
def oNe : MO := fun u v h q => (∃ b, scEq u v = some b ∧ q (.bl (!b)) h) ∨ ∃ d e, datOf h u = some d ∧ datOf h v = some e ∧ SeqAt.shaped d = true ∧ SeqAt.shaped e = true ∧ q (.bl (!PyData.eqv d e)) h
theorem sc_rel {μ : Mp} {G : Hp} {U V' : V} {u v : Val} {b : Bool} (a : VR Y μ G U u) (c : VR Y μ G V' v) (e : scEq u v = some b) : scal U V' = true ∧ decide (U = V') = b := by
  have ii : ∀ {i j : Int}, decide (V.int i = V.int j) = decide (i = j) := decide_eq_decide.mpr ⟨fun q => V.int.inj q, fun q => by rw [q]⟩
  have ss : ∀ {i j : Str}, decide (V.str i = V.str j) = decide (i = j) := decide_eq_decide.mpr ⟨fun q => V.str.inj q, fun q => by rw [q]⟩
  have bb : ∀ {i j : Bool}, decide (V.bl i = V.bl j) = decide (i = j) := decide_eq_decide.mpr ⟨fun q => V.bl.inj q, fun q => by rw [q]⟩
  cases a <;> first | (cases e; done) | skip
  all_goals (cases c <;> first | (cases e; done) | skip)
  all_goals (cases e; first | exact ⟨rfl, ii⟩ | exact ⟨rfl, ss⟩ | exact ⟨rfl, bb⟩ | exact ⟨rfl, rfl⟩)
theorem od_eq (hK : X.K = Y.K) (hu : X.A.units + 64 < cLine) : OpD X Y (compareOp .Eq) oEq := ⟨_, opr_or op_eq (op_eqD hu), fun μ h H U V' u v Q q r a b hf kq => by
  rcases hf with ⟨c, e, k⟩ | ⟨d, e, h1, h2, h3, h4, k⟩
  · obtain ⟨e1, e2⟩ := sc_rel a b e
    exact .inl ⟨e1, by rw [e2]; exact (kq _ _ k).here r (.bl _)⟩
  · exact .inr ⟨d, e, hK ▸ rd_datOf r a h1, hK ▸ rd_datOf r b h2, h3, h4, (kq _ _ k).here r (.bl _)⟩⟩
theorem od_ne (hK : X.K = Y.K) (hu : X.A.units + 64 < cLine) : OpD X Y (compareOp .NotEq) oNe := ⟨_, opr_or op_ne (op_neD hu), fun μ h H U V' u v Q q r a b hf kq => by
  rcases hf with ⟨c, e, k⟩ | ⟨d, e, h1, h2, h3, h4, k⟩
  · obtain ⟨e1, e2⟩ := sc_rel a b e
    exact .inl ⟨e1, by rw [e2]; exact (kq _ _ k).here r (.bl _)⟩
  · exact .inr ⟨d, e, hK ▸ rd_datOf r a h1, hK ▸ rd_datOf r b h2, h3, h4, (kq _ _ k).here r (.bl _)⟩⟩

/-! in: a sign in a text; flat things in a list or tuple; data in a list -/
def flatM : Val → Bool
  | .non => true | .bl _ => true | .int _ => true | .str _ => true | _ => false
def eqM : Val → Val → Bool
  | .non, .non => true
  | .bl a, .bl b => a == b
  | .bl a, .int b => (if a then 1 else 0) == b
  | .int a, .bl b => a == (if b then 1 else 0)
  | .int a, .int b => a == b
  | .str a, .str b => a == b
  | _, _ => false
def inM (u : Val) (xs : List Val) : Bool := xs.any fun y => eqM y u
def oInB (neg : Bool) : MO := fun u v h q => (∃ c z, u = .str ⟨#[c]⟩ ∧ v = .str z ∧ q (.bl (if neg then !decide (c ∈ z.cps.toList) else decide (c ∈ z.cps.toList))) h) ∨
  (∃ xs, anyOf h v = some xs ∧ flatM u = true ∧ xs.all flatM = true ∧ q (.bl (if neg then !inM u xs else inM u xs)) h) ∨
  ∃ d ds, datOf h u = some d ∧ datOf h v = some (.list ds) ∧ SeqAt.shaped d = true ∧ SeqAt.shaped (.list ds) = true ∧ q (.bl (if neg then !ds.any fun z => PyData.eqv z d else ds.any fun z => PyData.eqv z d)) h
theorem flat_rel {μ : Mp} {G : Hp} {U : V} {u : Val} (r : VR Y μ G U u) (f : flatM u = true) : flatV U = true := by
  cases r <;> first | rfl | (cases f; done)
theorem flat_eq {μ : Mp} {G : Hp} {U U' : V} {u u' : Val} (r : VR Y μ G U u) (r' : VR Y μ G U' u') (f : flatM u = true) (f' : flatM u' = true) : eqV U U' = eqM u u' := by
  cases r <;> first | (cases f; done) | skip
  all_goals (cases r' <;> first | (cases f'; done) | rfl)
theorem flat_in {μ : Mp} {G : Hp} {U : V} {u : Val} (r : VR Y μ G U u) (f : flatM u = true) : ∀ {vs : List V} {xs : List Val}, VRs Y μ G vs xs → xs.all flatM = true → vs.all flatV = true ∧ inV U vs = inM u xs
  | _, _, .nil, _ => ⟨rfl, rfl⟩
  | _, _, .cons a b, e => by
    obtain ⟨e1, e2⟩ := Bool.and_eq_true_iff.mp (show (_ && _) = true from e)
    obtain ⟨i1, i2⟩ := flat_in r f b e2
    refine ⟨by simp [flat_rel a e1, i1], ?_⟩
    show (eqV _ U || inV U _) = (eqM _ u || inM u _)
    rw [flat_eq a r e1 f, i2]
theorem so_in {neg : Bool} {rD : R2} (hD : ∀ x y H Q d ds, Dp Y.K H x d → Dp Y.K H y (.list ds) → SeqAt.shaped d = true → SeqAt.shaped (.list ds) = true → Q (.bl (if neg then !ds.any fun z => PyData.eqv z d else ds.any fun z => PyData.eqv z d)) H → rD x y H Q) :
    SO Y (fun x y H Q => rInU Y.K neg x y H Q ∨ rD x y H Q) (oInB neg) := fun μ h H U V' u v Q q r a b hf kq => by
  rcases hf with ⟨c, z, rfl, rfl, k⟩ | ⟨xs, e, f1, f2, k⟩ | ⟨d, ds, e1, e2, e3, e4, k⟩
  · cases a; cases b
    exact .inl (.inl ⟨c, z, rfl, rfl, (kq _ _ k).here r (.bl _)⟩)
  · obtain ⟨p, vs, rfl, h1, t1⟩ := rd_any r b e
    obtain ⟨i1, i2⟩ := flat_in a f1 t1 f2
    refine .inl (.inr ⟨p, vs, rfl, ?_, flat_rel a f1, i1, ?_⟩)
    · rcases h1 with h1 | h1
      · exact .inl (SqL.of h1)
      · exact .inr h1
    · rw [i2]; exact (kq _ _ k).here r (.bl _)
  · exact .inr (hD _ _ _ _ d ds (rd_datOf r a e1) (rd_datOf r b e2) e3 e4 ((kq _ _ k).here r (.bl _)))
theorem od_in (hK : X.K = Y.K) (hu : X.A.units + 65 < cLine) : OpD X Y (compareOp .In) (oInB false) := by
  refine ⟨_, opr_or (kop_in hK) (op_inD hu), so_in fun x y H Q d ds h1 h2 h3 h4 k => ?_⟩
  rw [hK]; exact ⟨d, ds, h1, h2, h3, h4, k⟩
theorem od_notIn (hK : X.K = Y.K) (hu : X.A.units + 65 < cLine) : OpD X Y (compareOp .NotIn) (oInB true) := by
  refine ⟨_, opr_or (kop_notIn hK) (op_notInD hu), so_in fun x y H Q d ds h1 h2 h3 h4 k => ?_⟩
  rw [hK]; exact ⟨d, ds, h1, h2, h3, h4, k⟩

/-! is None -/
def isNon : Val → Bool
  | .non => true
  | _ => false
def oIs : MO := fun u v h q => match v with
  | .non => q (.bl (isNon u)) h
  | _ => False
def oIsNot : MO := fun u v h q => match v with
  | .non => q (.bl (!isNon u)) h
  | _ => False
theorem isNon_rel {μ : Mp} {G : Hp} {U : V} {u : Val} (r : VR Y μ G U u) : decide (U = .non) = isNon u := by cases r <;> rfl
theorem od_is : OpD X Y (compareOp .Is) oIs := ⟨_, op_isN, fun μ h H U V' u v Q q r a b hf kq => by
  cases b <;> first | exact hf.elim | skip
  refine ⟨rfl, ?_⟩
  rw [isNon_rel a]; exact (kq _ _ hf).here r (.bl _)⟩
theorem od_isNot : OpD X Y (compareOp .IsNot) oIsNot := ⟨_, op_notN, fun μ h H U V' u v Q q r a b hf kq => by
  cases b <;> first | exact hf.elim | skip
  refine ⟨rfl, ?_⟩
  rw [isNon_rel a]; exact (kq _ _ hf).here r (.bl _)⟩

/-! items -/
theorem vrs_at {μ : Mp} {G : Hp} {vs : List V} {xs : List Val} {i : Int} {x : Val} (t : VRs Y μ G vs xs) (h : atI xs i = some x) : ∃ v, atI vs i = some v ∧ VR Y μ G v x := by
  obtain ⟨j, e1, e2⟩ := atI_len t.length h
  obtain ⟨v, e3, r⟩ := t.got e1
  exact ⟨v, e2 v e3, r⟩
def oIx : MO := fun u v h q => match v with
  | .int i => match u with
    | .str w => w.length ≤ 100000 ∧ ∃ c, atI w.cps.toList i = some c ∧ q (.str ⟨#[c]⟩) h
    | u => ∃ xs x, anyOf h u = some xs ∧ atI xs i = some x ∧ q x h
  | _ => False
theorem so_ix : SO Y (rIx Y.K) oIx := fun μ h H U V' u v Q q r a b hf kq => by
  have gen : ∀ {i}, v = .int i → (∃ xs x, anyOf h u = some xs ∧ atI xs i = some x ∧ q x h) → rIx Y.K U V' H Q := by
    rintro i rfl ⟨xs, x, e1, e2, k⟩
    cases b
    obtain ⟨p, vs, rfl, h1, t⟩ := rd_any r a e1
    obtain ⟨w, e3, rw'⟩ := vrs_at t e2
    rcases h1 with h1 | h1
    · exact .inl ⟨_, _, i, w, rfl, rfl, SqL.of h1, e3, (kq _ _ k).here r rw'⟩
    · exact .inr (.inl ⟨_, _, i, w, rfl, rfl, h1, e3, (kq _ _ k).here r rw'⟩)
  have st : ∀ {i} {w : Str}, v = .int i → u = .str w → (w.length ≤ 100000 ∧ ∃ c, atI w.cps.toList i = some c ∧ q (.str ⟨#[c]⟩) h) → rIx Y.K U V' H Q := by
    rintro i w rfl rfl ⟨hl, c, e, k⟩
    cases a; cases b
    exact .inr (.inr ⟨w, i, c, rfl, rfl, big hl, e, (kq _ _ k).here r (.str _)⟩)
  cases v <;> first | exact hf.elim | skip
  cases u <;> first | exact st rfl rfl hf | exact gen rfl hf
theorem xd_ix (hK : X.K = Y.K) : IxD X Y oIx := ⟨_, kix hK, so_ix⟩
end

/-! ### tests -/
def mB (m : ME) : MT := fun env h q x => m env h (fun v h' => match v with
  | .bl b => q b h'
  | _ => False) x
def mAnd (a b : MT) : MT := fun env h q x => a env h (fun c h1 => if c = true then b env h1 q x else q false h1) x
def mOr (a b : MT) : MT := fun env h q x => a env h (fun c h1 => if c = true then q true h1 else b env h1 q x) x
def mNot (a : MT) : MT := fun env h q x => a env h (fun c h1 => q (!c) h1) x
def eAnd (a b : ME) : ME := fun env h q x => a env h (fun v h1 => onB v (b env h1 q x) (q (.bl false) h1)) x
def eOr (a b : ME) : ME := fun env h q x => a env h (fun v h1 => onB v (q (.bl true) h1) (b env h1 q x)) x
def eNot (a : ME) : ME := fun env h q x => a env h (fun v h1 => match v with
  | .bl b => q (.bl (!b)) h1
  | _ => False) x
def eIf (c : MT) (a b : ME) : ME := fun env h q x => c env h (fun k h1 => if k = true then a env h1 q x else b env h1 q x) x
section
variable {X : Cx} {Y : Ky} {W : WX} {ta tb : TE} {ma mb mc : ME} {tt tu : TT} {mt mu : MT} {a b c : Expr} {pos : Pos} {rest : List Expr}
theorem st_B (s : SE Y W ta ma) : ST Y W (tB ta) (mB ma) := fun μ env h σ H Q q x z hm kq kx =>
  s μ env h σ H _ _ x z hm (fun v h1 k μ1 U H1 e1 r1 v1 => by
    cases v1 <;> first | exact k.elim | skip
    exact ⟨_, rfl, kq _ _ k μ1 H1 e1 r1⟩) kx
theorem st_and (s : ST Y W tt mt) (s' : ST Y W tu mu) : ST Y W (tAnd tt tu) (mAnd mt mu) := fun μ env h σ H Q q x z hm kq kx =>
  s μ env h σ H _ _ x z hm (fun k h1 hk μ1 H1 e1 r1 => by
    cases k with
    | true => rw [if_pos rfl] at hk ⊢; exact s' μ1 env h1 σ H1 Q q x (z.go e1 r1) hk (fun b h' k μ2 H2 e2 r2 => kq b h' k μ2 H2 (e1.trans e2) r2) fun e h' k => (kx e h' k).after e1
    | false => rw [if_neg Bool.false_ne_true] at hk ⊢; exact kq _ _ hk μ1 H1 e1 r1) kx
theorem st_or (s : ST Y W tt mt) (s' : ST Y W tu mu) : ST Y W (tOr tt tu) (mOr mt mu) := fun μ env h σ H Q q x z hm kq kx =>
  s μ env h σ H _ _ x z hm (fun k h1 hk μ1 H1 e1 r1 => by
    cases k with
    | false => rw [if_neg Bool.false_ne_true] at hk ⊢; exact s' μ1 env h1 σ H1 Q q x (z.go e1 r1) hk (fun b h' k μ2 H2 e2 r2 => kq b h' k μ2 H2 (e1.trans e2) r2) fun e h' k => (kx e h' k).after e1
    | true => rw [if_pos rfl] at hk ⊢; exact kq _ _ hk μ1 H1 e1 r1) kx
theorem st_not (s : ST Y W tt mt) : ST Y W (tNot tt) (mNot mt) := fun μ env h σ H Q q x z hm kq kx =>
  s μ env h σ H _ _ x z hm (fun k h1 hk μ1 H1 e1 r1 => kq _ _ hk μ1 H1 e1 r1) kx
theorem se_and (s : SE Y W ta ma) (s' : SE Y W tb mb) : SE Y W (tAndV ta tb) (eAnd ma mb) := fun μ env h σ H Q q x z hm kq kx =>
  s μ env h σ H _ _ x z hm (fun v h1 hk μ1 U H1 e1 r1 v1 => by
    cases v1 with
    | bl k =>
      refine ⟨k, rfl, ?_⟩
      cases k with
      | true => rw [if_pos rfl]; exact s' μ1 env h1 σ H1 Q q x (z.go e1 r1) hk (fun b h' k => (kq b h' k).after e1) fun e h' k => (kx e h' k).after e1
      | false => rw [if_neg Bool.false_ne_true]; exact kq _ _ hk μ1 _ H1 e1 r1 (.bl _)
    | _ => exact hk.elim) kx
theorem se_or (s : SE Y W ta ma) (s' : SE Y W tb mb) : SE Y W (tOrV ta tb) (eOr ma mb) := fun μ env h σ H Q q x z hm kq kx =>
  s μ env h σ H _ _ x z hm (fun v h1 hk μ1 U H1 e1 r1 v1 => by
    cases v1 with
    | bl k =>
      refine ⟨k, rfl, ?_⟩
      cases k with
      | false => rw [if_neg Bool.false_ne_true]; exact s' μ1 env h1 σ H1 Q q x (z.go e1 r1) hk (fun b h' k => (kq b h' k).after e1) fun e h' k => (kx e h' k).after e1
      | true => rw [if_pos rfl]; exact kq _ _ hk μ1 _ H1 e1 r1 (.bl _)
    | _ => exact hk.elim) kx
theorem se_not (s : SE Y W ta ma) : SE Y W (tNotV ta) (eNot ma) := fun μ env h σ H Q q x z hm kq kx =>
  s μ env h σ H _ _ x z hm (fun v h1 hk μ1 U H1 e1 r1 v1 => by
    cases v1 with
    | bl k => exact ⟨k, rfl, kq _ _ hk μ1 _ H1 e1 r1 (.bl _)⟩
    | _ => exact hk.elim) kx
theorem se_if (s : ST Y W tt mt) (s1 : SE Y W ta ma) (s2 : SE Y W tb mb) : SE Y W (tIf tt ta tb) (eIf mt ma mb) := fun μ env h σ H Q q x z hm kq kx =>
  s μ env h σ H _ _ x z hm (fun k h1 hk μ1 H1 e1 r1 => by
    cases k with
    | true => rw [if_pos rfl] at hk ⊢; exact s1 μ1 env h1 σ H1 Q q x (z.go e1 r1) hk (fun b h' k => (kq b h' k).after e1) fun e h' k => (kx e h' k).after e1
    | false => rw [if_neg Bool.false_ne_true] at hk ⊢; exact s2 μ1 env h1 σ H1 Q q x (z.go e1 r1) hk (fun b h' k => (kq b h' k).after e1) fun e h' k => (kx e h' k).after e1) kx
/-- an expression as a test -/
theorem dt_val (ha : DE X Y W a ma) (he : ∀ whole, isTrue a X.env whole = (do let v ← whole; standAt a.pos; holding [v] (truthy v)) := by intro _; rfl) : DT X Y W a (mB ma) := by
  obtain ⟨ta, a1, a2⟩ := ha
  exact ⟨_, pt_val a1 he, st_B a2⟩
theorem dt_cmp {op : CmpOp} {f : MO} (o : OpD X Y (compareOp op) f) (ha : DE X Y W a ma) (hb : DE X Y W b mb) (hm : behindInMarks op b = false) : DT X Y W (.Compare a [op] [b] pos) (mB (eOp f ma mb)) := by
  obtain ⟨r, o1, o2⟩ := o; obtain ⟨ta, a1, a2⟩ := ha; obtain ⟨tb, b1, b2⟩ := hb
  exact ⟨_, pt_cmpR o1 a1 b1 hm, st_B (se_op o2 a2 b2)⟩
theorem dt_not (ha : DT X Y W a mt) : DT X Y W (.UnaryOp .Not a pos) (mNot mt) := by
  obtain ⟨t, a1, a2⟩ := ha
  exact ⟨_, pt_not a1, st_not a2⟩
theorem DW.dt (h : DW X Y W a mt) : DT X Y W a mt := by obtain ⟨t, a1, a2⟩ := h; exact ⟨_, a1.pt, a2⟩
theorem dw_and1 (h : DT X Y W a mt) : DW X Y W (.BoolOp .And [a] pos) mt := by obtain ⟨t, a1, a2⟩ := h; exact ⟨_, pw_and1 a1, a2⟩
theorem dw_or1 (h : DT X Y W a mt) : DW X Y W (.BoolOp .Or [a] pos) mt := by obtain ⟨t, a1, a2⟩ := h; exact ⟨_, pw_or1 a1, a2⟩
theorem dw_and (h : DT X Y W a mt) (h' : DW X Y W (.BoolOp .And (b :: rest) pos) mu) : DW X Y W (.BoolOp .And (a :: b :: rest) pos) (mAnd mt mu) := by
  obtain ⟨t, a1, a2⟩ := h; obtain ⟨t', b1, b2⟩ := h'; exact ⟨_, pw_and a1 b1, st_and a2 b2⟩
theorem dw_or (h : DT X Y W a mt) (h' : DW X Y W (.BoolOp .Or (b :: rest) pos) mu) : DW X Y W (.BoolOp .Or (a :: b :: rest) pos) (mOr mt mu) := by
  obtain ⟨t, a1, a2⟩ := h; obtain ⟨t', b1, b2⟩ := h'; exact ⟨_, pw_or a1 b1, st_or a2 b2⟩
theorem de_one {op} (h : DE X Y W a ma) : DE X Y W (.BoolOp op [a] pos) ma := by obtain ⟨t, a1, a2⟩ := h; exact ⟨_, pe_one a1, a2⟩
theorem de_and (h : DE X Y W a ma) (h' : DE X Y W (.BoolOp .And (b :: rest) pos) mb) : DE X Y W (.BoolOp .And (a :: b :: rest) pos) (eAnd ma mb) := by
  obtain ⟨t, a1, a2⟩ := h; obtain ⟨t', b1, b2⟩ := h'; exact ⟨_, pe_and a1 b1, se_and a2 b2⟩
theorem de_or (h : DE X Y W a ma) (h' : DE X Y W (.BoolOp .Or (b :: rest) pos) mb) : DE X Y W (.BoolOp .Or (a :: b :: rest) pos) (eOr ma mb) := by
  obtain ⟨t, a1, a2⟩ := h; obtain ⟨t', b1, b2⟩ := h'; exact ⟨_, pe_or a1 b1, se_or a2 b2⟩
theorem de_not (h : DE X Y W a ma) : DE X Y W (.UnaryOp .Not a pos) (eNot ma) := by obtain ⟨t, a1, a2⟩ := h; exact ⟨_, pe_not a1, se_not a2⟩
theorem de_if (h : DT X Y W c mt) (h1 : DE X Y W a ma) (h2 : DE X Y W b mb) : DE X Y W (.IfExp c a b pos) (eIf mt ma mb) := by
  obtain ⟨t, a1, a2⟩ := h; obtain ⟨t', b1, b2⟩ := h1; obtain ⟨t'', c1, c2⟩ := h2; exact ⟨_, pe_ifExp a1 b1 c1, se_if a2 b2 c2⟩
end
section
variable {X : Cx} {Y : Ky} {W : WX} {ma mb mc : ME} {a b c : Expr} {pos : Pos}
theorem de_chain {op op' : CmpOp} {f g : MO} (o : OpD X Y (compareOp op) f) (o' : OpD X Y (compareOp op') g) (ha : DE X Y W a ma) (hb : DE X Y W b mb) (hc : DE X Y W c mc) (hm : lastMarks [op, op'] [b, c] = false := by with_unfolding_all rfl) : DE X Y W (.Compare a [op, op'] [b, c] pos) (eChain f g ma mb mc) := by
  obtain ⟨r, o1, o2⟩ := o; obtain ⟨r', p1, p2⟩ := o'; obtain ⟨ta, a1, a2⟩ := ha; obtain ⟨tb, b1, b2⟩ := hb; obtain ⟨tc, c1, c2⟩ := hc
  exact ⟨_, pe_chain o1 p1 a1 b1 c1 hm, se_chain o2 p2 a2 b2 c2⟩
theorem dt_chain {op op' : CmpOp} {f g : MO} (o : OpD X Y (compareOp op) f) (o' : OpD X Y (compareOp op') g) (ha : DE X Y W a ma) (hb : DE X Y W b mb) (hc : DE X Y W c mc) (hm : lastMarks [op, op'] [b, c] = false := by with_unfolding_all rfl) : DT X Y W (.Compare a [op, op'] [b, c] pos) (mB (eChain f g ma mb mc)) := by
  obtain ⟨r, o1, o2⟩ := o; obtain ⟨r', p1, p2⟩ := o'; obtain ⟨ta, a1, a2⟩ := ha; obtain ⟨tb, b1, b2⟩ := hb; obtain ⟨tc, c1, c2⟩ := hc
  exact ⟨_, pt_chain o1 p1 a1 b1 c1 hm, st_B (se_chain o2 p2 a2 b2 c2)⟩
end
end Sx

end
section
set_option Elab.async false
set_option linter.all false
set_option maxRecDepth 100000
set_option maxHeartbeats 2000000
/-! ZIPN: zip(*xs) of lists and tuples, as many as there are; the loop's target one name -/
namespace ZN
open PySem
abbrev Src := Bool × Addr
def ItAt (h : Heap) (it : Addr) (c : Src) (i : Nat) : Prop := (c.1 = true ∧ h.IsListIter it c.2 i) ∨ (c.1 = false ∧ h.IsTupleIter it c.2 i)
def SqAt (h : Heap) (c : Src) (xs : Array Value) : Prop := (c.1 = true ∧ h.IsList c.2 xs) ∨ (c.1 = false ∧ h.IsTuple c.2 xs)
theorem ItAt.at {h h' : Heap} {it : Addr} {c : Src} {i : Nat} (x : ItAt h it c i) (e : ∀ o, h.get? it = some o → h'.get? it = some o) : ItAt h' it c i := by
  rcases x with ⟨a, x⟩ | ⟨a, x⟩
  · exact .inl ⟨a, x.at e⟩
  · exact .inr ⟨a, x.at e⟩
theorem SqAt.at {h h' : Heap} {c : Src} {xs : Array Value} (x : SqAt h c xs) (e : ∀ o, h.get? c.2 = some o → h'.get? c.2 = some o) : SqAt h' c xs := by
  rcases x with ⟨a, x⟩ | ⟨a, x⟩
  · exact .inl ⟨a, x.at e⟩
  · exact .inr ⟨a, x.at e⟩
theorem ItAt.there {h : Heap} {it : Addr} {c : Src} {i : Nat} (x : ItAt h it c i) : ∃ o, h.get? it = some o := by
  rcases x with ⟨_, o, e, _⟩ | ⟨_, o, e, _⟩ <;> exact ⟨o, e⟩
theorem SqAt.there {h : Heap} {c : Src} {xs : Array Value} (x : SqAt h c xs) : ∃ o, h.get? c.2 = some o := by
  rcases x with ⟨_, o, e, _⟩ | ⟨_, o, e, _⟩ <;> exact ⟨o, e⟩
section
variable {prog : Program} {w : World} {A : Around} {E : Value → Shared → Prop} {s : Shared}
theorem next_item {it : Addr} {c : Src} {i : Nat} {xs : Array Value} {x : Value} {Q : Value → Shared → Prop} (hi : ItAt s.heap it c i) (hl : SqAt s.heap c xs) (hx : xs[i]? = some x)
    (hQ : ∀ h', ItAt h' it c (i + 1) → Heap.SameBut it s.heap h' → Q x { s with heap := h' }) : wpAny (model prog w) A (Builtin.SmallTypes.nextOf (.ref it)) Q E s := by
  rcases hi with ⟨a, hi⟩ | ⟨a, hi⟩
  · rcases hl with ⟨_, hl⟩ | ⟨b, hl⟩
    · exact wpAny_nextOf_list_item hi hl hx fun h' z sb => hQ h' (.inl ⟨a, z⟩) sb
    · rw [a] at b; cases b
  · rcases hl with ⟨b, hl⟩ | ⟨_, hl⟩
    · rw [a] at b; cases b
    · exact RZ.nextOf_tuple_item hi hl hx fun h' z sb => hQ h' (.inr ⟨a, z⟩) sb
theorem next_end {it : Addr} {c : Src} {i : Nat} {xs : Array Value} {Q : Value → Shared → Prop} (hh : A.handled = none) (hi : ItAt s.heap it c i) (hl : SqAt s.heap c xs) (hx : xs[i]? = none)
    (hE : ∀ h' e, Heap.ExtBut it s.heap h' → (∃ o, h'.get? e = some o ∧ o.cls = .type "StopIteration") → E (.ref e) { s with heap := h' }) : wpAny (model prog w) A (Builtin.SmallTypes.nextOf (.ref it)) Q E s := by
  rcases hi with ⟨a, hi⟩ | ⟨a, hi⟩
  · rcases hl with ⟨_, hl⟩ | ⟨b, hl⟩
    · exact wpAny_nextOf_list_end hh hi hl hx hE
    · rw [a] at b; cases b
  · rcases hl with ⟨b, hl⟩ | ⟨_, hl⟩
    · rw [a] at b; cases b
    · exact RZ.nextOf_tuple_end hh hi hl hx hE
end
/-- an iterator, its source, the source's items -/
abbrev Rc := Addr × Src × Array Value
abbrev col (l : List Rc) (i : Nat) : List Value := l.map fun r => r.2.2.getD i .none
structure Apart (l : List Rc) : Prop where
  nd : (l.map (·.1)).Nodup
  src : ∀ r ∈ l, ∀ r' ∈ l, r.2.1.2 ≠ r'.1
theorem Apart.tail {r : Rc} {l : List Rc} (a : Apart (r :: l)) : Apart l := ⟨(List.nodup_cons.mp a.nd).2, fun x hx y hy => a.src x (List.mem_cons_of_mem _ hx) y (List.mem_cons_of_mem _ hy)⟩
theorem Apart.head {r : Rc} {l : List Rc} (a : Apart (r :: l)) : r.1 ∉ l.map (·.1) := (List.nodup_cons.mp a.nd).1
def Rdy (h : Heap) (i : Nat) (l : List Rc) : Prop := ∀ r ∈ l, ItAt h r.1 r.2.1 i ∧ SqAt h r.2.1 r.2.2 ∧ i < r.2.2.size
abbrev Tup (h : Heap) (T : Addr) (vs : List Value) : Prop := h.get? T = some { cls := .type "tuple", data := .seq vs.toArray }
section
variable {prog : Program} {w : World} {A : Around}
theorem held_loop {β : Type} {body : Value → β → Sem (ForInStep β)} {ext : β → Value → β} {i : Nat}
    (hb : ∀ (it : Addr) (b : β) (s : Shared) (Q : ForInStep β → Shared → Prop) (E : Value → Shared → Prop), wpAny (model prog w) A (Builtin.SmallTypes.nextOf (.ref it)) (fun x s1 => Q (.yield (ext b x)) s1) E s → wpAny (model prog w) A (body (.ref it) b) Q E s) :
    ∀ (l : List Rc) (b : β) (s : Shared) (Q : β → Shared → Prop) (E : Value → Shared → Prop), Apart l → Rdy s.heap i l →
      (∀ h', (∀ r ∈ l, ItAt h' r.1 r.2.1 (i + 1)) → (∀ c o, c ∉ l.map (·.1) → s.heap.get? c = some o → h'.get? c = some o) → h'.objs.size = s.heap.objs.size → Q ((col l i).foldl ext b) { s with heap := h' }) →
      wpAny (model prog w) A (forIn (l.map fun r => Value.ref r.1) b body) Q E s
  | [], b, s, Q, E, _, _, k => by
    refine wpAny_pure ?_
    exact k s.heap (fun r h => absurd h (by simp)) (fun _ _ _ e => e) rfl
  | r :: l, b, s, Q, E, ap, rd, k => by
    obtain ⟨h1, h2, h3⟩ := rd r (List.mem_cons_self ..)
    have hx : r.2.2[i]? = some (r.2.2.getD i .none) := by simp [Array.getD, h3]
    rw [List.map_cons, List.forIn_cons]
    refine wpAny_bind (hb _ _ _ _ _ (next_item h1 h2 hx fun ha z sb => ?_))
    have hne : ∀ r' ∈ l, r'.1 ≠ r.1 := fun r' hr' e => ap.head (by rw [← e]; exact List.mem_map_of_mem hr')
    refine held_loop (i := i) hb l _ _ Q E ap.tail (fun r' hr' => ?_) fun h' z1 kp sz => ?_
    · obtain ⟨g1, g2, g3⟩ := rd r' (List.mem_cons_of_mem _ hr')
      exact ⟨g1.at fun o e => (sb.2 _ (hne r' hr')).trans e, g2.at fun o e => (sb.2 _ (ap.src r' (List.mem_cons_of_mem _ hr') r (List.mem_cons_self ..))).trans e, g3⟩
    · refine k h' (fun r' hr' => ?_) (fun c o hc e => kp c o (fun q => hc (List.mem_cons_of_mem _ q)) ((sb.2 c (fun q => hc (by rw [q]; exact List.mem_cons_self ..))).trans e)) (sz.trans sb.1)
      rcases List.mem_cons.mp hr' with e | hr'
      · subst e
        exact z.at fun o e => kp _ o ap.head e
      · exact z1 r' hr'
theorem free_loop {β : Type} {body : Value × Nat → β → Sem (ForInStep β)} {TO : Addr} {i : Nat} {b : β}
    (hb : ∀ (it : Addr) (k : Nat) (s : Shared) (Q : ForInStep β → Shared → Prop) (E : Value → Shared → Prop), (∀ E' : Value → Shared → Prop, wpAny (model prog w) A (Builtin.SmallTypes.nextOf (.ref it)) (fun x s1 => ∃ vs : List Value, Tup s1.heap TO vs ∧ vs.length ≤ sizeLine ∧
      ∀ h', Tup h' TO (vs.set k x) → Heap.SameBut TO s1.heap h' → Q (.yield b) { s1 with heap := h' }) E' s) → wpAny (model prog w) A (body (.ref it, k) b) Q E s) :
    ∀ (l : List Rc) (pre rest : List Value) (s : Shared) (Q : β → Shared → Prop) (E : Value → Shared → Prop), Apart l → Rdy s.heap i l → TO ∉ l.map (·.1) → (∀ r ∈ l, r.2.1.2 ≠ TO) → Tup s.heap TO (pre ++ rest) → rest.length = l.length → (pre ++ rest).length ≤ sizeLine →
      (∀ h', (∀ r ∈ l, ItAt h' r.1 r.2.1 (i + 1)) → Tup h' TO (pre ++ col l i) → (∀ c o, c ∉ l.map (·.1) → c ≠ TO → s.heap.get? c = some o → h'.get? c = some o) → h'.objs.size = s.heap.objs.size → Q b { s with heap := h' }) →
      wpAny (model prog w) A (forIn ((l.map fun r => Value.ref r.1).zipIdx pre.length) b body) Q E s
  | [], pre, rest, s, Q, E, _, _, _, _, hT, hr, _, k => by
    refine wpAny_pure ?_
    have : rest = [] := List.length_eq_zero_iff.mp hr
    subst this
    exact k s.heap (fun r h => absurd h (by simp)) hT (fun _ _ _ _ e => e) rfl
  | r :: l, pre, [], s, Q, E, _, _, _, _, _, hr, _, _ => by simp at hr
  | r :: l, pre, y :: rest, s, Q, E, ap, rd, nTO, sTO, hT, hr, hz, k => by
    obtain ⟨h1, h2, h3⟩ := rd r (List.mem_cons_self ..)
    have hx : r.2.2[i]? = some (r.2.2.getD i .none) := by simp [Array.getD, h3]
    have rTO : r.1 ≠ TO := fun e => nTO (by rw [← e]; exact List.mem_cons_self ..)
    rw [List.map_cons, List.zipIdx_cons, List.forIn_cons]
    refine wpAny_bind (hb _ _ _ _ _ fun E' => next_item h1 h2 hx fun ha z sb => ⟨pre ++ y :: rest, (sb.2 _ rTO.symm).trans hT, hz, fun hb' hT' sb' => ?_⟩)
    have es : (pre ++ y :: rest).set pre.length (r.2.2.getD i .none) = (pre ++ [r.2.2.getD i .none]) ++ rest := by simp
    rw [es] at hT'
    have el : pre.length + 1 = (pre ++ [r.2.2.getD i .none]).length := by simp
    have hne : ∀ r' ∈ l, r'.1 ≠ r.1 := fun r' hr' e => ap.head (by rw [← e]; exact List.mem_map_of_mem hr')
    have kk : ∀ c o, c ≠ r.1 → c ≠ TO → s.heap.get? c = some o → hb'.get? c = some o := fun c o n1 n2 e => (sb'.2 _ n2).trans ((sb.2 _ n1).trans e)
    show wpAny _ _ (forIn ((l.map fun r => Value.ref r.1).zipIdx (pre.length + 1)) b body) Q E { s with heap := hb' }
    rw [el]
    refine free_loop (i := i) hb l (pre ++ [r.2.2.getD i .none]) rest { s with heap := hb' } Q E ap.tail (fun r' hr' => ?_) (fun q => nTO (List.mem_cons_of_mem _ q)) (fun r' hr' => sTO r' (List.mem_cons_of_mem _ hr')) hT' (by simpa using hr) (by simp at hz ⊢; omega) fun h' z1 hT2 kp sz => ?_
    · obtain ⟨g1, g2, g3⟩ := rd r' (List.mem_cons_of_mem _ hr')
      have n1 : r'.1 ≠ TO := fun e => nTO (by rw [← e]; exact List.mem_map_of_mem (List.mem_cons_of_mem _ hr'))
      exact ⟨g1.at fun o e => kk _ o (hne r' hr') n1 e, g2.at fun o e => kk _ o (ap.src r' (List.mem_cons_of_mem _ hr') r (List.mem_cons_self ..)) (sTO r' (List.mem_cons_of_mem _ hr')) e, g3⟩
    · have e2 : pre ++ [r.2.2.getD i .none] ++ col l i = pre ++ col (r :: l) i := by simp [col]
      refine k h' (fun r' hr' => ?_) (e2 ▸ hT2) (fun c o hc hc2 e => kp c o (fun q => hc (List.mem_cons_of_mem _ q)) hc2 (kk c o (fun q => hc (by rw [q]; exact List.mem_cons_self ..)) hc2 e)) (sz.trans (sb'.1.trans sb.1))
      rcases List.mem_cons.mp hr' with e | hr'
      · subst e
        exact z.at fun o e => kp _ o ap.head rTO ((sb'.2 _ rTO).trans e)
      · exact z1 r' hr'

abbrev ZIs (h : Heap) (z TI TO : Addr) (f0 : Value) (f1 : Bool) : Prop :=
  h.get? z = some { cls := .type "zip", dict := none, data := .fields #[f0, .bool f1, .bool false, .ref TI, .ref TO], slots := #[] }
def F0 (v : Value) : Prop := v = .none ∨ ∃ T : Addr, v = rawInt T
theorem alive {T : Addr} {Q : Option Obj → Shared → Prop} {E : Value → Shared → Prop} {s : Shared} (h : ∀ r, Q r s) : wpAny (model prog w) A (loadIfAlive T) Q E s := by
  have h' : Q (s.heap.get? T) s := h _
  exact fun _ _ _ => h'
theorem isFree {z TI TO : Addr} {f0 : Value} {f1 : Bool} {Q : Bool → Shared → Prop} {E : Value → Shared → Prop} {s : Shared} (hz : ZIs s.heap z TI TO f0 f1) (h0 : F0 f0) (h1 : Q true s)
    (h2 : ∀ h' (T : Addr), ZIs h' z TI TO (rawInt T) true → Heap.SameBut z s.heap h' → Q false { s with heap := h' }) : wpAny (model prog w) A (Builtin.SmallTypes.ownedTupleIsFree (.ref z)) Q E s := by
  unfold Builtin.SmallTypes.ownedTupleIsFree
  refine wpAny_bind (wpAny_field hz rfl (x := f0) rfl ?_)
  rcases h0 with rfl | ⟨T, rfl⟩
  · exact wpAny_pure h1
  · show wpAny _ _ (loadIfAlive ((T : Int).toNat) >>= _) _ _ _
    rw [Int.toNat_natCast]
    refine wpAny_bind (alive fun r => ?_)
    cases r with
    | none => exact wpAny_pure h1
    | some o =>
      simp only [Option.isNone_some, Bool.false_eq_true, if_false]
      refine wpAny_bind (wpAny_field hz rfl (x := .bool f1) rfl ?_)
      cases f1 with
      | true =>
        rw [if_neg (show ¬ ((Value.bool true != Value.bool true) = true) from Bool.false_ne_true)]
        exact wpAny_pure (h2 s.heap T hz (Heap.SameBut.refl _ _))
      | false =>
        rw [if_pos (show (Value.bool false != Value.bool true) = true from rfl)]
        exact wpAny_bind (wpAny_setField_rec hz (by simp) fun h₁ hz₁ hs₁ => wpAny_pure (h2 h₁ T hz₁ hs₁))
theorem fold_push {α : Type} : ∀ (xs : List Value) (a : Array Value), xs.foldl (fun (b : Option α × Array Value) x => (none, b.2.push x)) (none, a) = (none, a ++ xs.toArray)
  | [], a => by simp
  | x :: xs, a => by
    rw [List.foldl_cons, fold_push xs (a.push x)]
    simp
structure Far (z TI TO : Addr) (l : List Rc) : Prop where
  ap : Apart l
  TIz : TI ≠ z
  TOz : TO ≠ z
  TITO : TI ≠ TO
  it : ∀ r ∈ l, r.1 ≠ z ∧ r.1 ≠ TI ∧ r.1 ≠ TO
  src : ∀ r ∈ l, r.2.1.2 ≠ z ∧ r.2.1.2 ≠ TO
theorem Far.nIt {z TI TO : Addr} {l : List Rc} (D : Far z TI TO l) : z ∉ l.map (·.1) ∧ TI ∉ l.map (·.1) ∧ TO ∉ l.map (·.1) := by
  refine ⟨fun h => ?_, fun h => ?_, fun h => ?_⟩ <;> (obtain ⟨r, hr, e⟩ := List.mem_map.mp h)
  · exact (D.it r hr).1 e
  · exact (D.it r hr).2.1 e
  · exact (D.it r hr).2.2 e
theorem zipN_item {z TI TO : Addr} {i : Nat} {l : List Rc} {f0 : Value} {f1 : Bool} {vs : List Value} {s : Shared} {E : Value → Shared → Prop} {Q : Value → Shared → Prop} (hne : l ≠ []) (D : Far z TI TO l)
    (hz : ZIs s.heap z TI TO f0 f1) (h0 : F0 f0) (hTI : Tup s.heap TI (l.map fun r => .ref r.1)) (hTO : Tup s.heap TO vs) (hvl : vs.length = l.length) (hl : l.length ≤ sizeLine) (rd : Rdy s.heap i l)
    (hQ : ∀ h' f0' f1' vs', ZIs h' z TI TO f0' f1' → F0 f0' → Tup h' TO vs' → vs'.length = l.length → (∀ r ∈ l, ItAt h' r.1 r.2.1 (i + 1)) → Tup h' s.heap.objs.size (col l i) → h'.objs.size = s.heap.objs.size + 1 →
      (∀ c o, c ≠ z → c ≠ TO → c ∉ l.map (·.1) → s.heap.get? c = some o → h'.get? c = some o) → Q (.ref s.heap.objs.size) { s with heap := h' }) :
    wpAny (model prog w) A (Builtin.«zip.__next__» ⟨[.ref z], []⟩) (fun fin s' => ∃ v, fin = .done (.ret v) ∧ Q v s') E s := by
  obtain ⟨nz, nTI, nTO⟩ := D.nIt
  have cl : (col l i).length = l.length := by simp
  show wpAny _ _ (field (.ref z) 2 >>= _) _ _ _
  refine wpAny_bind (wpAny_field hz rfl (x := .bool false) rfl ?_)
  show wpAny _ _ (field (.ref z) 3 >>= _) _ _ _
  refine wpAny_bind (wpAny_field hz rfl (x := .ref TI) rfl ?_)
  refine wpAny_bind (wpAny_seqItems hTI rfl ?_)
  have ne : (l.map fun r => Value.ref r.1).toArray.isEmpty = false := by cases l <;> simp at hne ⊢
  simp only [ne, Bool.false_eq_true, if_false]
  show wpAny _ _ (Builtin.SmallTypes.ownedTupleIsFree (.ref z) >>= _) _ _ _
  refine wpAny_bind (isFree hz h0 ?_ fun h₁ T hz₁ hs₁ => ?_)
  · simp only [if_true]
    refine wpAny_bind (wpAny_rule ?_)
    refine wpAny_bind (wpAny_field hz rfl (x := .ref TO) rfl ?_)
    refine wpAny_bind (wpAny_setField_rec hz (by simp) fun h₁ hz₁ hs₁ => ?_)
    replace hz₁ : ZIs h₁ z TI TO .ellipsis f1 := hz₁
    have rd1 : Rdy h₁ i l := fun r hr => ⟨(rd r hr).1.at fun o e => hs₁.extBut _ _ (D.it r hr).1 e, (rd r hr).2.1.at fun o e => hs₁.extBut _ _ (D.src r hr).1 e, (rd r hr).2.2⟩
    refine wpAny_bind (free_loop (TO := TO) (i := i) ?_ l [] vs _ _ _ D.ap rd1 nTO (fun r hr => (D.src r hr).2) (hs₁.extBut _ _ D.TOz hTO) hvl (by simpa using hvl ▸ hl) fun h2 z2 hT2 kp2 sz2 => ?_)
    · intro it k s Q E hn
      refine wpAny_bind (wpAny_onRaise ?_)
      show wpAny _ _ (Builtin.SmallTypes.nextOf (.ref it) >>= _) _ _ _
      refine wpAny_bind (wpAny_mono (hn _) (fun x s1 ⟨vs, hT, hv, q⟩ => wpAny_pure ?_) fun _ _ x => x)
      refine wpAny_bind (wpAny_seqItems hT rfl ?_)
      refine wpAny_bind (wpAny_updateSeq hT rfl ?_ (by simpa using hv) (by simp; omega))
      refine wpAny_bind (wpAny_letGo (wpAny_pure ?_))
      refine q _ ?_ (Heap.SameBut.update ..)
      show Heap.get? _ _ = _
      rw [Heap.get?_update_self _ hT rfl]
      simp [Obj.mapSeq]
    · show wpAny _ _ (seqItems? (.ref TO) >>= _) _ _ _
      have hT2' : Tup h2 TO (col l i) := by simpa using hT2
      refine wpAny_bind (wpAny_seqItems hT2' rfl ?_)
      refine wpAny_bind (wpAny_newTuple ?_ (by show (col l i).length ≤ sizeLine; rw [cl]; exact hl))
      have hsz : h2.objs.size = s.heap.objs.size := sz2.trans hs₁.1
      have hz2 : ZIs h2 z TI TO .ellipsis f1 := kp2 _ _ nz D.TOz.symm hz₁
      have hzlt : z < h2.objs.size := Heap.lt_size hz2
      show wpAny _ _ (Builtin.SmallTypes.ownedTupleHandOut (.ref z) (.ref h2.objs.size) >>= _) _ _ _
      refine wpAny_bind ?_
      unfold Builtin.SmallTypes.ownedTupleHandOut
      have hz₆ : ZIs (h2.push { cls := .type "tuple", data := .seq (col l i).toArray }) z TI TO .ellipsis f1 := Heap.get?_push_of_some _ hz2
      refine wpAny_bind (wpAny_setField_rec hz₆ (by simp) fun h₇ hz₇ hs₇ => ?_)
      replace hz₇ : ZIs h₇ z TI TO (rawInt h2.objs.size) f1 := hz₇
      refine wpAny_setField_rec hz₇ (by simp) fun h₈ hz₈ hs₈ => ?_
      replace hz₈ : ZIs h₈ z TI TO (rawInt h2.objs.size) false := hz₈
      have up : ∀ c o, c ≠ z → h2.get? c = some o → h₈.get? c = some o := fun c o c1 e => hs₈.extBut _ _ c1 (hs₇.extBut _ _ c1 (Heap.get?_push_of_some _ e))
      have hT₈ : Tup h₈ h2.objs.size (col l i) := hs₈.extBut _ _ (Nat.ne_of_gt hzlt) (hs₇.extBut _ _ (Nat.ne_of_gt hzlt) (Heap.get?_push_size _ rfl))
      have hz8 : h₈.objs.size = h2.objs.size + 1 := by rw [hs₈.1, hs₇.1, Heap.size_push]
      rw [hsz] at hz₈ hT₈ hz8
      refine wpAny_pure ⟨_, rfl, ?_⟩
      show Q (.ref h2.objs.size) _
      rw [hsz]
      exact hQ h₈ _ _ _ hz₈ (.inr ⟨_, rfl⟩) (up _ _ D.TOz hT2') cl (fun r hr => (z2 r hr).at fun o e => up _ o (D.it r hr).1 e) hT₈ hz8 fun c o c1 c2 c3 e => up c o c1 (kp2 c o c3 c2 (hs₁.extBut _ _ c1 e))
  · simp only [Bool.false_eq_true, if_false]
    refine wpAny_bind ?_
    rw [← Array.forIn_toList]
    have rd1 : Rdy h₁ i l := fun r hr => ⟨(rd r hr).1.at fun o e => hs₁.extBut _ _ (D.it r hr).1 e, (rd r hr).2.1.at fun o e => hs₁.extBut _ _ (D.src r hr).1 e, (rd r hr).2.2⟩
    refine held_loop (i := i) (ext := fun b x => ⟨none, b.2.push x⟩) ?_ l _ _ _ _ D.ap rd1 fun h2 z2 kp2 sz2 => ?_
    · intro it b s Q E hn
      refine wpAny_bind (wpAny_holding ?_)
      show wpAny _ _ (Builtin.SmallTypes.nextOf (.ref it) >>= _) _ _ _
      refine wpAny_bind (wpAny_mono hn (fun x s1 q => wpAny_pure ?_) fun _ _ x => x)
      exact wpAny_pure q
    · rw [fold_push (col l i) #[]]
      show wpAny _ _ (newTuple ((#[] ++ (col l i).toArray : Array Value)).toList >>= _) _ _ _
      rw [show ((#[] ++ (col l i).toArray : Array Value)).toList = col l i by simp]
      refine wpAny_bind (wpAny_newTuple ?_ (by show (col l i).length ≤ sizeLine; rw [cl]; exact hl))
      have hsz : h2.objs.size = s.heap.objs.size := sz2.trans hs₁.1
      have hz2 : ZIs h2 z TI TO (rawInt T) true := kp2 _ _ nz hz₁
      refine wpAny_pure ⟨_, rfl, ?_⟩
      show Q (.ref h2.objs.size) _
      have hp : Tup (h2.push { cls := .type "tuple", data := .seq (col l i).toArray }) h2.objs.size (col l i) := Heap.get?_push_size _ rfl
      have hz4 : (h2.push { cls := .type "tuple", data := .seq (col l i).toArray }).objs.size = h2.objs.size + 1 := Heap.size_push ..
      rw [hsz] at hp hz4 ⊢
      have up : ∀ c o, c ≠ z → c ∉ l.map (·.1) → s.heap.get? c = some o → (h2.push { cls := .type "tuple", data := .seq (col l i).toArray }).get? c = some o := fun c o c1 c2 e => Heap.get?_push_of_some _ (kp2 c o c2 (hs₁.extBut _ _ c1 e))
      exact hQ _ _ _ _ (Heap.get?_push_of_some _ hz2) (.inr ⟨_, rfl⟩) (up _ _ D.TOz nTO hTO) hvl (fun r hr => (z2 r hr).at fun o e => Heap.get?_push_of_some _ e) hp hz4 fun c o c1 c2 c3 e => up c o c1 c3 e
theorem zipN_end {z TI TO : Addr} {i : Nat} {r : Rc} {l : List Rc} {f0 : Value} {f1 : Bool} {vs : List Value} {s : Shared} {E : Value → Shared → Prop} {Q : Fin → Shared → Prop} (hh : A.handled = none) (D : Far z TI TO (r :: l))
    (hz : ZIs s.heap z TI TO f0 f1) (h0 : F0 f0) (hTI : Tup s.heap TI ((r :: l).map fun r => .ref r.1)) (r1 : ItAt s.heap r.1 r.2.1 i) (r2 : SqAt s.heap r.2.1 r.2.2) (r3 : r.2.2[i]? = none)
    (hE : ∀ h' e, (∀ c o, c ≠ z → c ≠ TO → c ∉ (r :: l).map (·.1) → s.heap.get? c = some o → h'.get? c = some o) → (∃ o, h'.get? e = some o ∧ o.cls = .type "StopIteration") → E (.ref e) { s with heap := h' }) :
    wpAny (model prog w) A (Builtin.«zip.__next__» ⟨[.ref z], []⟩) Q E s := by
  have hm := List.mem_cons_self (a := r) (l := l)
  have hn : ∀ c, c ∉ (r :: l).map (·.1) → c ≠ r.1 := fun c h e => h (by rw [e]; exact List.mem_cons_self ..)
  show wpAny _ _ (field (.ref z) 2 >>= _) _ _ _
  refine wpAny_bind (wpAny_field hz rfl (x := .bool false) rfl ?_)
  show wpAny _ _ (field (.ref z) 3 >>= _) _ _ _
  refine wpAny_bind (wpAny_field hz rfl (x := .ref TI) rfl ?_)
  refine wpAny_bind (wpAny_seqItems hTI rfl ?_)
  have ne : ((r :: l).map fun r => Value.ref r.1).toArray.isEmpty = false := by simp
  simp only [ne, Bool.false_eq_true, if_false]
  show wpAny _ _ (Builtin.SmallTypes.ownedTupleIsFree (.ref z) >>= _) _ _ _
  refine wpAny_bind (isFree hz h0 ?_ fun h₁ T hz₁ hs₁ => ?_)
  · simp only [if_true]
    refine wpAny_bind (wpAny_rule ?_)
    refine wpAny_bind (wpAny_field hz rfl (x := .ref TO) rfl ?_)
    refine wpAny_bind (wpAny_setField_rec hz (by simp) fun h₁ hz₁ hs₁ => ?_)
    replace hz₁ : ZIs h₁ z TI TO .ellipsis f1 := hz₁
    refine wpAny_bind ?_
    show wpAny _ _ (forIn ((Value.ref r.1 :: l.map fun r => Value.ref r.1).zipIdx) _ _) _ _ _
    rw [List.zipIdx_cons, List.forIn_cons]
    refine wpAny_bind (wpAny_bind (wpAny_onRaise ?_))
    show wpAny _ _ (Builtin.SmallTypes.nextOf (.ref r.1) >>= _) _ _ _
    refine wpAny_bind (next_end hh (r1.at fun o e => hs₁.extBut _ _ (D.it r hm).1 e) (r2.at fun o e => hs₁.extBut _ _ (D.src r hm).1 e) r3 fun h₂ e hs₂ he => ?_)
    obtain ⟨oe, hoe, hce⟩ := he
    have hz₂ : ZIs h₂ z TI TO .ellipsis f1 := hs₂ _ _ (D.it r hm).1.symm hz₁
    have hez : e ≠ z := fun x => by subst x; rw [hz₂] at hoe; cases hoe; simp at hce
    refine wpAny_setField_rec hz₂ (by simp) fun h₃ _ hs₃ => hE h₃ e (fun c o c1 _ c3 x => hs₃.extBut _ _ c1 (hs₂ _ _ (hn c c3) (hs₁.extBut _ _ c1 x))) ⟨oe, hs₃.extBut _ _ hez hoe, hce⟩
  · simp only [Bool.false_eq_true, if_false]
    refine wpAny_bind ?_
    rw [← Array.forIn_toList]
    show wpAny _ _ (forIn (Value.ref r.1 :: l.map fun r => Value.ref r.1) _ _) _ _ _
    rw [List.forIn_cons]
    refine wpAny_bind (wpAny_bind (wpAny_holding ?_))
    show wpAny _ _ (Builtin.SmallTypes.nextOf (.ref r.1) >>= _) _ _ _
    refine wpAny_bind (next_end hh (r1.at fun o e => hs₁.extBut _ _ (D.it r hm).1 e) (r2.at fun o e => hs₁.extBut _ _ (D.src r hm).1 e) r3 fun h₂ e hs₂ he => ?_)
    exact hE h₂ e (fun c o c1 _ c3 x => hs₂ _ _ (hn c c3) (hs₁.extBut _ _ c1 x)) he
theorem pyNextN_item {z TI TO : Addr} {i : Nat} {l : List Rc} {f0 : Value} {f1 : Bool} {vs : List Value} {s : Shared} {E : Value → Shared → Prop} {Q : Option Value → Shared → Prop} (hne : l ≠ []) (D : Far z TI TO l)
    (hz : ZIs s.heap z TI TO f0 f1) (h0 : F0 f0) (hTI : Tup s.heap TI (l.map fun r => .ref r.1)) (hTO : Tup s.heap TO vs) (hvl : vs.length = l.length) (hl : l.length ≤ sizeLine) (rd : Rdy s.heap i l)
    (hQ : ∀ h' f0' f1' vs', ZIs h' z TI TO f0' f1' → F0 f0' → Tup h' TO vs' → vs'.length = l.length → (∀ r ∈ l, ItAt h' r.1 r.2.1 (i + 1)) → Tup h' s.heap.objs.size (col l i) → h'.objs.size = s.heap.objs.size + 1 →
      (∀ c o, c ≠ z → c ≠ TO → c ∉ l.map (·.1) → s.heap.get? c = some o → h'.get? c = some o) → Q (some (.ref s.heap.objs.size)) { s with heap := h' }) :
    wpAny (model prog w) A (pyNext (.ref z)) Q E s := by
  have hT : s.TypeIs (.ref z) "zip" := ⟨_, hz, rfl⟩
  unfold pyNext
  exact wpAny_bind (wpAny_attempt (wpAny_callSpecial?_slot (name := Str.ofString "__next__") hT F.slot_zip_next
    (wpAny_call_entry F.slot_zip_next hT F.entry_zip_next
      (zipN_item hne D hz h0 hTI hTO hvl hl rd fun h' a b c a1 a2 a3 a4 a5 a6 a7 a8 => wpAny_pure (hQ h' a b c a1 a2 a3 a4 a5 a6 a7 a8)) (F.args_zip_next_1 _))))
theorem pyNextN_end {z TI TO : Addr} {i : Nat} {r : Rc} {l : List Rc} {f0 : Value} {f1 : Bool} {s : Shared} {E : Value → Shared → Prop} {Q : Option Value → Shared → Prop} (hh : A.handled = none) (D : Far z TI TO (r :: l))
    (hz : ZIs s.heap z TI TO f0 f1) (h0 : F0 f0) (hTI : Tup s.heap TI ((r :: l).map fun r => .ref r.1)) (r1 : ItAt s.heap r.1 r.2.1 i) (r2 : SqAt s.heap r.2.1 r.2.2) (r3 : r.2.2[i]? = none)
    (hQ : ∀ h', (∀ c o, c ≠ z → c ≠ TO → c ∉ (r :: l).map (·.1) → s.heap.get? c = some o → h'.get? c = some o) → Q none { s with heap := h' }) :
    wpAny (model prog w) A (pyNext (.ref z)) Q E s := by
  have hT : s.TypeIs (.ref z) "zip" := ⟨_, hz, rfl⟩
  unfold pyNext
  refine wpAny_bind (wpAny_attempt (wpAny_callSpecial?_slot (name := Str.ofString "__next__") hT F.slot_zip_next
    (wpAny_call_entry F.slot_zip_next hT F.entry_zip_next (zipN_end (vs := []) hh D hz h0 hTI r1 r2 r3 fun h' e hk he => ?_) (F.args_zip_next_1 _))))
  obtain ⟨o, ho, hc⟩ := he
  refine wpAny_bind (wpAny_isInstance (T := "StopIteration") (b := true) ⟨o, ho, hc⟩ isSubtype_stop ?_)
  exact wpAny_pure (hQ _ hk)
theorem pyIterN {z TI TO : Addr} {f0 : Value} {f1 : Bool} {Q : Value → Shared → Prop} {E : Value → Shared → Prop} {s : Shared} (hz : ZIs s.heap z TI TO f0 f1) (h : Q (.ref z) s) : wpAny (model prog w) A (pyIter (.ref z)) Q E s := by
  have hT : s.TypeIs (.ref z) "zip" := ⟨_, hz, rfl⟩
  refine wpAny_pyIter_slot hT F.slot_zip_iter (wpAny_call_entry F.slot_zip_iter hT F.entry_zip_iter ?_ (F.args_zip_iter_1 _))
  show wpAny _ _ (ret (.ref z)) _ _ s
  exact wpAny_pure ⟨_, rfl, "zip", _, hT, F.slot_zip_next.lookup, h⟩
def its : Nat → List Src → List (Addr × Src)
  | _, [] => []
  | n, c :: cs => (n, c) :: its (n + 1) cs
theorem its_len : ∀ (n : Nat) (cs : List Src), (its n cs).length = cs.length
  | _, [] => rfl
  | n, _ :: cs => congrArg (· + 1) (its_len (n + 1) cs)
theorem its_ge : ∀ (n : Nat) (cs : List Src) (p : Addr × Src), p ∈ its n cs → n ≤ p.1 ∧ p.1 < n + cs.length ∧ p.2 ∈ cs
  | _, [], _, h => by simp [its] at h
  | n, c :: cs, p, h => by
    rcases List.mem_cons.mp h with e | h
    · subst e
      exact ⟨Nat.le_refl _, by simp, List.mem_cons_self ..⟩
    · obtain ⟨a, b, d⟩ := its_ge (n + 1) cs p h
      refine ⟨Nat.le_of_succ_le a, ?_, List.mem_cons_of_mem _ d⟩
      exact Nat.lt_of_lt_of_le b (by simp; omega)
theorem its_nd : ∀ (n : Nat) (cs : List Src), ((its n cs).map (·.1)).Nodup
  | _, [] => List.nodup_nil
  | n, c :: cs => by
    refine List.nodup_cons.mpr ⟨fun h => ?_, its_nd (n + 1) cs⟩
    obtain ⟨p, hp, e⟩ := List.mem_map.mp h
    have h1 : n + 1 ≤ (p.1 : Nat) := (its_ge (n + 1) cs p hp).1
    have e' : (p.1 : Nat) = n := e
    rw [e'] at h1
    exact Nat.not_succ_le_self n h1
theorem iter_one {c : Src} {xs : Array Value} {Q : Value → Shared → Prop} {E : Value → Shared → Prop} {s : Shared} (hl : SqAt s.heap c xs)
    (h : ∀ h', ItAt h' s.heap.objs.size c 0 → (∀ a o, s.heap.get? a = some o → h'.get? a = some o) → h'.objs.size = s.heap.objs.size + 1 → Q (.ref s.heap.objs.size) { s with heap := h' }) : wpAny (model prog w) A (pyIter (.ref c.2)) Q E s := by
  rcases hl with ⟨e, hl⟩ | ⟨e, hl⟩
  · exact wpAny_pyIter_list hl (h _ (.inl ⟨e, _, Heap.get?_push_size _ rfl, rfl, rfl⟩) (fun a o q => Heap.get?_push_of_some _ q) (Heap.size_push ..))
  · exact wpAny_pyIter_tuple hl (h _ (.inr ⟨e, _, Heap.get?_push_size _ rfl, rfl, rfl⟩) (fun a o q => Heap.get?_push_of_some _ q) (Heap.size_push ..))
theorem iter_loop {body : Value → Array Value → Sem (ForInStep (Array Value))}
    (hb : ∀ (x : Value) (b : Array Value) (s : Shared) (Q : ForInStep (Array Value) → Shared → Prop) (E : Value → Shared → Prop), wpAny (model prog w) A (pyIter x) (fun v s1 => Q (.yield (b.push v)) s1) E s → wpAny (model prog w) A (body x b) Q E s) :
    ∀ (cs : List Src) (b : Array Value) (s : Shared) (Q : Array Value → Shared → Prop) (E : Value → Shared → Prop), (∀ c ∈ cs, ∃ xs, SqAt s.heap c xs) →
      (∀ h', (∀ p ∈ its s.heap.objs.size cs, ItAt h' p.1 p.2 0) → (∀ a o, s.heap.get? a = some o → h'.get? a = some o) → h'.objs.size = s.heap.objs.size + cs.length → Q (b ++ ((its s.heap.objs.size cs).map fun p => Value.ref p.1).toArray) { s with heap := h' }) →
      wpAny (model prog w) A (forIn (cs.map fun c => Value.ref c.2) b body) Q E s
  | [], b, s, Q, E, _, k => by
    refine wpAny_pure ?_
    have := k s.heap (fun p h => absurd h (by simp [its])) (fun _ _ e => e) rfl
    simpa [its] using this
  | c :: cs, b, s, Q, E, hc, k => by
    obtain ⟨xs, hx⟩ := hc c (List.mem_cons_self ..)
    rw [List.map_cons, List.forIn_cons]
    refine wpAny_bind (hb _ _ _ _ _ (iter_one hx fun h1 i1 k1 z1 => ?_))
    refine iter_loop hb cs _ _ Q E (fun c' h' => ?_) fun h2 i2 k2 z2 => ?_
    · obtain ⟨ys, hy⟩ := hc c' (List.mem_cons_of_mem _ h')
      exact ⟨ys, hy.at fun o e => k1 _ o e⟩
    · have := k h2 (fun p hp => ?_) (fun a o e => k2 a o (k1 a o e)) (by rw [z2]; show h1.objs.size + _ = _; rw [z1]; simp; omega)
      · refine cast (congrArg (fun b => Q b _) ?_) this
        show b ++ _ = (b.push _) ++ ((its h1.objs.size cs).map _).toArray
        rw [z1]
        simp [its]
      · rcases List.mem_cons.mp hp with e | hp
        · subst e
          exact i1.at fun o e => k2 _ o e
        · refine i2 p ?_
          show p ∈ its h1.objs.size cs
          rw [z1]; exact hp
theorem iterAllN {cs : List Src} {s : Shared} {Q : List Value → Shared → Prop} {E : Value → Shared → Prop} (hc : ∀ c ∈ cs, ∃ xs, SqAt s.heap c xs)
    (k : ∀ h', (∀ p ∈ its s.heap.objs.size cs, ItAt h' p.1 p.2 0) → (∀ a o, s.heap.get? a = some o → h'.get? a = some o) → h'.objs.size = s.heap.objs.size + cs.length → Q ((its s.heap.objs.size cs).map fun p => Value.ref p.1) { s with heap := h' }) :
    wpAny (model prog w) A (Builtin.SmallTypes.iterAll (cs.map fun c => Value.ref c.2)) Q E s := by
  unfold Builtin.SmallTypes.iterAll
  refine wpAny_bind (iter_loop ?_ cs #[] s _ _ hc fun h' i1 k1 z1 => wpAny_pure ?_)
  · intro x b s Q E h
    refine wpAny_bind (wpAny_holding (wpAny_mono h (fun v s1 q => ?_) fun _ _ x => x))
    exact wpAny_pure q
  · have := k h' i1 k1 z1
    simpa using this
end
abbrev nh2 (hp h1 : Heap) (cs : List Src) : Heap := h1.push { cls := .type "tuple", data := .seq ((its hp.objs.size cs).map fun p => Value.ref p.1).toArray }
abbrev nh3 (hp h1 : Heap) (cs : List Src) : Heap := (nh2 hp h1 cs).push { cls := .type "tuple", data := .seq (((its hp.objs.size cs).map fun p => Value.ref p.1).map fun _ => .none).toArray }
abbrev nh4 (hp h1 : Heap) (cs : List Src) : Heap := (nh3 hp h1 cs).push { cls := .type "zip", data := .fields #[.none, .bool false, .bool false, .ref h1.objs.size, .ref (nh2 hp h1 cs).objs.size] }
theorem meets_zipN_new (cs : List Src) (hl : cs.length ≤ sizeLine) :
    Meets (Builtin.«zip.__new__» ⟨.type "zip" :: cs.map fun c => Value.ref c.2, []⟩) (fun _ R s => (∀ c ∈ cs, ∃ xs, SqAt s.heap c xs) ∧
      ∀ h', (∀ p ∈ its s.heap.objs.size cs, ItAt h' p.1 p.2 0) → Tup h' (s.heap.objs.size + cs.length) ((its s.heap.objs.size cs).map fun p => Value.ref p.1) → Tup h' (s.heap.objs.size + cs.length + 1) ((its s.heap.objs.size cs).map fun _ => .none) →
        ZIs h' (s.heap.objs.size + cs.length + 2) (s.heap.objs.size + cs.length) (s.heap.objs.size + cs.length + 1) .none false → (∀ a o, s.heap.get? a = some o → h'.get? a = some o) → h'.objs.size = s.heap.objs.size + cs.length + 3 →
        R (.ok (.ret (.ref (s.heap.objs.size + cs.length + 2)))) { s with heap := h' }) :=
  .of_wp fun prog w A R s h => by
    obtain ⟨hp, g, d, tk, os⟩ := s; obtain ⟨hc, h⟩ := h
    have hsub := sub_zip
    have hC : ∀ c ∈ cs, ∃ xs, SqAt (Shared.heap ⟨hp, g, d, tk, os⟩) c xs := hc
    unfold Builtin.«zip.__new__»
    wp_walk using iterAllN hC
    intro h1 i1 k1 z1
    replace z1 : h1.objs.size = hp.objs.size + cs.length := z1
    have l1 : ((its hp.objs.size cs).map fun p => Value.ref p.1).length ≤ sizeLine := by rw [List.length_map, its_len]; exact hl
    refine wpAny_bind (wpAny_newTuple ?_ l1)
    refine wpAny_bind (wpAny_newTuple ?_ (by rw [List.length_map]; exact l1))
    wp_walk
    refine ⟨_, rfl, ?_⟩
    have e2 : (nh2 hp h1 cs).objs.size = hp.objs.size + cs.length + 1 := by rw [Heap.size_push, z1]
    have e3 : (nh3 hp h1 cs).objs.size = hp.objs.size + cs.length + 2 := by rw [Heap.size_push, e2]
    have e4 : (nh4 hp h1 cs).objs.size = hp.objs.size + cs.length + 3 := by rw [Heap.size_push, e3]
    show R (.ok (.ret (.ref (nh3 hp h1 cs).objs.size))) ⟨nh4 hp h1 cs, g, d, tk, os⟩
    have up1 : ∀ a o, h1.get? a = some o → (nh4 hp h1 cs).get? a = some o := fun a o q => Heap.get?_push_of_some _ (Heap.get?_push_of_some _ (Heap.get?_push_of_some _ q))
    have g2 : Tup (nh4 hp h1 cs) h1.objs.size ((its hp.objs.size cs).map fun p => Value.ref p.1) := Heap.get?_push_of_some _ (Heap.get?_push_of_some _ (Heap.get?_push_size _ rfl))
    have g3 : Tup (nh4 hp h1 cs) (nh2 hp h1 cs).objs.size (((its hp.objs.size cs).map fun p => Value.ref p.1).map fun _ => .none) := Heap.get?_push_of_some _ (Heap.get?_push_size _ rfl)
    have g4 : ZIs (nh4 hp h1 cs) (nh3 hp h1 cs).objs.size h1.objs.size (nh2 hp h1 cs).objs.size .none false := Heap.get?_push_size _ rfl
    rw [z1] at g2 g4
    rw [e2] at g3 g4
    rw [e3] at g4 ⊢
    exact h (nh4 hp h1 cs) (fun p hp => (i1 p hp).at fun o q => up1 _ o q) g2 (by rw [List.map_map] at g3; exact g3) g4 (fun a o q => up1 a o (k1 a o q)) e4
section
variable {prog : Program} {w : World} {A : Around} {E : Value → Shared → Prop} {s : Shared}
theorem typeCall_zip (vs : List Value) : checkTypeCall "zip" ⟨vs, []⟩ = pure () := by kernel_rfl
theorem newCall_zip (v : Value) (vs : List Value) : checkBuiltinCall "zip.__new__" ⟨.type "zip" :: v :: vs, []⟩ = pure () := by kernel_rfl
theorem args_init (o : Value) (vs : List Value) : argsOk "object.__init__" ⟨o :: vs, []⟩ := by
  unfold argsOk; rw [signature?_of (id := "object.__init__") (n := ['_', '_', 't', 'i', 'n', 'i', '_', '_']) (o := ['t', 'c', 'e', 'j', 'b', 'o']) (by kernel_rfl) F.owner_object]; kernel_rfl
theorem call_zipN {cs : List Src} {Q : Value → Shared → Prop} (hne : cs ≠ []) (hl : cs.length ≤ sizeLine) (hc : ∀ c ∈ cs, ∃ xs, SqAt s.heap c xs)
    (h : ∀ h', (∀ p ∈ its s.heap.objs.size cs, ItAt h' p.1 p.2 0) → Tup h' (s.heap.objs.size + cs.length) ((its s.heap.objs.size cs).map fun p => Value.ref p.1) → Tup h' (s.heap.objs.size + cs.length + 1) ((its s.heap.objs.size cs).map fun _ => .none) →
        ZIs h' (s.heap.objs.size + cs.length + 2) (s.heap.objs.size + cs.length) (s.heap.objs.size + cs.length + 1) .none false → (∀ a o, s.heap.get? a = some o → h'.get? a = some o) → h'.objs.size = s.heap.objs.size + cs.length + 3 →
        Q (.ref (s.heap.objs.size + cs.length + 2)) { s with heap := h' }) :
    wpAny (model prog w) A (call (.type "zip") (cs.map fun c => Value.ref c.2)) Q E s := by
  cases cs with
  | nil => exact absurd rfl hne
  | cons c cs =>
    refine callType_new F.called_zip (by decide) (typeCall_zip _) (newCall_zip _ _) (fun obj => args_init obj _) F.entry_zip_new (meets_zipN_new (c :: cs) hl) ⟨hc, fun h' a1 a2 a3 a4 a5 a6 => ?_⟩
    exact ⟨⟨_, a4, rfl⟩, h h' a1 a2 a3 a4 a5 a6⟩
end
end ZN

end
section
set_option Elab.async false
set_option linter.all false
set_option maxRecDepth 100000
set_option maxHeartbeats 2000000
/-! ZIPN2: zip(*xs), the loop's target one name; in the hand layer -/
namespace ZN
open PySem PySem.Spec PyProof.Rows L2 RZ
def Sq (K : PySem.W.Frag) (H : Hp) (c : Src) (xs : List V) : Prop := (c.1 = true ∧ SqL K H c.2 xs) ∨ (c.1 = false ∧ SqT K H c.2 xs)
def ItzN (K : PySem.W.Frag) (cs : List Src) : It :=
  ⟨fun i H => cs ≠ [] ∧ ∀ c ∈ cs, ∃ xs, Sq K H c xs ∧ i < xs.length,
    fun i H v H' => ∃ T ys, v = .ref T ∧ H T = none ∧ H' = upd H T (.tup ys) ∧ ys.length = cs.length ∧ ∀ (k : Nat) (c : Src) (y : V), cs[k]? = some c → ys[k]? = some y → ∀ xs, Sq K H c xs → xs[i]? = some y,
    fun i H => ∃ c cs', cs = c :: cs' ∧ ∃ xs, Sq K H c xs ∧ xs.length ≤ i⟩
theorem sq_at {X : Cx} {pins : List (Addr × Obj)} {σ : L2.St} {H : Hp} {s : Shared} {c : Src} {xs : List V} (I : Inv X pins σ H s) (q : Sq X.K H c xs) : ∃ us : List Value, Vals xs us ∧ SqAt s.heap c us.toArray := by
  rcases q with ⟨e, q⟩ | ⟨e, q⟩
  · obtain ⟨its, rv, p, _⟩ := I.list q
    exact ⟨its, rv, .inl ⟨e, p.isList⟩⟩
  · obtain ⟨its, rv, p, _⟩ := I.tuple q
    exact ⟨its, rv, .inr ⟨e, p⟩⟩
theorem sq_inj {X : Cx} {pins : List (Addr × Obj)} {σ : L2.St} {H : Hp} {s : Shared} {c : Src} {xs ys : List V} (I : Inv X pins σ H s) (q : Sq X.K H c xs) (q' : Sq X.K H c ys) : xs = ys := by
  rcases q with ⟨e, q⟩ | ⟨e, q⟩
  · rcases q' with ⟨_, q'⟩ | ⟨e', _⟩
    · exact I.list_inj q q'
    · rw [e] at e'; cases e'
  · rcases q' with ⟨e', _⟩ | ⟨_, q'⟩
    · rw [e] at e'; cases e'
    · exact I.tuple_inj q q'
theorem rcs {X : Cx} {pins : List (Addr × Obj)} {σ : L2.St} {H : Hp} {s : Shared} {i : Nat} (I : Inv X pins σ H s) : ∀ (ps : List (Addr × Src)), (∀ p ∈ ps, ∃ xs, Sq X.K H p.2 xs ∧ i < xs.length) → (∀ p ∈ ps, ItAt s.heap p.1 p.2 i) →
    ∃ l : List Rc, l.map (fun r => (r.1, r.2.1)) = ps ∧ Rdy s.heap i l ∧ ∃ ys : List V, Vals ys (col l i) ∧ ys.length = ps.length ∧ ∀ (k : Nat) (p : Addr × Src) (y : V), ps[k]? = some p → ys[k]? = some y → ∀ xs, Sq X.K H p.2 xs → xs[i]? = some y
  | [], _, _ => ⟨[], rfl, fun r h => absurd h (by simp), [], .nil, rfl, fun k p y h => by simp at h⟩
  | p :: ps, hs, hi => by
    obtain ⟨l, e, rd, ys, rv, hl, hy⟩ := rcs I ps (fun q hq => hs q (List.mem_cons_of_mem _ hq)) fun q hq => hi q (List.mem_cons_of_mem _ hq)
    obtain ⟨xs, q, hlt⟩ := hs p (List.mem_cons_self ..)
    obtain ⟨us, rx, at_⟩ := sq_at I q
    have hx : xs[i]? = some xs[i] := List.getElem?_eq_getElem hlt
    obtain ⟨u, hu, ru⟩ := rx.get hx
    have hul : i < us.length := by rw [← rx.length]; exact hlt
    have eu : us.toArray.getD i .none = u := by
      have : us[i]? = some us[i] := List.getElem?_eq_getElem hul
      rw [this] at hu
      simp [hul]
      exact Option.some.inj hu
    refine ⟨(p.1, p.2, us.toArray) :: l, by simp [e], fun r hr => ?_, xs[i] :: ys, ?_, by simp [hl], fun k p' y h1 h2 xs' q' => ?_⟩
    · rcases List.mem_cons.mp hr with e | hr
      · subst e
        exact ⟨hi p (List.mem_cons_self ..), at_, by simpa using hul⟩
      · exact rd r hr
    · show Vals (xs[i] :: ys) (us.toArray.getD i .none :: col l i)
      rw [eu]
      exact .cons ru rv
    · cases k with
      | zero =>
        cases h1; cases h2
        rw [sq_inj I q' q]; exact hx
      | succ k => exact hy k p' y h1 h2 xs' q'
structure FarP (z TI TO : Addr) (ps : List (Addr × Src)) : Prop where
  nd : (ps.map (·.1)).Nodup
  ap : ∀ p ∈ ps, ∀ q ∈ ps, p.2.2 ≠ q.1
  TIz : TI ≠ z
  TOz : TO ≠ z
  TITO : TI ≠ TO
  it : ∀ p ∈ ps, p.1 ≠ z ∧ p.1 ≠ TI ∧ p.1 ≠ TO
  src : ∀ p ∈ ps, p.2.2 ≠ z ∧ p.2.2 ≠ TO
theorem FarP.far {z TI TO : Addr} {ps : List (Addr × Src)} {l : List Rc} (D : FarP z TI TO ps) (e : l.map (fun r => (r.1, r.2.1)) = ps) : Far z TI TO l := by
  subst e
  have hm : ∀ r ∈ l, (r.1, r.2.1) ∈ l.map (fun r => (r.1, r.2.1)) := fun r hr => List.mem_map_of_mem (f := fun r : Rc => (r.1, r.2.1)) hr
  refine ⟨⟨?_, fun r hr r' hr' => D.ap _ (hm r hr) _ (hm r' hr')⟩, D.TIz, D.TOz, D.TITO, fun r hr => D.it _ (hm r hr), fun r hr => D.src _ (hm r hr)⟩
  have := D.nd
  rw [List.map_map] at this
  exact this
theorem key1 {l : List Rc} {ps : List (Addr × Src)} (e : l.map (fun r => (r.1, r.2.1)) = ps) : l.map (·.1) = ps.map (·.1) := by
  rw [← e, List.map_map]; rfl
theorem keyV {l : List Rc} {ps : List (Addr × Src)} (e : l.map (fun r => (r.1, r.2.1)) = ps) : (l.map fun r => Value.ref r.1) = ps.map fun p => Value.ref p.1 := by
  rw [← e, List.map_map]; rfl
def tnN (z TI TO : Addr) (ps : List (Addr × Src)) (i : Nat) (h : Heap) : Prop :=
  (∃ f0 f1, ZIs h z TI TO f0 f1 ∧ F0 f0) ∧ Tup h TI (ps.map fun p => .ref p.1) ∧ (∃ vs, Tup h TO vs ∧ vs.length = ps.length) ∧ ∀ p ∈ ps, ItAt h p.1 p.2 i
theorem itAt_obj {h : Heap} {it : Addr} {c : Src} {i : Nat} (x : ItAt h it c i) : ∃ o, h.get? it = some o ∧ ∀ v, o.data ≠ .cell v := by
  rcases x with ⟨_, o, e, _, d⟩ | ⟨_, o, e, _, d⟩ <;> exact ⟨o, e, fun v q => by rw [d] at q; cases q⟩
theorem turn_zipN {P : Program} {w : World} {K : PySem.W.Frag} {x : Str} {tpos : Pos} {z TI TO : Addr} {ps : List (Addr × Src)} (hne : ps ≠ []) (hz : ps.length ≤ sizeLine) (D : FarP z TI TO ps) :
    Turn P w K (.Name x tpos) (ItzN K (ps.map (·.2))) (z :: TI :: TO :: ps.map (·.1)) z (tnN z TI TO ps) where
  mem := by simp
  obj := fun i h st c hc => by
    obtain ⟨⟨f0, f1, h1, _⟩, h2, ⟨vs, h3, _⟩, h4⟩ := st
    rcases List.mem_cons.mp hc with q | hc
    · rw [q]; exact ⟨_, h1, fun v q => nomatch q⟩
    rcases List.mem_cons.mp hc with q | hc
    · rw [q]; exact ⟨_, h2, fun v q => nomatch q⟩
    rcases List.mem_cons.mp hc with q | hc
    · rw [q]; exact ⟨_, h3, fun v q => nomatch q⟩
    obtain ⟨p, hp, e⟩ := List.mem_map.mp hc
    rw [← e]
    exact itAt_obj (h4 p hp)
  keep := fun i h h' st k => by
    obtain ⟨⟨f0, f1, h1, h0⟩, h2, ⟨vs, h3, hl⟩, h4⟩ := st
    exact ⟨⟨f0, f1, k _ (by simp) _ h1, h0⟩, k _ (by simp) _ h2, ⟨vs, k _ (by simp) _ h3, hl⟩, fun p hp => (h4 p hp).at fun o e => k _ (List.mem_cons_of_mem _ (List.mem_cons_of_mem _ (List.mem_cons_of_mem _ (List.mem_map_of_mem hp)))) o e⟩
  item := by
    intro X hP hw hK hc i pins s σ H E I hf st hg
    subst hP hw hK
    obtain ⟨⟨f0, f1, h1, h0⟩, h2, ⟨vs, h3, hl⟩, h4⟩ := st
    obtain ⟨_, hg⟩ := hg
    obtain ⟨l, e, rd, ys, rv, hyl, hy⟩ := rcs I ps (fun p hp => hg p.2 (List.mem_map_of_mem hp)) h4
    have lne : l ≠ [] := fun q => hne (by rw [← e, q]; rfl)
    have ll : l.length = ps.length := by rw [← e, List.length_map]
    refine pyNextN_item lne (D.far e) h1 h0 (by rw [keyV e]; exact h2) h3 (by rw [hl, ll]) (by rw [ll]; exact hz) rd fun h' f0' f1' vs' z1 z0 z3 zl z4 zT zs hk => ?_
    rw [key1 e] at hk
    refine ⟨_, rfl, ?_⟩
    show wpAny _ _ (pure ()) _ _ _
    refine wpAny_pure ?_
    have new : ObjOk X.prog X.w (upd H s.heap.objs.size (.tup ys)) h' s.heap.objs.size (.tup ys) :=
      ⟨by rw [hyl]; exact hz, col l i, rv, ⟨_, zT, rfl, _, rfl⟩⟩
    have I1 : Inv X pins σ (upd H s.heap.objs.size (.tup ys)) { s with heap := h' } :=
      I.turnedNew (t' := s.toks) (ch := z :: TI :: TO :: ps.map (·.1)) (fun c o hb q => hk c o (fun q' => hb (by simp [q'])) (fun q' => hb (by simp [q'])) (fun q' => hb (List.mem_cons_of_mem _ (List.mem_cons_of_mem _ (List.mem_cons_of_mem _ q')))) q) hf (Nat.le_refl _) new
    refine ⟨.ref s.heap.objs.size, _, I1, rfl, ⟨_, ys, rfl, I.hok.fresh (Nat.le_refl _), rfl, by rw [hyl, List.length_map], fun k c y q1 q2 xs q3 => ?_⟩, ⟨⟨f0', f1', z1, z0⟩, ?_, ⟨vs', z3, by rw [zl, ll]⟩, fun p hp => ?_⟩, fun c hcm => ?_⟩
    · rw [List.getElem?_map] at q1
      cases hpk : ps[k]? with
      | none => rw [hpk] at q1; cases q1
      | some p =>
        rw [hpk] at q1
        cases q1
        exact hy k p y hpk q2 xs q3
    · refine hk _ _ D.TIz D.TITO (fun q => ?_) h2
      obtain ⟨p, hp, e⟩ := List.mem_map.mp q
      exact (D.it p hp).2.1 e
    · rw [← e] at hp
      obtain ⟨r, hr, q⟩ := List.mem_map.mp hp
      have := z4 r hr
      rw [← q]; exact this
    · have hlt : c < s.heap.objs.size := by
        rcases List.mem_cons.mp hcm with q | hcm
        · rw [q]; exact Heap.lt_size h1
        rcases List.mem_cons.mp hcm with q | hcm
        · rw [q]; exact Heap.lt_size h2
        rcases List.mem_cons.mp hcm with q | hcm
        · rw [q]; exact Heap.lt_size h3
        obtain ⟨p, hp, e⟩ := List.mem_map.mp hcm
        obtain ⟨o, ho⟩ := (h4 p hp).there
        rw [← e]; exact Heap.lt_size ho
      rw [upd_ne (Nat.ne_of_lt hlt)]
      exact (hf c hcm).1
  done := by
    intro X hP hw hK hc i pins s σ H E I hf st hg
    subst hP hw hK
    obtain ⟨⟨f0, f1, h1, h0⟩, h2, ⟨vs, h3, hl⟩, h4⟩ := st
    obtain ⟨c, cs', ec, xs, q, hle⟩ := hg
    cases ps with
    | nil => exact absurd rfl hne
    | cons p ps =>
      cases ec
      obtain ⟨us, rx, at_⟩ := sq_at I q
      have e : ((p.1, p.2, us.toArray) :: ps.map (fun p => ((p.1, p.2, #[]) : Rc))).map (fun r => (r.1, r.2.1)) = p :: ps := by
        simp [List.map_map, Function.comp_def]
      refine pyNextN_end (r := (p.1, p.2, us.toArray)) (l := ps.map (fun p => ((p.1, p.2, #[]) : Rc))) (I.ok.hd hc) (D.far e) h1 h0 (by rw [keyV e]; exact h2) (h4 p (List.mem_cons_self ..)) at_ ?_ fun h' hk => ⟨rfl, ?_⟩
      · have := rx.length
        simp; omega
      · rw [key1 e] at hk
        exact I.turnedL (t' := s.toks) (ch := z :: TI :: TO :: (p :: ps).map (·.1)) (fun c o hb q => hk c o (fun q' => hb (by simp [q'])) (fun q' => hb (by simp [q'])) (fun q' => hb (List.mem_cons_of_mem _ (List.mem_cons_of_mem _ (List.mem_cons_of_mem _ q')))) q) hf
  self := fun A i s Q E st h => by
    obtain ⟨⟨f0, f1, h1, _⟩, _⟩ := st
    exact pyIterN h1 h
def iZipS (K : PySem.W.Frag) (te : TE) : TI := fun σ H R => te σ H fun v H1 => ∃ (a : Addr) (cs : List Src), v = .ref a ∧ (SqT K H1 a (cs.map fun c => V.ref c.2) ∨ SqL K H1 a (cs.map fun c => V.ref c.2)) ∧ cs ≠ [] ∧ cs.length ≤ sizeLine ∧ (∀ c ∈ cs, ∃ xs, Sq K H1 c xs) ∧ R (ItzN K cs) H1
theorem vals_refs : ∀ {cs : List Src} {us : List Value}, Vals (cs.map fun c => V.ref c.2) us → us = cs.map fun c => Value.ref c.2
  | [], _, .nil => rfl
  | c :: cs, _, .cons r t => by
    cases r
    rw [vals_refs t]; rfl
theorem its_src : ∀ (n : Nat) (cs : List Src), (its n cs).map (·.2) = cs
  | _, [] => rfl
  | n, c :: cs => congrArg (c :: ·) (its_src (n + 1) cs)
theorem pi_zipS {X : Cx} {e : Expr} {te : TE} {p p2 pos tpos : Pos} {x : Str} (hg : Gl X "zip") (hm : X.mg "zip" = none) (ha : PE X e te)
    (hst : starEach [.Starred e p2] X.env = [(true, eval e X.env)] := by rfl) :
    PI X (.Name x tpos) (.Call (.Name "zip" p) [.Starred e p2] [] pos) (iZipS X.K te) := by
  refine ⟨fun pins s σ H R I h => ?_⟩
  refine Call_ (ld_blt I hg hm PyProof.Rows.boot_zip ?_)
  rw [hst]
  refine PySem.W.ks_call (P := fun _ => True) rfl (fun h _ => ⟨.machine, .inr (.inl rfl), PySem.W.Looks.now⟩) (PySem.W.ks_lone (thn (ha.run pins s σ H _ I h) fun v s1 ⟨y, H1, I1, ry, q1⟩ => ?_))
  obtain ⟨a, cs, ey, hq, hne, hl, hc, q⟩ := q1
  subst ey
  obtain rfl : v = Value.ref a := ry
  refine StX.star_any I1 hq fun us s2 I2 rv => ⟨trivial, ?_⟩
  rw [vals_refs rv]
  show wpAny _ _ (call (.type "zip") (cs.map fun c => Value.ref c.2)) _ _ _
  have hat : ∀ c ∈ cs, ∃ xs, SqAt s2.heap c xs := fun c hm => by
    obtain ⟨xs, z⟩ := hc c hm
    obtain ⟨us, _, at_⟩ := sq_at I2 z
    exact ⟨_, at_⟩
  refine call_zipN hne hl hat fun h' a1 a2 a3 a4 a5 a6 => ?_
  refine pyIterN a4 ?_
  have I3 : Inv X pins σ H1 { s2 with heap := h' } := I2.kept (t' := s2.toks) a5
  have lne : its s2.heap.objs.size cs ≠ [] := fun q => hne (by have := its_len s2.heap.objs.size cs; rw [q] at this; exact List.length_eq_zero_iff.mp this.symm)
  have lt : ∀ p ∈ its s2.heap.objs.size cs, p.2.2 < s2.heap.objs.size := fun p hp => by
    obtain ⟨xs, z⟩ := hat p.2 (its_ge _ _ p hp).2.2
    obtain ⟨o, ho⟩ := z.there
    exact Heap.lt_size ho
  have D : FarP (s2.heap.objs.size + cs.length + 2) (s2.heap.objs.size + cs.length) (s2.heap.objs.size + cs.length + 1) (its s2.heap.objs.size cs) := by
    refine ⟨its_nd _ _, fun p hp q hq e => ?_, ?_, ?_, ?_, fun p hp => ?_, fun p hp => ?_⟩
    · exact Nat.lt_irrefl _ (Nat.lt_of_lt_of_le (e ▸ lt p hp) (its_ge _ _ q hq).1)
    · exact Nat.ne_of_lt (by omega)
    · exact Nat.ne_of_lt (by omega)
    · exact Nat.ne_of_lt (by omega)
    · have := (its_ge _ _ p hp).2.1
      exact ⟨Nat.ne_of_lt (Nat.lt_of_lt_of_le this (by omega)), Nat.ne_of_lt this, Nat.ne_of_lt (Nat.lt_of_lt_of_le this (by omega))⟩
    · exact ⟨Nat.ne_of_lt (Nat.lt_of_lt_of_le (lt p hp) (by omega)), Nat.ne_of_lt (Nat.lt_of_lt_of_le (lt p hp) (by omega))⟩
  have T := turn_zipN (P := X.prog) (w := X.w) (K := X.K) (x := x) (tpos := tpos) lne (by rw [its_len]; exact hl) D
  rw [its_src] at T
  refine ⟨_, _, _, _, H1, rfl, I3, T, ⟨⟨_, _, a4, .inl rfl⟩, a2, ⟨_, a3, by simp⟩, a1⟩, fun b hb => ?_, q⟩
  have hge : s2.heap.objs.size ≤ b := by
    rcases List.mem_cons.mp hb with q | hb
    · rw [q]; omega
    rcases List.mem_cons.mp hb with q | hb
    · rw [q]; omega
    rcases List.mem_cons.mp hb with q | hb
    · rw [q]; omega
    obtain ⟨p, hp, e⟩ := List.mem_map.mp hb
    rw [← e]; exact (its_ge _ _ p hp).1
  exact I2.fpOk hge (I2.hok.fresh hge)
end ZN

end
section
set_option Elab.async false
set_option linter.all false
set_option maxRecDepth 100000
set_option maxHeartbeats 2000000
/-! DL6: zip(*xs), max and min of a tuple -/
namespace Cl
open PySem L2 RZ ZN
def isSq : PyData → Option (List PyData)
  | .list xs => some xs
  | .tuple xs => some xs
  | _ => none
def itemsOf (d : PyData) : List PyData := (isSq d).getD []
/-- the columns of a table -/
def colsD (ds : List PyData) (n : Nat) : List PyData := (List.range n).map fun i => .tuple (ds.map fun d => (itemsOf d).getD i .none)
section
variable {K : PySem.W.Frag} {H H' : Hp}
theorem Dx.sq {v : V} {d : PyData} {xs : List PyData} (x : Dx K H v d) (e : isSq d = some xs) : ∃ (c : Src) (vs : List V), v = .ref c.2 ∧ (∀ H', Same H H' → Sq K H' c vs) ∧ DxAll K H vs (itemsOf d) := by
  cases x with
  | @lst a vs ds q r => exact ⟨(true, a), vs, rfl, fun H' s => .inl ⟨rfl, SqL.of (s _ _ q)⟩, r⟩
  | @tup a vs ds q r => exact ⟨(false, a), vs, rfl, fun H' s => .inr ⟨rfl, sqT_mono s q⟩, r⟩
  | _ => cases e
theorem DxAll.sqs : ∀ {vs : List V} {ds : List PyData}, DxAll K H vs ds → (∀ d ∈ ds, ∃ xs, isSq d = some xs) →
    ∃ cs : List Src, vs = cs.map (fun c => .ref c.2) ∧ cs.length = ds.length ∧ ∀ (k : Nat) (c : Src), cs[k]? = some c → ∃ d ws, ds[k]? = some d ∧ (∀ H', Same H H' → Sq K H' c ws) ∧ DxAll K H ws (itemsOf d)
  | _, _, .nil, _ => ⟨[], rfl, rfl, fun k c h => by simp at h⟩
  | _, _, .cons x y, hs => by
    obtain ⟨xs, e⟩ := hs _ (List.mem_cons_self ..)
    obtain ⟨c, ws, ev, hc, hd⟩ := x.sq e
    obtain ⟨cs, e1, e2, e3⟩ := DxAll.sqs y fun d h => hs d (List.mem_cons_of_mem _ h)
    refine ⟨c :: cs, by rw [ev, e1]; rfl, by simp [e2], fun k c' h => ?_⟩
    cases k with
    | zero => cases h; exact ⟨_, ws, rfl, hc, hd⟩
    | succ k => exact e3 k c' h
theorem DxAll.of_get : ∀ {vs : List V} {ds : List PyData}, vs.length = ds.length → (∀ (k : Nat) v d, vs[k]? = some v → ds[k]? = some d → Dx K H v d) → DxAll K H vs ds
  | [], [], _, _ => .nil
  | [], _ :: _, h, _ => by simp at h
  | _ :: _, [], h, _ => by simp at h
  | v :: vs, d :: ds, h, k => .cons (k 0 v d rfl rfl) (DxAll.of_get (by simpa using h) fun j v d a b => k (j + 1) v d a b)
end
section
variable {T : Type} {C : Cc T} {G : Gm} {s : T} {te : TE}
theorem ei_zipN {Pi : List A → T → Prop} (e : EvE C te G s fun x s1 => ∃ ds n, (x = .d (.tuple ds) ∨ x = .d (.list ds)) ∧ ds ≠ [] ∧ ds.length ≤ 100000 ∧ (∀ d ∈ ds, ∃ xs, isSq d = some xs ∧ xs.length = n) ∧ Pi ((colsD ds n).map A.d) s1) : EvI C (iZipS C.K te) G s Pi := fun h σ H z R k =>
  e h σ H z _ fun x s1 v H1 ⟨ds, n, e1, hne, hl, hn, p1⟩ k1 i1 r1 => by
    have main : ∀ {a : Addr} {vs : List V}, v = .ref a → (∀ cs : List Src, vs = cs.map (fun c => .ref c.2) → SqT C.K H1 a (cs.map fun c => V.ref c.2) ∨ SqL C.K H1 a (cs.map fun c => V.ref c.2)) → DxAll C.K (hid h H1) vs ds → 
        ∃ (a : Addr) (cs : List Src), v = .ref a ∧ (SqT C.K H1 a (cs.map fun c => V.ref c.2) ∨ SqL C.K H1 a (cs.map fun c => V.ref c.2)) ∧ cs ≠ [] ∧ cs.length ≤ sizeLine ∧ (∀ c ∈ cs, ∃ xs, Sq C.K H1 c xs) ∧ R (ItzN C.K cs) H1 := fun {a vs} ev hsq rd => by
      obtain ⟨cs, ecs, hcl, hcs⟩ := rd.sqs fun d hd => let ⟨xs, q, _⟩ := hn d hd; ⟨xs, q⟩
      have at_ : ∀ (hh : Hm) (H2 : Hp), Same (hid h H1) (hid hh H2) → ∀ (k : Nat) c, cs[k]? = some c → ∃ d ws, ds[k]? = some d ∧ Sq C.K H2 c ws ∧ DxAll C.K (hid h H1) ws (itemsOf d) ∧ ws.length = n := fun hh H2 sm k c hk => by
        obtain ⟨d, ws, e1, e2, e3⟩ := hcs k c hk
        obtain ⟨xs, q1, q2⟩ := hn d (List.mem_of_getElem? e1)
        refine ⟨d, ws, e1, e2 H2 (sm.trans hid_le), e3, ?_⟩
        rw [e3.length]
        unfold itemsOf
        rw [q1]; exact q2
      have hlen : ((colsD ds n).map A.d).length = n := by simp [colsD]
      have cne : cs ≠ [] := fun q => hne (by rw [q] at hcl; exact List.length_eq_zero_iff.mp hcl.symm)
      refine ⟨a, cs, ev, hsq cs ecs, cne, by rw [hcl]; exact Nat.le_trans hl (by decide), fun c hc => ?_, k _ s1 _ H1 p1 k1 i1 ⟨fun hh i H2 e2 hi => ?_, fun hh i H2 v H3 e2 y hi => ?_, fun hh i H2 e2 hi => ?_⟩⟩
      · obtain ⟨j, hj⟩ := List.getElem?_of_mem hc
        obtain ⟨d, ws, _, q, _⟩ := at_ h H1 (Same.refl _) j c hj
        exact ⟨ws, q⟩
      · rw [hlen] at hi
        refine ⟨cne, fun c hc => ?_⟩
        obtain ⟨j, hj⟩ := List.getElem?_of_mem hc
        obtain ⟨d, ws, _, q, _, ql⟩ := at_ hh H2 e2 j c hj
        exact ⟨ws, q, by rw [ql]; exact hi⟩
      · rw [hlen] at hi
        obtain ⟨Tp, ys, ev, hT, eH, hyl, hy⟩ := y
        subst ev; subst eH
        refine ⟨.d (.tuple (ds.map fun d => (itemsOf d).getD i .none)), by simp [colsD, hi], same_new hT, fun gd => ?_⟩
        have hTf : hh Tp = false := by
          cases q : hh Tp with
          | false => rfl
          | true => exact absurd hT (gd Tp q)
        refine Dx.tup (SqT.of (hid_of hTf upd_same)) ((DxAll.of_get (H := hid h H1) (by rw [hyl, List.length_map, hcl]) fun k v d hv hd => ?_).mono (e2.trans (hid_new hT)))
        have hk : k < cs.length := by
          have := (List.getElem?_eq_some_iff.mp hv).1
          rw [hyl] at this; exact this
        obtain ⟨d0, ws, q1, q2, q3, q4⟩ := at_ hh H2 e2 k _ (List.getElem?_eq_getElem hk)
        have g := hy k _ v (List.getElem?_eq_getElem hk) hv ws q2
        obtain ⟨d1, g1, g2⟩ := q3.get g
        rw [List.getElem?_map, q1] at hd
        cases hd
        have : (itemsOf d0).getD i .none = d1 := by rw [List.getD_eq_getElem?_getD, g1]; rfl
        show Dx C.K (hid h H1) v ((itemsOf d0).getD i .none)
        rw [this]; exact g2
      · rw [hlen] at hi
        cases hcc : cs with
        | nil => exact absurd hcc cne
        | cons c cs' =>
          obtain ⟨d, ws, _, q, _, ql⟩ := at_ hh H2 e2 0 c (by rw [hcc]; rfl)
          exact ⟨c, cs', rfl, ws, q, by rw [ql]; exact hi⟩
    rcases e1 with e1 | e1
    · subst e1
      cases r1 with
      | @tup a vs _ q rr => exact main rfl (fun cs ec => .inl (ec ▸ sqT_mono hid_le q)) rr
    · subst e1
      cases r1 with
      | @lst a vs _ q rr => exact main rfl (fun cs ec => .inr (ec ▸ SqL.of (hid_le _ _ q))) rr
end
/-! ### max, min of a tuple of numbers -/
def rMaxT (K : PySem.W.Frag) : List V → Hp → VK → Prop := fun vs H Q => ∃ (a : Addr) (n : Int) (ns : List Int), vs = [V.ref a] ∧ SqT K H a ((n :: ns).map V.int) ∧ Q (.int (ns.foldl max n)) H
def rMinT (K : PySem.W.Frag) : List V → Hp → VK → Prop := fun vs H Q => ∃ (a : Addr) (n : Int) (ns : List Int), vs = [V.ref a] ∧ SqT K H a ((n :: ns).map V.int) ∧ Q (.int (ns.foldl min n)) H
theorem reads_ints {h : Heap} : ∀ {ns : List Int} {us : List Value}, Vals (ns.map V.int) us → ReadsAll h us (ns.map PyData.int) []
  | [], _, .nil => .nil
  | n :: ns, _, .cons r t => by
    obtain ⟨k, rfl⟩ := r
    exact .cons (.int n k) (reads_ints t)
theorem alike_ints (ns : List Int) : PySem.W.AlikeAll (ns.map PyData.int) := by
  refine ⟨fun x hx y hy => ?_, fun x hx => ?_⟩
  · obtain ⟨i, _, rfl⟩ := List.mem_map.mp hx
    obtain ⟨j, _, rfl⟩ := List.mem_map.mp hy
    rfl
  · obtain ⟨i, _, rfl⟩ := List.mem_map.mp hx
    exact fun z => nomatch z
theorem depth_ints : ∀ ns : List Int, PyData.depthAll (ns.map PyData.int) ≤ 1
  | [] => by simp [PyData.depthAll]
  | n :: ns => by
    have := depth_ints ns
    simp only [List.map_cons, PyData.depthAll, PyData.depth]
    omega
section
variable {X : Cx}
theorem cr_maxT (hc : X.calm = true) (hu : X.A.units + 64 < cLine) : CallR X (.builtin "max") (rMaxT X.K) := by
  intro pins s σ H vs us Q I r h
  obtain ⟨a, n, ns, rfl, hs, q⟩ := h
  obtain ⟨its, rv, hl, _⟩ := I.tuple hs
  rw [Vals.ref1 r]
  have hd := depth_ints (n :: ns)
  refine PySem.W.max_tuple_data (x := .int n) (xs := ns.map .int) (as := []) (I.ok.hd hc) (vs := its.toArray) hl (by simpa using reads_ints (ns := n :: ns) rv) (alike_ints (n :: ns)) (by simp only [List.map_cons] at hd; omega) fun i v h' tk bs _ rd hk => ?_
  rw [PySem.W.maxD_ints] at rd
  cases rd
  exact ⟨.int _, H, I.kept hk, ⟨_, rfl⟩, q⟩
theorem cr_minT (hc : X.calm = true) (hu : X.A.units + 64 < cLine) : CallR X (.builtin "min") (rMinT X.K) := by
  intro pins s σ H vs us Q I r h
  obtain ⟨a, n, ns, rfl, hs, q⟩ := h
  obtain ⟨its, rv, hl, _⟩ := I.tuple hs
  rw [Vals.ref1 r]
  have hd := depth_ints (n :: ns)
  refine PySem.W.min_tuple_data (x := .int n) (xs := ns.map .int) (as := []) (I.ok.hd hc) (vs := its.toArray) hl (by simpa using reads_ints (ns := n :: ns) rv) (alike_ints (n :: ns)) (by simp only [List.map_cons] at hd; omega) fun i v h' tk bs _ rd hk => ?_
  rw [PySem.W.minD_ints] at rd
  cases rd
  exact ⟨.int _, H, I.kept hk, ⟨_, rfl⟩, q⟩
end
section
variable {T : Type} {C : Cc T} {s : T} {P : A → T → Prop}
theorem rc_maxT {n : Int} {ns : List Int} (p : P (.d (.int (ns.foldl max n))) s) : RC C (rMaxT C.K) [.d (.tuple ((n :: ns).map .int))] s P := fun h H vs z a Q k => by
  cases a with
  | cons r t =>
    cases t
    cases r with
    | tup q rr =>
      have e := DxAll.ints (ns := n :: ns) rr
      exact ⟨_, n, ns, rfl, by rw [← e]; exact sqT_mono hid_le q, k.here p z.inv (Dx.int _)⟩
theorem rc_minT {n : Int} {ns : List Int} (p : P (.d (.int (ns.foldl min n))) s) : RC C (rMinT C.K) [.d (.tuple ((n :: ns).map .int))] s P := fun h H vs z a Q k => by
  cases a with
  | cons r t =>
    cases t
    cases r with
    | tup q rr =>
      have e := DxAll.ints (ns := n :: ns) rr
      exact ⟨_, n, ns, rfl, by rw [← e]; exact sqT_mono hid_le q, k.here p z.inv (Dx.int _)⟩
end
section
variable {X : Cx} {K : PySem.W.Frag}
theorem kc_maxT (hK : X.K = K) (hc : X.calm = true) (hu : X.A.units + 64 < cLine) : CallR X (.builtin "max") (rMaxT K) := hK ▸ cr_maxT hc hu
theorem kc_minT (hK : X.K = K) (hc : X.calm = true) (hu : X.A.units + 64 < cLine) : CallR X (.builtin "min") (rMinT K) := hK ▸ cr_minT hc hu
theorem kpi_zipS {e : Expr} {te : TE} {p p2 pos tpos : Pos} {x : Str} (hK : X.K = K) (hg : Gl X "zip") (hm : X.mg "zip" = none) (ha : PE X e te)
    (hst : starEach [.Starred e p2] X.env = [(true, eval e X.env)] := by rfl) : PI X (.Name x tpos) (.Call (.Name "zip" p) [.Starred e p2] [] pos) (iZipS K te) := hK ▸ pi_zipS hg hm ha hst
end
end Cl

end
section
set_option Elab.async false
set_option linter.all false
set_option maxRecDepth 100000
set_option maxHeartbeats 2000000
/-! SX4: arguments, displays, slices, built-ins -/
namespace Sx
open PySem L2 Cl RZ ZN
/-! ### a new cell -/
def Mp.add (μ : Mp) (p : Addr) : Mp := { μ with cells := μ.cells ++ [p] }
section
variable {Y : Ky} {μ : Mp} {h : Mh} {H : Hp} {p : Addr} {o : HO} {c : Cell}
theorem Mp.add_m {a : Addr} (q : (μ.add p).m a = true) : μ.m a = true ∨ a = p := by
  rcases Mp.m_cases q with q | ⟨l, e⟩ | q
  rotate_left 2
  · exact .inl (Mp.m_tb (μ := μ) q)
  · rcases List.mem_append.mp q with q | q
    · refine .inl ?_
      unfold Mp.m
      rw [decide_eq_true q]; rfl
    · exact .inr (List.mem_singleton.mp q)
  · exact .inl (Mp.m_src (μ := μ) e).1
theorem Ext.add (n : H p = none) : Ext μ (μ.add p) H (upd H p o) where
  cells := fun k a e => by
    show (μ.cells ++ [p])[k]? = some a
    rw [List.getElem?_append_left (List.getElem?_eq_some_iff.mp e).1]; exact e
  src := rfl
  ex := rfl
  freshm := fun a q => by
    rcases Mp.add_m q with q | q
    · exact .inl q
    · exact .inr (q ▸ n)
  keep := fun b o' _ e => by rw [upd_ne (ne_of_none e n)]; exact e
  there := fun b q => by
    by_cases eb : b = p
    · subst eb; rw [upd_same]; exact fun z => nomatch z
    · rw [upd_ne eb]; exact q
  tb := rfl
theorem Rel.add (r : Rel Y μ h H) (n : H p = none) (hc : CRl Y (μ.add p) (upd H p o) p c) : Rel Y (μ.add p) (h ++ [c]) (upd H p o) := by
  have ex : Ext μ (μ.add p) H (upd H p o) := .add n
  have np : ∀ a, μ.h a = true → a ≠ p := fun a q e => by subst e; exact r.good a q n
  refine ⟨by simp [Mp.add, r.len], ?_, fun i a c' e1 e2 => ?_, fun q l e => ?_, fun a q => ?_, r.tbm, r.tb.mono ex.vis fun z _ nz => upd_ne fun eq => nz (by rw [eq]; exact n)⟩
  · show (μ.cells ++ [p]).Nodup
    rw [List.nodup_append]
    refine ⟨r.nd, by simp, fun a ha b hb e => ?_⟩
    have hb := List.mem_singleton.mp hb
    obtain ⟨j, hj⟩ := List.getElem?_of_mem ha
    exact np a (Mp.h_m (Mp.m_cell hj)) (e.trans hb)
  · by_cases hi : i < μ.cells.length
    · have e1' : μ.cells[i]? = some a := by
        have : (μ.cells ++ [p])[i]? = some a := e1
        rw [List.getElem?_append_left hi] at this; exact this
      rw [List.getElem?_append_left (by rw [← r.len]; exact hi)] at e2
      refine (r.at_ i a c' e1' e2).mono ex.le ?_
      rw [upd_ne (np a (Mp.h_m (Mp.m_cell e1')))]
    · have e1' : (μ.cells ++ [p])[i]? = some a := e1
      have hl : i < (μ.cells ++ [p]).length := (List.getElem?_eq_some_iff.mp e1').1
      have hi' : i = μ.cells.length := by simp at hl; omega
      subst hi'
      rw [List.getElem?_append_right (Nat.le_refl _)] at e1'
      rw [r.len, List.getElem?_append_right (Nat.le_refl _)] at e2
      simp at e1' e2
      subst e1' e2
      exact hc
  · obtain ⟨so, n1, n2⟩ := r.src q l e
    have e1 := (SrcOk.ne so).1
    have e2 := (SrcOk.ne so).2
    refine ⟨SrcOk.same (same_new n) so, fun z => ?_, fun z => ?_⟩
    · rcases List.mem_append.mp z with z | z
      · exact n1 z
      · exact e1 (by rw [List.mem_singleton.mp z]; exact n)
    · rcases List.mem_append.mp z with z | z
      · exact n2 z
      · exact e2 (by rw [List.mem_singleton.mp z]; exact n)
  · obtain ⟨q1, q2⟩ := r.ex a q
    refine ⟨ex.there a q1, ex.nm q2 q1⟩
theorem add_at : (μ.add p).cells[μ.cells.length]? = some p := by
  show (μ.cells ++ [p])[μ.cells.length]? = some p
  simp
/-- a new cell is wanted -/
theorem Kq.cell {Q : VK} (r : Rel Y μ h H) (n : H p = none) (k : Kq Y μ H Q (.ref h.length) (h ++ [c])) (hc : Le μ (μ.add p) (vis μ H) (vis (μ.add p) (upd H p o)) → CRl Y (μ.add p) (upd H p o) p c) : Q (.ref p) (upd H p o) :=
  k (μ.add p) _ _ (.add n) (r.add n (hc (Ext.add n).le)) (.ref (by rw [← r.len]; exact add_at))
end

/-! ### arguments -/
def aNil : MA := fun _ h q _ => q [] h
def aCons (m : ME) (r : MA) : MA := fun env h q x => m env h (fun v h1 => r env h1 (fun vs h2 => q (v :: vs) h2) x) x
def aStar (m : ME) (r : MA) : MA := fun env h q x => m env h (fun v h1 => ∃ xs, anyOf h1 v = some xs ∧ r env h1 (fun vs h2 => q (xs ++ vs) h2) x) x
def eTup (a : MA) : ME := fun env h q x => a env h (fun xs h1 => xs.length ≤ 100000 ∧ q (.tup xs) h1) x
def eLst (a : MA) : ME := fun env h q x => a env h (fun xs h1 => xs.length ≤ 100000 ∧ q (.lst xs) h1) x
/-- a list that may be changed -/
def eLstC (a : MA) : ME := fun env h q x => a env h (fun xs h1 => xs.length ≤ 100000 ∧ q (.ref h1.length) (h1 ++ [.lst xs])) x
def eCB (f : MC) (a : MA) : ME := fun env h q x => a env h (fun vs h1 => f vs h1 q) x
section
variable {X : Cx} {Y : Ky} {W : WX} {te : TE} {ta : TA} {m : ME} {a : MA} {e : Expr} {es : List Expr} {pos : Pos}
theorem sa_nil : SA Y W tNil aNil := fun μ env h σ H Q q x z hm kq kx => kq _ _ hm μ _ H .refl z.r .nil
theorem sa_cons (s : SE Y W te m) (t : SA Y W ta a) : SA Y W (tCons te ta) (aCons m a) := fun μ env h σ H Q q x z hm kq kx =>
  s μ env h σ H _ _ x z hm (fun v h1 k μ1 U H1 e1 r1 v1 => t μ1 env h1 σ H1 _ _ x (z.go e1 r1) k (fun vs h2 k2 μ2 Us H2 e2 r2 v2 => kq _ _ k2 μ2 _ H2 (e1.trans e2) r2 (.cons (v1.mono e2.le) v2)) fun e h' k => (kx e h' k).after e1) kx
theorem sa_star (s : SE Y W te m) (t : SA Y W ta a) : SA Y W (StX.tStar Y.K te ta) (aStar m a) := fun μ env h σ H Q q x z hm kq kx =>
  s μ env h σ H _ _ x z hm (fun v h1 ⟨xs, ea, k⟩ μ1 U H1 e1 r1 v1 => by
    obtain ⟨p, vs, rfl, h1', t1⟩ := rd_any r1 v1 ea
    refine ⟨p, vs, rfl, ?_, ?_⟩
    · rcases h1' with h1' | h1'
      · exact .inr (SqL.of h1')
      · exact .inl h1'
    · exact t μ1 env h1 σ H1 _ _ x (z.go e1 r1) k (fun ys h2 k2 μ2 Us H2 e2 r2 v2 => kq _ _ k2 μ2 _ H2 (e1.trans e2) r2 ((t1.mono e2.le).append v2)) fun e h' k => (kx e h' k).after e1) kx
theorem da_nil : DA X Y W [] aNil := ⟨_, pa_nil, sa_nil⟩
theorem da_cons (h : DE X Y W e m) (t : DA X Y W es a) (hs : starEach (e :: es) X.env = (false, eval e X.env) :: starEach es X.env := by rfl) : DA X Y W (e :: es) (aCons m a) := by
  obtain ⟨te, a1, a2⟩ := h; obtain ⟨ta, b1, b2⟩ := t; exact ⟨_, pa_cons a1 b1 hs, sa_cons a2 b2⟩
theorem da_star {p : Pos} (hK : X.K = Y.K) (h : DE X Y W e m) (t : DA X Y W es a) (hs : starEach (.Starred e p :: es) X.env = (true, eval e X.env) :: starEach es X.env := by rfl) : DA X Y W (.Starred e p :: es) (aStar m a) := by
  obtain ⟨te, a1, a2⟩ := h; obtain ⟨ta, b1, b2⟩ := t; exact ⟨_, kstar hK a1 b1 hs, sa_star a2 b2⟩
theorem se_tup (t : SA Y W ta a) : SE Y W (tTup ta) (eTup a) := fun μ env h σ H Q q x z hm kq kx =>
  t μ env h σ H _ _ x z hm (fun xs h1 ⟨hl, k⟩ μ1 Us H1 e1 r1 v1 => ⟨by rw [v1.length]; exact big hl, fun p hp => ((kq _ _ k).after e1).new r1 hp fun e s => .tup (SqT.of e) (v1.sm s)⟩) kx
theorem se_lst (t : SA Y W ta a) : SE Y W (tLst ta) (eLst a) := fun μ env h σ H Q q x z hm kq kx =>
  t μ env h σ H _ _ x z hm (fun xs h1 ⟨hl, k⟩ μ1 Us H1 e1 r1 v1 => ⟨by rw [v1.length]; exact big hl, fun p hp => ((kq _ _ k).after e1).new r1 hp fun e s => .lst e (v1.sm s)⟩) kx
theorem se_lstC (t : SA Y W ta a) : SE Y W (tLst ta) (eLstC a) := fun μ env h σ H Q q x z hm kq kx =>
  t μ env h σ H _ _ x z hm (fun xs h1 ⟨hl, k⟩ μ1 Us H1 e1 r1 v1 => ⟨by rw [v1.length]; exact big hl, fun p hp => Kq.cell (c := .lst xs) r1 hp ((kq _ _ k).after e1) fun l => .lst upd_same (v1.mono l)⟩) kx
theorem de_tup {k} (t : DA X Y W es a) : DE X Y W (.Tuple es k pos) (eTup a) := by obtain ⟨ta, b1, b2⟩ := t; exact ⟨_, pe_tup b1, se_tup b2⟩
theorem de_lst (t : DA X Y W es a) : DE X Y W (.List es pos) (eLst a) := by obtain ⟨ta, b1, b2⟩ := t; exact ⟨_, pe_lst b1, se_lst b2⟩
theorem de_lstC (t : DA X Y W es a) : DE X Y W (.List es pos) (eLstC a) := by obtain ⟨ta, b1, b2⟩ := t; exact ⟨_, pe_lst b1, se_lstC b2⟩
theorem se_cb {r : List V → Hp → VK → Prop} {f : MC} (c : SC Y r f) (t : SA Y W ta a) : SE Y W (tCB r ta) (eCB f a) := fun μ env h σ H Q q x z hm kq kx =>
  t μ env h σ H _ _ x z hm (fun xs h1 k μ1 Us H1 e1 r1 v1 => c μ1 h1 H1 Us xs Q q r1 v1 k fun v h' k => (kq v h' k).after e1) kx
theorem de_cb {f : MC} {id : String} {x : Str} {p : Pos} (c : CaD X Y (.builtin id) f) (hg : Gl X x) (hm : X.mg x = none) (hv : bootBuiltins x = some (.builtin id)) (t : DA X Y W (e :: es) a) (hn : x ≠ "__name__" := by decide) (hdb : (x == ("__debug__" : Str)) = false := by decide)
    (he : starEach (e :: es) X.env = (false, eval e X.env) :: starEach es X.env := by rfl) (hpl : (backTo pos (starEach es X.env)).any (·.1) = false := by rfl) : DE X Y W (.Call (.Name x p) (e :: es) [] pos) (eCB f a) := by
  obtain ⟨r, c1, c2⟩ := c; obtain ⟨ta, b1, b2⟩ := t; exact ⟨_, pe_callB c1 hg hm hv b1 hn hdb he hpl, se_cb c2 b2⟩
theorem de_cty {f : MC} {T : String} {x : Str} {p : Pos} (c : CaD X Y (.type T) f) (hg : Gl X x) (hm : X.mg x = none) (hv : bootBuiltins x = some (.type T)) (t : DA X Y W (e :: es) a) (hn : x ≠ "__name__" := by decide) (hdb : (x == ("__debug__" : Str)) = false := by decide)
    (he : starEach (e :: es) X.env = (false, eval e X.env) :: starEach es X.env := by rfl) (hpl : (backTo pos (starEach es X.env)).any (·.1) = false := by rfl) : DE X Y W (.Call (.Name x p) (e :: es) [] pos) (eCB f a) := by
  obtain ⟨r, c1, c2⟩ := c; obtain ⟨ta, b1, b2⟩ := t; exact ⟨_, pe_callTy c1 hg hm hv b1 hn hdb he hpl, se_cb c2 b2⟩

/-! ### slices -/
abbrev MOp := Me → Mh → (Option Int → Mh → Prop) → XQ → Prop
def pNo : MOp := fun _ h q _ => q none h
def pSome (m : ME) : MOp := fun env h q x => m env h (fun v h1 => match v with
  | .int i => q (some i) h1
  | _ => False) x
def SOp (Y : Ky) (W : WX) (to : TO) (m : MOp) : Prop := ∀ (μ : Mp) (env : Me) (h : Mh) (σ : St) (H : Hp) (Q : Option Int → Hp → Prop) (q : Option Int → Mh → Prop) (x : XQ), Ok Y μ h H σ env → m env h q x →
  (∀ b h', q b h' → ∀ μ' H', Ext μ μ' H H' → Rel Y μ' h' H' → Q b H') → (∀ e h', x e h' → Kx Y μ H (fun c d H' => W c d σ H') e h') → to σ H Q
structure DO (X : Cx) (Y : Ky) (W : WX) (e : Option Expr) (m : MOp) : Prop where
  go : ∃ te, PO X e te ∧ SOp Y W te m
theorem do_no : DO X Y W none pNo := ⟨_, po_none, fun μ env h σ H Q q x z hm kq kx => kq _ _ hm μ H .refl z.r⟩
theorem do_some (h : DE X Y W e m) : DO X Y W (some e) (pSome m) := by
  obtain ⟨te, a1, a2⟩ := h
  refine ⟨_, po_some a1, fun μ env h σ H Q q x z hm kq kx => a2 μ env h σ H _ _ x z hm (fun v h1 k μ1 U H1 e1 r1 v1 => ?_) kx⟩
  cases v1 with
  | int i => exact ⟨i, rfl, kq _ _ k μ1 H1 e1 r1⟩
  | _ => exact k.elim
def eSl (m : ME) (lo hi : MOp) : ME := fun env h q x => m env h (fun v h1 => lo env h1 (fun i h2 => hi env h2 (fun j h3 => match v with
  | .str w => w.length ≤ 100000 ∧ q (.str (cutS w i j)) h3
  | .tup xs => q (.tup (cutD xs i j)) h3
  | v => ∃ xs, lstOf h3 v = some xs ∧ q (.lst (cutD xs i j)) h3) x) x) x
theorem vrs_cut {μ : Mp} {G : Hp} {vs : List V} {xs : List Val} (t : VRs Y μ G vs xs) (lo hi : Option Int) : VRs Y μ G (cutV vs lo hi) (cutD xs lo hi) := by
  unfold cutV cutD
  rw [t.length]
  exact (t.drop _).take _
theorem se_sl {tl th : TO} {ml mh : MOp} (s : SE Y W te m) (sl : SOp Y W tl ml) (sh : SOp Y W th mh) : SE Y W (tSl (rSlU Y.K) te tl th) (eSl m ml mh) := fun μ env h σ H Q q x z hm kq kx =>
  s μ env h σ H _ _ x z hm (fun v h1 k μ1 U H1 e1 r1 v1 => sl μ1 env h1 σ H1 _ _ x (z.go e1 r1) k (fun i h2 k2 μ2 H2 e2 r2 => sh μ2 env h2 σ H2 _ _ x (z.go (e1.trans e2) r2) k2 (fun j h3 k3 μ3 H3 e3 r3 => by
    have e13 := (e1.trans e2).trans e3
    have v3 := v1.mono (e2.trans e3).le
    have gen : (∃ xs, lstOf h3 v = some xs ∧ q (.lst (cutD xs i j)) h3) → rSlU Y.K U i j H3 Q := by
      rintro ⟨xs, ea, k⟩
      obtain ⟨p, vs, rfl, hp, t⟩ := rd_lst r3 v3 ea
      exact .inl ⟨_, _, rfl, SqL.of hp, fun p' hp' => ((kq _ _ k).after e13).new r3 hp' fun e s => .lst e ((vrs_cut t _ _).sm s)⟩
    have st : ∀ {w : Str}, v = .str w → (w.length ≤ 100000 ∧ q (.str (cutS w i j)) h3) → rSlU Y.K U i j H3 Q := by
      rintro w rfl ⟨hl, k⟩
      cases v3
      exact .inr (.inr ⟨w, rfl, big hl, ((kq _ _ k).after e13).here r3 (.str _)⟩)
    have tp : ∀ {xs}, v = .tup xs → q (.tup (cutD xs i j)) h3 → rSlU Y.K U i j H3 Q := by
      rintro xs rfl k
      obtain ⟨p, vs, rfl, hp, t⟩ := rd_tup v3
      refine .inr (.inl ⟨_, _, rfl, hp, fun hw => ?_, fun _ p' hp' => ((kq _ _ k).after e13).new r3 hp' fun e s => .tup (SqT.of e) ((vrs_cut t _ _).sm s)⟩)
      have e : cutD xs i j = xs := by
        unfold cutD
        rw [t.length] at hw
        rw [hw.1, hw.2]
        simp
      rw [e] at k
      exact ((kq _ _ k).after e13).here r3 v3
    cases v <;> first | exact st rfl k3 | exact tp rfl k3 | exact gen k3) fun e h' k => (kx e h' k).after (e1.trans e2)) fun e h' k => (kx e h' k).after e1) kx
theorem de_sl {lo hi : Option Expr} {ml mh : MOp} {p2 : Pos} (hK : X.K = Y.K) (h : DE X Y W e m) (hl : DO X Y W lo ml) (hh : DO X Y W hi mh) : DE X Y W (.Subscript e (.Slice lo hi none p2) pos) (eSl m ml mh) := by
  obtain ⟨te, a1, a2⟩ := h; obtain ⟨tl, b1, b2⟩ := hl; obtain ⟨th, c1, c2⟩ := hh
  exact ⟨_, pe_slice (ksl hK) a1 b1 c1, se_sl a2 b2 c2⟩

/-! ### built-ins -/
theorem vrs1 {μ : Mp} {G : Hp} {Us : List V} {v : Val} (t : VRs Y μ G Us [v]) : ∃ U, Us = [U] ∧ VR Y μ G U v := by
  cases t with
  | cons a b => cases b; exact ⟨_, rfl, a⟩
theorem vrs2 {μ : Mp} {G : Hp} {Us : List V} {v w : Val} (t : VRs Y μ G Us [v, w]) : ∃ U U', Us = [U, U'] ∧ VR Y μ G U v ∧ VR Y μ G U' w := by
  cases t with
  | cons a b =>
    obtain ⟨U', rfl, b'⟩ := vrs1 b
    exact ⟨_, _, rfl, a, b'⟩
def f1 (g : Val → Mh → VQ → Prop) : MC := fun us h q => match us with
  | [v] => g v h q
  | _ => False
theorem sc_f1 {r : List V → Hp → VK → Prop} {g : Val → Mh → VQ → Prop} (hg : ∀ (μ : Mp) (h : Mh) (H : Hp) (U : V) (u : Val) (Q : VK) (q : VQ), Rel Y μ h H → VR Y μ (vis μ H) U u → g u h q → (∀ v h', q v h' → Kq Y μ H Q v h') → r [U] H Q) : SC Y r (f1 g) := fun μ h H Us us Q q r t hf kq => by
  match us, hf with
  | [v], hf => obtain ⟨U, rfl, a⟩ := vrs1 t; exact hg μ h H U v Q q r a hf kq
  | [], hf => exact hf.elim
  | _ :: _ :: _, hf => exact hf.elim
def lenM (v : Val) (h : Mh) (q : VQ) : Prop := match v with
  | .str w => w.length ≤ 100000 ∧ q (.int w.length) h
  | v => ∃ xs, anyOf h v = some xs ∧ q (.int xs.length) h
abbrev fLen : MC := f1 lenM
theorem cd_len (hK : X.K = Y.K) : CaD X Y (.builtin "len") fLen := ⟨_, kc_len hK, sc_f1 fun μ h H U u Q q r a hf kq => by
  have gen : (∃ xs, anyOf h u = some xs ∧ q (.int xs.length) h) → Cl.rLen Y.K [U] H Q := by
    rintro ⟨xs, e, k⟩
    obtain ⟨p, vs, rfl, h1, t1⟩ := rd_any r a e
    refine ⟨_, xs.length, rfl, ?_, (kq _ _ k).here r (.int _)⟩
    rcases h1 with h1 | h1
    · exact .inl ⟨_, SqL.of h1, t1.length.symm⟩
    · exact .inr ⟨_, h1, t1.length.symm⟩
  have st : ∀ {w : Str}, u = .str w → (w.length ≤ 100000 ∧ q (.int w.length) h) → Cl.rLen Y.K [U] H Q := by
    rintro w rfl ⟨hl, k⟩
    cases a
    exact ⟨_, w.length, rfl, ⟨big hl, rfl⟩, (kq _ _ k).here r (.int _)⟩
  cases u <;> first | exact st rfl hf | exact gen hf⟩
abbrev fList : MC := f1 fun v h q => ∃ xs, anyOf h v = some xs ∧ q (.lst xs) h
abbrev fListC : MC := f1 fun v h q => ∃ xs, anyOf h v = some xs ∧ q (.ref h.length) (h ++ [.lst xs])
theorem any_or {H : Hp} {a : Addr} {vs : List V} (h : H a = some (.lst vs) ∨ SqT Y.K H a vs) : SqL Y.K H a vs ∨ SqT Y.K H a vs := by
  rcases h with h | h
  · exact .inl (SqL.of h)
  · exact .inr h
theorem cd_list (hK : X.K = Y.K) : CaD X Y (.type "list") fList := ⟨_, kc_list hK, sc_f1 fun μ h H U u Q q r a ⟨xs, e, k⟩ kq => by
  obtain ⟨p, vs, rfl, h1, t1⟩ := rd_any r a e
  exact ⟨p, vs, rfl, any_or h1, fun l hl => (kq _ _ k).new r hl fun e s => .lst e (t1.sm s)⟩⟩
theorem cd_listC (hK : X.K = Y.K) : CaD X Y (.type "list") fListC := ⟨_, kc_list hK, sc_f1 fun μ h H U u Q q r a ⟨xs, e, k⟩ kq => by
  obtain ⟨p, vs, rfl, h1, t1⟩ := rd_any r a e
  exact ⟨p, vs, rfl, any_or h1, fun l hl => Kq.cell (c := .lst xs) r hl (kq _ _ k) fun l => .lst upd_same (t1.mono l)⟩⟩
abbrev fTuple : MC := f1 fun v h q => ∃ xs, anyOf h v = some xs ∧ q (.tup xs) h
theorem cd_tuple (hK : X.K = Y.K) : CaD X Y (.type "tuple") fTuple := ⟨_, kc_tuple hK, sc_f1 fun μ h H U u Q q r a ⟨xs, e, k⟩ kq => by
  have gen : lstOf h u = some xs → rTupOf Y.K [U] H Q := fun e => by
    obtain ⟨p, vs, rfl, h1, t1⟩ := rd_lst r a e
    exact ⟨p, vs, rfl, .inl ⟨SqL.of h1, fun l hl => (kq _ _ k).new r hl fun e s => .tup (SqT.of e) (t1.sm s)⟩⟩
  cases u with
  | tup ys =>
    cases e
    obtain ⟨p, vs, rfl, h1, t1⟩ := rd_tup a
    exact ⟨p, vs, rfl, .inr ⟨h1, (kq _ _ k).here r a⟩⟩
  | _ => exact gen e⟩
theorem vrs_bls {μ : Mp} {G : Hp} : ∀ {vs : List V} {bs : List Bool}, VRs Y μ G vs (bs.map Val.bl) → vs = bs.map V.bl
  | _, [], .nil => rfl
  | _, b :: bs, .cons x y => by cases x; rw [vrs_bls (bs := bs) y]; rfl
theorem vrs_ints {μ : Mp} {G : Hp} : ∀ {vs : List V} {bs : List Int}, VRs Y μ G vs (bs.map Val.int) → vs = bs.map V.int
  | _, [], .nil => rfl
  | _, b :: bs, .cons x y => by cases x; rw [vrs_ints (bs := bs) y]; rfl
theorem vrs_strs {μ : Mp} {G : Hp} : ∀ {vs : List V} {bs : List Str}, VRs Y μ G vs (bs.map Val.str) → vs = bs.map V.str
  | _, [], .nil => rfl
  | _, b :: bs, .cons x y => by cases x; rw [vrs_strs (bs := bs) y]; rfl
abbrev fAll : MC := f1 fun v h q => ∃ bs : List Bool, lstOf h v = some (bs.map .bl) ∧ q (.bl (bs.all id)) h
abbrev fAny : MC := f1 fun v h q => ∃ bs : List Bool, lstOf h v = some (bs.map .bl) ∧ q (.bl (bs.any id)) h
theorem cd_all (hK : X.K = Y.K) (hc : X.calm = true) : CaD X Y (.builtin "all") fAll := ⟨_, kc_all hK hc, sc_f1 fun μ h H U u Q q r a ⟨bs, e, k⟩ kq => by
  obtain ⟨p, vs, rfl, h1, t1⟩ := rd_lst r a e
  exact ⟨p, bs, rfl, vrs_bls t1 ▸ SqL.of h1, (kq _ _ k).here r (.bl _)⟩⟩
theorem cd_any (hK : X.K = Y.K) (hc : X.calm = true) : CaD X Y (.builtin "any") fAny := ⟨_, kc_any hK hc, sc_f1 fun μ h H U u Q q r a ⟨bs, e, k⟩ kq => by
  obtain ⟨p, vs, rfl, h1, t1⟩ := rd_lst r a e
  exact ⟨p, bs, rfl, vrs_bls t1 ▸ SqL.of h1, (kq _ _ k).here r (.bl _)⟩⟩
abbrev fMaxT : MC := f1 fun v h q => ∃ (n : Int) (ns : List Int), v = .tup ((n :: ns).map .int) ∧ q (.int (ns.foldl max n)) h
abbrev fMinT : MC := f1 fun v h q => ∃ (n : Int) (ns : List Int), v = .tup ((n :: ns).map .int) ∧ q (.int (ns.foldl min n)) h
theorem cd_maxT (hK : X.K = Y.K) (hc : X.calm = true) (hu : X.A.units + 64 < cLine) : CaD X Y (.builtin "max") fMaxT := ⟨_, kc_maxT hK hc hu, sc_f1 fun μ h H U u Q q r a ⟨n, ns, e, k⟩ kq => by
  subst e
  obtain ⟨p, vs, rfl, h1, t1⟩ := rd_tup a
  exact ⟨p, n, ns, rfl, vrs_ints t1 ▸ h1, (kq _ _ k).here r (.int _)⟩⟩
theorem cd_minT (hK : X.K = Y.K) (hc : X.calm = true) (hu : X.A.units + 64 < cLine) : CaD X Y (.builtin "min") fMinT := ⟨_, kc_minT hK hc hu, sc_f1 fun μ h H U u Q q r a ⟨n, ns, e, k⟩ kq => by
  subst e
  obtain ⟨p, vs, rfl, h1, t1⟩ := rd_tup a
  exact ⟨p, n, ns, rfl, vrs_ints t1 ▸ h1, (kq _ _ k).here r (.int _)⟩⟩
def f2I (g : Int → Int → Int) : MC := fun us h q => match us with
  | [.int i, .int j] => q (.int (g i j)) h
  | _ => False
theorem sc_f2I {r : List V → Hp → VK → Prop} {g : Int → Int → Int} (hr : ∀ i j H Q, Q (.int (g i j)) H → r [.int i, .int j] H Q) : SC Y r (f2I g) := fun μ h H Us us Q q r t hf kq => by
  match us, hf with
  | [.int i, .int j], hf =>
    obtain ⟨U, U', rfl, a, b⟩ := vrs2 t
    cases a; cases b
    exact hr i j H Q ((kq _ _ hf).here r (.int _))
abbrev fMax2 : MC := f2I fun i j => if j > i then j else i
abbrev fMin2 : MC := f2I fun i j => if j < i then j else i
theorem cd_max2 (hc : X.calm = true) : CaD X Y (.builtin "max") fMax2 := ⟨_, kc_max2 hc, sc_f2I fun i j H Q k => ⟨i, j, rfl, k⟩⟩
theorem cd_min2 (hc : X.calm = true) : CaD X Y (.builtin "min") fMin2 := ⟨_, kc_min2 hc, sc_f2I fun i j H Q k => ⟨i, j, rfl, k⟩⟩
abbrev fStr : MC := f1 fun v h q => ∃ i, v = .int i ∧ i.natAbs.log2 < 1920 ∧ q (.str (toString i)) h
theorem cd_str : CaD X Y (.type "str") fStr := ⟨_, kc_str, sc_f1 fun μ h H U u Q q r a ⟨i, e, hb, k⟩ kq => by
  subst e; cases a
  exact ⟨i, rfl, hb, (kq _ _ k).here r (.str _)⟩⟩
/-- the type's name of a value -/
def tyM (h : Mh) : Val → Option String
  | .non => some "NoneType" | .bl _ => some "bool" | .int _ => some "int" | .str _ => some "str" | .lst _ => some "list" | .tup _ => some "tuple"
  | .ref n => match h[n]? with
    | some (.lst _) => some "list"
    | _ => none
  | _ => none
theorem rd_ty {μ : Mp} {h : Mh} {H : Hp} {U : V} {u : Val} {n : String} (r : Rel Y μ h H) (a : VR Y μ (vis μ H) U u) (e : tyM h u = some n) : TyX Y.K H U (.type n) := by
  have ls : ∀ {xs}, lstOf h u = some xs → TyX Y.K H U (.type "list") := fun e => by
    obtain ⟨p, vs, rfl, h1, _⟩ := rd_lst r a e
    exact .base (.lst h1)
  cases u with
  | non => cases e; cases a; exact .base .non
  | bl => cases e; cases a; exact .base (.bl _)
  | int => cases e; cases a; exact .base (.int _)
  | str => cases e; cases a; exact .base (.str _)
  | lst => cases e; exact ls rfl
  | tup =>
    cases e
    obtain ⟨p, vs, rfl, h1, _⟩ := rd_tup a
    rcases h1 with (h1 | ⟨o, h1⟩) | ⟨o, its, k, h1, h2, _⟩
    · exact .base (.tup h1)
    · exact .fTuple h1
    · exact .kTuple h1 h2
  | ref k =>
    unfold tyM at e
    cases hn : h[k]? with
    | none => simp only [hn] at e; cases e
    | some c =>
      cases c with
      | ins => simp only [hn] at e; cases e
      | dct => simp only [hn] at e; cases e
      | lst xs => simp only [hn] at e; cases e; exact ls (xs := xs) (by unfold lstOf; simp only [hn])
  | ty => cases e
  | obj => cases e
  | src => cases e
  | cls => cases e
def fIsi : MC := fun us h q => match us with
  | [v, .ty n] => ∃ t b, tyM h v = some t ∧ kitB t n = some b ∧ q (.bl b) h
  | _ => False
theorem cd_isi (hK : X.K = Y.K) : CaD X Y (.builtin "isinstance") fIsi := ⟨_, kc_isi hK, fun μ h H Us us Q q r t hf kq => by
  match us, hf with
  | [v, .ty n], ⟨t', b, e1, e2, k⟩ =>
    obtain ⟨U, U', rfl, a, b'⟩ := vrs2 t
    cases b'
    exact ⟨U, .ty n, .type t', .type n, b, rfl, .ty n, rd_ty r a e1, kit_ty e2, (kq _ _ k).here r (.bl _)⟩⟩
/-- isinstance(x, (T, T')) -/
def eIsi2 (m : ME) (n n' : String) : ME := fun env h q x => m env h (fun v h1 => ∃ t b b', tyM h1 v = some t ∧ kitB t n = some b ∧ kitB t n' = some b' ∧ q (.bl (b || b')) h1) x
end
end Sx

end
section
set_option Elab.async false
set_option linter.all false
set_option maxRecDepth 100000
set_option maxHeartbeats 2000000
/-! SX5: targets, iterables, comprehensions -/
namespace Sx
open PySem L2 Cl RZ ZN
def W0 : WX := fun _ _ _ _ => False
abbrev F0 : XQ := fun _ _ => False
/-! ### one reading for all -/
def teOf (Y : Ky) (W : WX) (m : ME) : TE := fun σ H Q => ∃ (μ : Mp) (env : Me) (h : Mh) (q : VQ) (x : XQ), Ok Y μ h H σ env ∧ m env h q x ∧ (∀ v h', q v h' → Kq Y μ H Q v h') ∧ ∀ e h', x e h' → Kx Y μ H (fun c d H' => W c d σ H') e h'
def ttOf (Y : Ky) (W : WX) (m : MT) : TT := fun σ H Q => ∃ (μ : Mp) (env : Me) (h : Mh) (q : Bool → Mh → Prop) (x : XQ), Ok Y μ h H σ env ∧ m env h q x ∧ (∀ b h', q b h' → ∀ μ' H', Ext μ μ' H H' → Rel Y μ' h' H' → Q b H') ∧ ∀ e h', x e h' → Kx Y μ H (fun c d H' => W c d σ H') e h'
section
variable {X : Cx} {Y : Ky} {W : WX} {e : Expr} {m : ME} {mt : MT}
theorem se_of : SE Y W (teOf Y W m) m := fun μ env h σ H Q q x z hm kq kx => ⟨μ, env, h, q, x, z, hm, kq, kx⟩
theorem st_of : ST Y W (ttOf Y W mt) mt := fun μ env h σ H Q q x z hm kq kx => ⟨μ, env, h, q, x, z, hm, kq, kx⟩
theorem DE.pe (h : DE X Y W e m) : PE X e (teOf Y W m) := by
  obtain ⟨te, a1, a2⟩ := h
  exact ⟨fun pins s σ H Q I ⟨μ, env, h, q, x, z, hm, kq, kx⟩ => a1.run pins s σ H Q I (a2 μ env h σ H Q q x z hm kq kx)⟩
end
/-! ### targets -/
abbrev MG := Val → Me → Mh → (Me → Mh → Prop) → Prop
abbrev MGs := List Val → Me → Mh → (Me → Mh → Prop) → Prop
/-- what is wanted of a target that stores names among ts alone -/
def KG (Y : Ky) (μ : Mp) (H : Hp) (σ : St) (ts : List Nat) (Q : St → Hp → Prop) (env' : Me) (h' : Mh) : Prop := ∀ (μ' : Mp) (σ' : St) (H' : Hp), Ext μ μ' H H' → Ok Y μ' h' H' σ' env' → (∀ vs : List Nat, (∀ j ∈ ts, j ∈ vs) → wipe σ' vs = wipe σ vs) → Q σ' H'
def SG (Y : Ky) (ts : List Nat) (g : TG) (m : MG) : Prop := ∀ (μ : Mp) (env : Me) (h : Mh) (σ : St) (H : Hp) (v : V) (x : Val) (Q : St → Hp → Prop) (q : Me → Mh → Prop), Ok Y μ h H σ env → VR Y μ (vis μ H) v x → m x env h q →
  (∀ env' h', q env' h' → KG Y μ H σ ts Q env' h') → g v σ H Q
def SGs (Y : Ky) (ts : List Nat) (g : TGs) (m : MGs) : Prop := ∀ (μ : Mp) (env : Me) (h : Mh) (σ : St) (H : Hp) (v : List V) (x : List Val) (Q : St → Hp → Prop) (q : Me → Mh → Prop), Ok Y μ h H σ env → VRs Y μ (vis μ H) v x → m x env h q →
  (∀ env' h', q env' h' → KG Y μ H σ ts Q env' h') → g v σ H Q
structure DG (X : Cx) (Y : Ky) (ts : List Nat) (e : Expr) (m : MG) : Prop where
  go : ∃ g, PG X e g ∧ SG Y ts g m
structure DGs (X : Cx) (Y : Ky) (ts : List Nat) (e : List Expr) (m : MGs) : Prop where
  go : ∃ g, PGs X e g ∧ SGs Y ts g m
def tgOf (Y : Ky) (ts : List Nat) (m : MG) : TG := fun v σ H Q => ∃ (μ : Mp) (env : Me) (h : Mh) (x : Val) (q : Me → Mh → Prop), Ok Y μ h H σ env ∧ VR Y μ (vis μ H) v x ∧ m x env h q ∧ ∀ env' h', q env' h' → KG Y μ H σ ts Q env' h'
def mName (i : Nat) : MG := fun v env h q => q (env.set i (some v)) h
def msNil : MGs := fun vs env h q => vs = [] ∧ q env h
def msCons (g : MG) (r : MGs) : MGs := fun vs env h q => match vs with
  | v :: vs => g v env h fun env' h' => r vs env' h' q
  | [] => False
def mTup (gs : MGs) : MG := fun v env h q => ∃ xs, anyOf h v = some xs ∧ gs xs env h q
section
variable {X : Cx} {Y : Ky} {ts us : List Nat} {e : Expr} {es : List Expr} {m : MG} {ms : MGs}
theorem sg_of : SG Y ts (tgOf Y ts m) m := fun μ env h σ H v x Q q z rv hm k => ⟨μ, env, h, x, q, z, rv, hm, k⟩
theorem DG.pg (h : DG X Y ts e m) : PG X e (tgOf Y ts m) := by
  obtain ⟨g, a1, a2⟩ := h
  exact ⟨fun pins s σ H v u Q I r ⟨μ, env, h, x, q, z, rv, hm, k⟩ => a1.run pins s σ H v u Q I r (a2 μ env h σ H v x Q q z rv hm k)⟩
theorem sg_name {i : Nat} : SG Y [i] (gName i) (mName i) := fun μ env h σ H v x Q q z rv hm k =>
  k _ _ hm μ _ H .refl ⟨z.r, z.s.set i rv⟩ fun vs hv => wipe_set (hv i (by simp))
theorem dg_name {i : Nat} {x : Str} {pos : Pos} (hN : X.N.Nodup) (hi : X.N[i]? = some x) (hx : Loc X.env.scope x) (hf : X.fn x = true ∨ X.env.scope.names.lookup x = some .local := by first | exact .inl rfl | exact .inr rfl | assumption) : DG X Y [i] (.Name x pos) (mName i) := ⟨_, pg_name hN hi hx hf, sg_name⟩
theorem dgs_nil : DGs X Y [] [] msNil := ⟨_, pgs_nil, fun μ env h σ H v x Q q z rv ⟨hx, hm⟩ k => by
  subst hx; cases rv
  exact ⟨rfl, k _ _ hm μ σ H .refl z fun _ _ => rfl⟩⟩
theorem sgs_cons {t : TG} {u : TGs} (a : SG Y ts t m) (b : SGs Y us u ms) : SGs Y (ts ++ us) (gCons t u) (msCons m ms) := fun μ env h σ H v x Q q z rv hm k => by
  cases rv with
  | nil => exact hm.elim
  | cons r1 r2 =>
    refine ⟨_, _, rfl, a μ env h σ H _ _ _ _ z r1 hm fun env1 h1 k1 μ1 σ1 H1 e1 z1 w1 => ?_⟩
    refine b μ1 env1 h1 σ1 H1 _ _ Q q z1 (r2.mono e1.le) k1 fun env2 h2 k2 μ2 σ2 H2 e2 z2 w2 => ?_
    refine k env2 h2 k2 μ2 σ2 H2 (e1.trans e2) z2 fun vs hv => ?_
    rw [w2 vs fun j hj => hv j (List.mem_append_right _ hj), w1 vs fun j hj => hv j (List.mem_append_left _ hj)]
theorem dgs_cons (h1 : DG X Y ts e m) (h2 : DGs X Y us es ms) (hs : (assignEach (e :: es) X.env).map (·.2) = assign e X.env :: (assignEach es X.env).map (·.2) := by rfl) : DGs X Y (ts ++ us) (e :: es) (msCons m ms) := by
  obtain ⟨g, a1, a2⟩ := h1; obtain ⟨gs, b1, b2⟩ := h2
  exact ⟨_, pgs_cons a1 b1 hs, sgs_cons a2 b2⟩
/-- a, b, .. = : n items -/
def mTupN (n : Nat) (gs : MGs) : MG := fun v env h q => ∃ xs, anyOf h v = some xs ∧ xs.length = n ∧ gs xs env h q
theorem dg_tup {n k : Nat} {pos : Pos} (hK : X.K = Y.K) (hc : X.calm = true) (h : DGs X Y ts es ms) (hn : (assignEach es X.env).length = n := by rfl) (hst : (assignEach es X.env).findIdx? (·.1) = none := by rfl) : DG X Y ts (.Tuple es k pos) (mTupN n ms) := by
  obtain ⟨gs, b1, b2⟩ := h
  refine ⟨_, kpg_tup hK (pg_tup hc b1 hn hst) (pg_unl hc b1 hn hst), fun μ env h σ H v x Q q z rv ⟨xs, ea, hl, hm⟩ k => ?_⟩
  obtain ⟨p, vs, rfl, h1, t1⟩ := rd_any z.r rv ea
  have := b2 μ env h σ H vs xs Q q z t1 hm k
  rcases h1 with h1 | h1
  · exact .inr ⟨p, vs, rfl, SqL.of h1, by rw [t1.length]; exact hl, this⟩
  · exact .inl ⟨p, vs, rfl, h1, by rw [t1.length]; exact hl, this⟩
end
/-! ### what is walked -/
abbrev MI := Me → Mh → (List Val → (Mh → Prop) → Mh → Prop) → XQ → Prop
theorem Le.trans {μ μ' μ'' : Mp} {G G' G'' : Hp} (a : Le μ μ' G G') (b : Le μ' μ'' G' G'') : Le μ μ'' G G'' := ⟨fun n c e => b.cells n c (a.cells n c e), fun s e => b.src s (a.src s e), a.same.trans b.same⟩
/-- J walks xs while al holds -/
structure Wk (Y : Ky) (μ₀ : Mp) (H₀ : Hp) (J : It) (xs : List Val) (al : Mh → Prop) : Prop where
  go : ∀ μ h H (i : Nat), Le μ₀ μ (vis μ₀ H₀) (vis μ H) → Rel Y μ h H → al h → i < xs.length → J.go i H
  yld : ∀ μ h H (i : Nat) v H', Le μ₀ μ (vis μ₀ H₀) (vis μ H) → Rel Y μ h H → al h → J.yld i H v H' → i < xs.length → ∃ x, xs[i]? = some x ∧ Same H H' ∧ VR Y μ (vis μ H') v x
  stop : ∀ μ h H (i : Nat), Le μ₀ μ (vis μ₀ H₀) (vis μ H) → Rel Y μ h H → al h → xs.length ≤ i → J.stop i H
theorem Wk.after {Y : Ky} {μ μ' : Mp} {H H' : Hp} {J : It} {xs : List Val} {al : Mh → Prop} (w : Wk Y μ H J xs al) (e : Le μ μ' (vis μ H) (vis μ' H')) : Wk Y μ' H' J xs al :=
  ⟨fun a b c i e' => w.go a b c i (e.trans e'), fun a b c i v d e' => w.yld a b c i v d (e.trans e'), fun a b c i e' => w.stop a b c i (e.trans e')⟩
def SI (Y : Ky) (W : WX) (wi : TI) (m : MI) : Prop := ∀ (μ : Mp) (env : Me) (h : Mh) (σ : St) (H : Hp) (R : It → Hp → Prop) (q : List Val → (Mh → Prop) → Mh → Prop) (x : XQ), Ok Y μ h H σ env → m env h q x →
  (∀ xs al h', q xs al h' → ∀ (μ' : Mp) (J : It) (H' : Hp), Ext μ μ' H H' → Rel Y μ' h' H' → Wk Y μ' H' J xs al → R J H') → (∀ e h', x e h' → Kx Y μ H (fun c d H' => W c d σ H') e h') → wi σ H R
structure DI (X : Cx) (Y : Ky) (W : WX) (tg e : Expr) (m : MI) : Prop where
  go : ∃ wi, PI X tg e wi ∧ SI Y W wi m
def signsM (w : Str) : List Val := w.cps.toList.map fun c => .str ⟨#[c]⟩
/-- over a list, a tuple or a text: which of them is said ahead -/
def iSeq (m : ME) : MI := fun env h k x => (m env h (fun v h1 => ∃ xs, lstOf h1 v = some xs ∧ k xs (fun h => lstOf h v = some xs) h1) x) ∨
  (m env h (fun v h1 => match v with
    | .tup xs => k xs (fun _ => True) h1
    | _ => False) x) ∨ m env h (fun v h1 => match v with
    | .str w => k (signsM w) (fun _ => True) h1
    | _ => False) x
def iRange (a : MA) : MI := fun env h k x => a env h (fun vs h1 => match vs with
  | [.int n] => -100000 ≤ n ∧ n ≤ 100000 ∧ k ((List.range n.toNat).map fun (i : Nat) => .int (i : Int)) (fun _ => True) h1
  | _ => False) x
def pairsM : List Val → List Val → List Val
  | d :: ds, e :: es => .tup [d, e] :: pairsM ds es
  | _, _ => []
theorem pairsM_get : ∀ {ds es : List Val} {i : Nat} {d e : Val}, ds[i]? = some d → es[i]? = some e → (pairsM ds es)[i]? = some (.tup [d, e])
  | d :: ds, e :: es, 0, _, _, h1, h2 => by
    simp at h1 h2
    subst h1; subst h2
    rfl
  | d :: ds, e :: es, i + 1, _, _, h1, h2 => by
    simp only [List.getElem?_cons_succ] at h1 h2
    exact pairsM_get (ds := ds) (es := es) h1 h2
  | [], _, _, _, _, h1, _ => by simp at h1
  | _ :: _, [], _, _, _, _, h2 => by simp at h2
theorem pairsM_length : ∀ {ds es : List Val}, (pairsM ds es).length = min ds.length es.length
  | [], es => by simp [pairsM]
  | d :: ds, [] => by simp [pairsM]
  | d :: ds, e :: es => by
    show (pairsM ds es).length + 1 = min (ds.length + 1) (es.length + 1)
    rw [pairsM_length]; omega
def tupOf : Val → Option (List Val)
  | .tup xs => some xs
  | _ => none
def iZip (a : MA) : MI := fun env h k x => a env h (fun vs h1 => match vs with
  | [u, v] => (∃ xs ys, lstOf h1 u = some xs ∧ lstOf h1 v = some ys ∧ k (pairsM xs ys) (fun h => lstOf h u = some xs ∧ lstOf h v = some ys) h1) ∨
      ∃ xs ys, tupOf u = some xs ∧ tupOf v = some ys ∧ k (pairsM xs ys) (fun _ => True) h1
  | _ => False) x
/-- a list or tuple that is no cell -/
def sqV : Val → Option (List Val)
  | .lst xs => some xs
  | .tup xs => some xs
  | _ => none
def colsM (ds : List Val) (n : Nat) : List Val := (List.range n).map fun i => .tup (ds.map fun d => ((sqV d).getD []).getD i .non)
def iZipS (m : ME) : MI := fun env h k x => m env h (fun v h1 => ∃ ds n, sqV v = some ds ∧ ds ≠ [] ∧ ds.length ≤ 100000 ∧ (∀ d ∈ ds, ∃ xs, sqV d = some xs ∧ xs.length = n) ∧ k (colsM ds n) (fun _ => True) h1) x
section
variable {X : Cx} {Y : Ky} {W : WX} {tg e : Expr} {m : ME} {a : MA} {te : TE} {ta : TA}
theorem wk_list {μ : Mp} {H : Hp} {a : Addr} {v : Val} {xs : List Val} (rv : VR Y μ (vis μ H) (.ref a) v) : Wk Y μ H (Itl Y.K a) xs (fun h => lstOf h v = some xs) := by
  have at_ : ∀ {μ1 h1 H1}, Le μ μ1 (vis μ H) (vis μ1 H1) → Rel Y μ1 h1 H1 → lstOf h1 v = some xs → ∃ vs, H1 a = some (.lst vs) ∧ VRs Y μ1 (vis μ1 H1) vs xs := fun e r ea => by
    obtain ⟨p, vs, e1, e2, t⟩ := rd_lst r (rv.mono e) ea
    cases e1
    exact ⟨vs, e2, t⟩
  refine ⟨fun μ1 h1 H1 i e r ea hi => ?_, fun μ1 h1 H1 i v' H2 e r ea y hi => ?_, fun μ1 h1 H1 i e r ea hi => ?_⟩
  · obtain ⟨vs, e2, t⟩ := at_ e r ea
    rw [← t.length] at hi
    exact ⟨vs, vs[i], SqL.of e2, by simp [hi]⟩
  · obtain ⟨vs, e2, t⟩ := at_ e r ea
    obtain ⟨eH, y⟩ := y
    subst eH
    have g := y vs (SqL.of e2)
    obtain ⟨x, ex, rx⟩ := t.get g
    exact ⟨x, ex, Same.refl _, rx⟩
  · obtain ⟨vs, e2, t⟩ := at_ e r ea
    rw [← t.length] at hi
    exact ⟨vs, SqL.of e2, hi⟩
theorem wk_tup {μ : Mp} {H : Hp} {a : Addr} {xs : List Val} {al : Mh → Prop} (rv : VR Y μ (vis μ H) (.ref a) (.tup xs)) : Wk Y μ H (Itt Y.K a) xs al := by
  have at_ : ∀ {μ1 H1}, Le μ μ1 (vis μ H) (vis μ1 H1) → ∃ vs, SqT Y.K H1 a vs ∧ VRs Y μ1 (vis μ1 H1) vs xs := fun e => by
    obtain ⟨p, vs, e1, e2, t⟩ := rd_tup (rv.mono e)
    cases e1
    exact ⟨vs, e2, t⟩
  refine ⟨fun μ1 h1 H1 i e r ea hi => ?_, fun μ1 h1 H1 i v' H2 e r ea y hi => ?_, fun μ1 h1 H1 i e r ea hi => ?_⟩
  · obtain ⟨vs, e2, t⟩ := at_ e
    rw [← t.length] at hi
    exact ⟨vs, vs[i], e2, by simp [hi]⟩
  · obtain ⟨vs, e2, t⟩ := at_ e
    obtain ⟨eH, y⟩ := y
    subst eH
    have g := y vs e2
    obtain ⟨x, ex, rx⟩ := t.get g
    exact ⟨x, ex, Same.refl _, rx⟩
  · obtain ⟨vs, e2, t⟩ := at_ e
    rw [← t.length] at hi
    exact ⟨vs, e2, hi⟩
theorem si_seq (s : SE Y W te m) : SI Y W (iAny Y.K te) (iSeq m) := fun μ env h σ H R q x z hm kq kx => by
  rcases hm with hm | hm | hm
  · exact .inl (s μ env h σ H _ _ x z hm (fun v h1 ⟨xs, ea, k⟩ μ1 U H1 e1 r1 v1 => by
      obtain ⟨p, vs, rfl, h2, t⟩ := rd_lst r1 v1 ea
      exact ⟨p, rfl, ⟨vs, SqL.of h2⟩, kq _ _ _ k μ1 _ H1 e1 r1 (wk_list v1)⟩) kx)
  · exact .inr (.inl (s μ env h σ H _ _ x z hm (fun v h1 k μ1 U H1 e1 r1 v1 => by
      cases v with
      | tup xs =>
        obtain ⟨p, vs, rfl, h2, t⟩ := rd_tup v1
        exact ⟨p, rfl, ⟨vs, h2⟩, kq _ _ _ k μ1 _ H1 e1 r1 (wk_tup v1)⟩
      | _ => exact k.elim) kx))
  · exact .inr (.inr (s μ env h σ H _ _ x z hm (fun v h1 k μ1 U H1 e1 r1 v1 => by
      cases v with
      | str w =>
        cases v1
        refine ⟨w, rfl, kq _ _ _ k μ1 _ H1 e1 r1 ⟨fun a b c i e r al hi => ?_, fun a b c i v d e r al y hi => ?_, fun a b c i e r al hi => ?_⟩⟩
        · show i < w.cps.size
          simpa [signsM] using hi
        · obtain ⟨e3, ch, e4, e5⟩ := y
          subst e3; subst e5
          refine ⟨.str ⟨#[ch]⟩, ?_, Same.refl _, .str _⟩
          unfold signsM
          rw [List.getElem?_map]
          simp [e4]
        · show w.cps.size ≤ i
          simpa [signsM] using hi
      | _ => exact k.elim) kx))
theorem di_seq (hK : X.K = Y.K) (h : DE X Y W e m) : DI X Y W tg e (iSeq m) := by
  obtain ⟨te, a1, a2⟩ := h
  exact ⟨_, kpi hK a1, si_seq a2⟩
theorem si_range (s : SA Y W ta a) : SI Y W (iRng1 ta) (iRange a) := fun μ env h σ H R q x z hm kq kx =>
  s μ env h σ H _ _ x z hm (fun vs h1 k μ1 Us H1 e1 r1 v1 => by
    match vs, k with
    | [.int n], ⟨hn0, hn, k⟩ =>
      obtain ⟨U, rfl, v2⟩ := vrs1 v1
      cases v2 with
      | int n =>
        refine ⟨n, rfl, by omega, by omega, kq _ _ _ k μ1 _ H1 e1 r1 ⟨fun a b c i e r al hi => ?_, fun a b c i v d e r al y hi => ?_, fun a b c i e r al hi => ?_⟩⟩
        · show i < n.toNat
          simpa using hi
        · obtain ⟨e3, e4⟩ := y
          subst e3; subst e4
          have hi' : i < n.toNat := by simpa using hi
          refine ⟨.int (i : Int), ?_, Same.refl _, ?_⟩
          · rw [List.getElem?_map, List.getElem?_range hi']; rfl
          · have : (0 : Int) + (i : Int) = (i : Int) := by omega
            rw [this]; exact .int _
        · show n.toNat ≤ i
          simpa using hi) kx
theorem di_range {a1 : Expr} {p pos : Pos} (hg : Gl X "range") (hm : X.mg "range" = none) (ha : DA X Y W [a1] a) (hs : starEach [a1] X.env = [(false, eval a1 X.env)] := by rfl) : DI X Y W tg (.Call (.Name "range" p) [a1] [] pos) (iRange a) := by
  obtain ⟨ta, b1, b2⟩ := ha
  exact ⟨_, pi_range1 hg hm b1 hs, si_range b2⟩
theorem pair_vr {μ : Mp} {h : Mh} {H : Hp} {T : Addr} {v w : V} {x y : Val} (r : Rel Y μ h H) (n : H T = none) (a : VR Y μ (vis μ H) v x) (b : VR Y μ (vis μ H) w y) : VR Y μ (vis μ (upd H T (.tup [v, w]))) (.ref T) (.tup [x, y]) := by
  obtain ⟨e, s⟩ := new_vis (o := .tup [v, w]) r n
  exact .tup (SqT.of e) (.cons (a.sm s) (.cons (b.sm s) .nil))
theorem si_zip (s : SA Y W ta a) : SI Y W (iZipA Y.K ta) (iZip a) := fun μ env h σ H R q x z hm kq kx =>
  s μ env h σ H _ _ x z hm (fun vs h1 k μ1 Us H1 e1 r1 v1 => by
    match vs, k with
    | [u, v], .inl ⟨xs, ys, ea, eb, k⟩ =>
      obtain ⟨U, U', rfl, va, vb⟩ := vrs2 v1
      obtain ⟨p, vs, rfl, h2, t⟩ := rd_lst r1 va ea
      obtain ⟨p', ws, rfl, h2', t'⟩ := rd_lst r1 vb eb
      have at1 : ∀ {μ2 h2 H2}, Le μ1 μ2 (vis μ1 H1) (vis μ2 H2) → Rel Y μ2 h2 H2 → lstOf h2 u = some xs → ∃ vs, H2 p = some (.lst vs) ∧ VRs Y μ2 (vis μ2 H2) vs xs := fun e r ea => by
        obtain ⟨p, vs, e1, e2, t⟩ := rd_lst r (va.mono e) ea
        cases e1; exact ⟨vs, e2, t⟩
      have at2 : ∀ {μ2 h2 H2}, Le μ1 μ2 (vis μ1 H1) (vis μ2 H2) → Rel Y μ2 h2 H2 → lstOf h2 v = some ys → ∃ vs, H2 p' = some (.lst vs) ∧ VRs Y μ2 (vis μ2 H2) vs ys := fun e r ea => by
        obtain ⟨p, vs, e1, e2, t⟩ := rd_lst r (vb.mono e) ea
        cases e1; exact ⟨vs, e2, t⟩
      refine ⟨p, p', _, _, rfl, .inl ⟨SqL.of h2, SqL.of h2', kq _ _ _ k μ1 _ H1 e1 r1 ⟨fun a b c i e r al hi => ?_, fun a b c i v d e r al y hi => ?_, fun a b c i e r al hi => ?_⟩⟩⟩
      · obtain ⟨vs, e2, t⟩ := at1 e r al.1
        obtain ⟨ws, e3, t'⟩ := at2 e r al.2
        rw [pairsM_length, ← t.length, ← t'.length] at hi
        exact ⟨vs, ws, vs[i]'(by omega), ws[i]'(by omega), SqL.of e2, SqL.of e3, by simp, by simp⟩
      · obtain ⟨vs, e2, t⟩ := at1 e r al.1
        obtain ⟨ws, e3, t'⟩ := at2 e r al.2
        obtain ⟨Tp, x, y', rfl, hT, rfl, g1, g2⟩ := y
        obtain ⟨d1, f1, q1⟩ := t.get (g1 _ (SqL.of e2))
        obtain ⟨d2, f2, q2⟩ := t'.get (g2 _ (SqL.of e3))
        exact ⟨_, pairsM_get f1 f2, same_new hT, pair_vr r hT q1 q2⟩
      · obtain ⟨vs, e2, t⟩ := at1 e r al.1
        obtain ⟨ws, e3, t'⟩ := at2 e r al.2
        rw [pairsM_length, ← t.length, ← t'.length] at hi
        exact ⟨vs, ws, SqL.of e2, SqL.of e3, by omega⟩
    | [u, v], .inr ⟨xs, ys, hu, hv, k⟩ =>
      have tu : ∀ {v : Val} {xs : List Val}, tupOf v = some xs → v = .tup xs := fun {v xs} e => by
        cases v <;> first | (cases e; rfl) | (cases e; done)
      obtain rfl := tu hu
      obtain rfl := tu hv
      obtain ⟨U, U', rfl, va, vb⟩ := vrs2 v1
      obtain ⟨p, vs, rfl, h2, t⟩ := rd_tup va
      obtain ⟨p', ws, rfl, h2', t'⟩ := rd_tup vb
      have at1 : ∀ {μ2 H2}, Le μ1 μ2 (vis μ1 H1) (vis μ2 H2) → ∃ vs, SqT Y.K H2 p vs ∧ VRs Y μ2 (vis μ2 H2) vs xs := fun e => by
        obtain ⟨p, vs, e1, e2, t⟩ := rd_tup (va.mono e)
        cases e1; exact ⟨vs, e2, t⟩
      have at2 : ∀ {μ2 H2}, Le μ1 μ2 (vis μ1 H1) (vis μ2 H2) → ∃ vs, SqT Y.K H2 p' vs ∧ VRs Y μ2 (vis μ2 H2) vs ys := fun e => by
        obtain ⟨p, vs, e1, e2, t⟩ := rd_tup (vb.mono e)
        cases e1; exact ⟨vs, e2, t⟩
      refine ⟨p, p', _, _, rfl, .inr ⟨h2, h2', kq _ _ _ k μ1 _ H1 e1 r1 ⟨fun a b c i e r al hi => ?_, fun a b c i v d e r al y hi => ?_, fun a b c i e r al hi => ?_⟩⟩⟩
      · obtain ⟨vs, e2, t⟩ := at1 e
        obtain ⟨ws, e3, t'⟩ := at2 e
        rw [pairsM_length, ← t.length, ← t'.length] at hi
        exact ⟨vs, ws, vs[i]'(by omega), ws[i]'(by omega), e2, e3, by simp, by simp⟩
      · obtain ⟨vs, e2, t⟩ := at1 e
        obtain ⟨ws, e3, t'⟩ := at2 e
        obtain ⟨Tp, x, y', rfl, hT, rfl, g1, g2⟩ := y
        obtain ⟨d1, f1, q1⟩ := t.get (g1 _ e2)
        obtain ⟨d2, f2, q2⟩ := t'.get (g2 _ e3)
        exact ⟨_, pairsM_get f1 f2, same_new hT, pair_vr r hT q1 q2⟩
      · obtain ⟨vs, e2, t⟩ := at1 e
        obtain ⟨ws, e3, t'⟩ := at2 e
        rw [pairsM_length, ← t.length, ← t'.length] at hi
        exact ⟨vs, ws, e2, e3, by omega⟩) kx
theorem di_zip {e1 e2 : Expr} {p pos tpos : Pos} {elts : List Expr} {kk : Nat} (hK : X.K = Y.K) (hg : Gl X "zip") (hm : X.mg "zip" = none) (ha : DA X Y W [e1, e2] a)
    (hs : starEach [e1, e2] X.env = (false, eval e1 X.env) :: starEach [e2] X.env := by rfl) (hpl : (backTo pos (starEach [e2] X.env)).any (·.1) = false := by rfl) :
    DI X Y W (.Tuple elts kk tpos) (.Call (.Name "zip" p) [e1, e2] [] pos) (iZip a) := by
  obtain ⟨ta, b1, b2⟩ := ha
  exact ⟨_, kpi_zip hK hg hm b1 hs hpl, si_zip b2⟩
end
end Sx

end
section
set_option Elab.async false
set_option linter.all false
set_option maxRecDepth 100000
set_option maxHeartbeats 2000000
/-! SX6: comprehensions -/
namespace Sx
open PySem L2 Cl RZ ZN
def Mp.hide (μ : Mp) (D : Addr) : Mp := { μ with ex := D :: μ.ex }
def Mp.show (μ : Mp) (ex : List Addr) : Mp := { μ with ex := ex }
section
variable {Y : Ky} {μ μ' : Mp} {h : Mh} {H H' : Hp} {D : Addr} {o : HO}
theorem hide_m {a : Addr} : (μ.hide D).m a = μ.m a := rfl
theorem hide_h {a : Addr} (n : a ≠ D) : (μ.hide D).h a = μ.h a := by
  unfold Mp.h
  have : (μ.hide D).k a = μ.k a := by
    unfold Mp.k Mp.hide
    simp [n]
  rw [this]; rfl
theorem Rel.fresh_m (r : Rel Y μ h H) (n : H D = none) : μ.h D = false := by
  cases q : μ.h D with
  | false => rfl
  | true => exact absurd n (r.good D q)
theorem le_hide (n : H D = none) : Le μ (μ.hide D) (vis μ H) (vis (μ.hide D) (upd H D o)) :=
  ⟨fun _ _ e => e, fun _ e => e, hid_mono fun b u nb e => by
    have hb : b ≠ D := ne_of_none e n
    exact ⟨by rw [hide_h hb]; exact nb, by rw [upd_ne hb]; exact e⟩⟩
theorem Rel.hide (r : Rel Y μ h H) (n : H D = none) : Rel Y (μ.hide D) h (upd H D o) := by
  have hD := Mp.m_h (r.fresh_m n)
  refine ⟨r.len, r.nd, fun i a c e1 e2 => ?_, fun p l e => ?_, fun a q => ?_, r.tbm, r.tb.mono (le_hide n).same fun z _ nz => upd_ne fun eq => nz (by rw [eq]; exact n)⟩
  · refine (r.at_ i a c e1 e2).mono (le_hide n) ?_
    rw [upd_ne fun e => (r.at_ i a c e1 e2).some (by rw [e]; exact n)]
  · exact ⟨SrcOk.same (same_new n) (r.src p l e).1, (r.src p l e).2⟩
  · rcases List.mem_cons.mp q with q | q
    · subst q; exact ⟨by rw [upd_same]; exact fun z => (nomatch z), hD⟩
    · exact ⟨(Kp.same (m := fun _ => false) (same_new n)).2 a (r.ex a q).1, (r.ex a q).2⟩
theorem Rel.unhide {ex : List Addr} (r : Rel Y μ h H) (e : μ.ex = D :: ex) : Rel Y (μ.show ex) h H ∧ Le μ (μ.show ex) (vis μ H) (vis (μ.show ex) H) := by
  have sub : ∀ a, (μ.show ex).h a = true → μ.h a = true := fun a q => by
    unfold Mp.h at q ⊢
    rcases Bool.or_eq_true_iff.mp q with q | q
    · have q : μ.m a = true := q
      rw [q]; rfl
    · have : μ.k a = true := by
        unfold Mp.k at q ⊢
        rcases Bool.or_eq_true_iff.mp q with q | q
        · have : a ∈ μ.ex := by rw [e]; exact List.mem_cons_of_mem _ (of_decide_eq_true q)
          rw [decide_eq_true this]; rfl
        · exact Bool.or_eq_true_iff.mpr (.inr q)
      rw [this]; simp
  have le : Le μ (μ.show ex) (vis μ H) (vis (μ.show ex) H) := ⟨fun _ _ e => e, fun _ e => e, hid_mono fun b u nb q => by
    refine ⟨?_, q⟩
    cases z : (μ.show ex).h b with
    | false => rfl
    | true => rw [sub b z] at nb; cases nb⟩
  refine ⟨⟨r.len, r.nd, fun i a c e1 e2 => (r.at_ i a c e1 e2).mono le rfl, r.src, fun a q => ?_, r.tbm, r.tb.mono le.same fun _ _ _ => rfl⟩, le⟩
  exact r.ex a (by rw [e]; exact List.mem_cons_of_mem _ q)
theorem Ext.shown {ex : List Addr} (x : Ext μ μ' H H') : Ext (μ.show ex) (μ'.show ex) H H' := ⟨x.cells, x.src, rfl, x.freshm, x.keep, x.there, x.tb⟩
/-- a hidden thing that is no cell is changed -/
theorem vis_hidden (q : μ.h D = true) : vis μ (upd H D o) = vis μ H := by
  funext b
  show hid μ.h (upd H D o) b = hid μ.h H b
  unfold hid
  by_cases e : b = D
  · subst e; rw [q]; rfl
  · rw [upd_ne e]
theorem Rel.touch (r : Rel Y μ h H) (q : μ.h D = true) (n : μ.m D = false) (nl : ∀ p l, μ.src = some (p, l) → l ≠ D) : Rel Y μ h (upd H D o) := by
  have le : Le μ μ (vis μ H) (vis μ (upd H D o)) := ⟨fun _ _ e => e, fun _ e => e, by rw [vis_hidden q]; exact Same.refl _⟩
  refine ⟨r.len, r.nd, fun i a c e1 e2 => (r.at_ i a c e1 e2).mono le ?_, fun p l e => ⟨?_, (r.src p l e).2⟩, fun a qa => ⟨?_, (r.ex a qa).2⟩, r.tbm, r.tb.mono le.same fun z hz _ => upd_ne fun eq => by
    rw [← eq, Mp.m_tb (by rw [r.tbm]; exact List.mem_map.mpr ⟨z, hz, rfl⟩)] at n; cases n⟩
  · rw [upd_ne fun e => by subst e; rw [Mp.m_cell e1] at n; cases n]
  · obtain ⟨ns, k, r', x, e1, e2, z⟩ := (r.src p l e).1
    refine ⟨ns, k, r', x, ?_, ?_, z⟩
    · rw [upd_ne fun eq => by subst eq; rw [(Mp.m_src e).1] at n; cases n]; exact e1
    · rw [upd_ne (nl p l e)]; exact e2
  · by_cases e : a = D
    · subst e; rw [upd_same]; exact fun z => nomatch z
    · rw [upd_ne e]; exact (r.ex a qa).1
end
/-- the turns of a comprehension -/
def lcGo (al : Mh → Prop) (g : MG) (t : MT) (e : ME) (env : Me) : List Val → List Val → Mh → (List Val → Mh → Prop) → Prop
  | [], acc, h, q => al h ∧ q acc h
  | x :: xs, acc, h, q => al h ∧ g x env h fun env2 h2 => t env2 h2 (fun b h3 => if b = true then e env2 h3 (fun y h4 => lcGo al g t e env xs (acc ++ [y]) h4 q) F0 else lcGo al g t e env xs acc h3 q) F0
def tYesM : MT := fun _ h q _ => q true h
def eLc (i : MI) (g : MG) (t : MT) (e : ME) (vs : List Nat) : ME := fun env h q x => i env h (fun xs al h1 => xs.length ≤ 90000 ∧ lcGo al g t e (wipeM env vs) xs [] h1 fun ys h2 => q (.lst ys) h2) x
/-- .. a list that may be changed -/
def eLcC (i : MI) (g : MG) (t : MT) (e : ME) (vs : List Nat) : ME := fun env h q x => i env h (fun xs al h1 => xs.length ≤ 90000 ∧ lcGo al g t e (wipeM env vs) xs [] h1 fun ys h2 => q (.ref h2.length) (h2 ++ [.lst ys])) x
section
variable {X : Cx} {Y : Ky} {W : WX} {wi : TI} {g : TG} {tt : TT} {te : TE} {mi : MI} {mg : MG} {mt : MT} {me : ME} {ts vs : List Nat}
theorem lc_go {Q : VK} {q' : List Val → Mh → Prop} (hts : ∀ j ∈ ts, j ∈ vs) (sg : SG Y ts g mg) (st : ST Y W0 tt mt) (se : SE Y W0 te me) {μ₁ : Mp} {h1 : Mh} {H1 : Hp} {σ : St} {env : Me} {J : It} {xs : List Val} {al : Mh → Prop}
    (z : Ok Y μ₁ h1 H1 σ env) (wk : Wk Y μ₁ H1 J xs al) (hl : xs.length ≤ 90000) (hm : lcGo al mg mt me (wipeM env vs) xs [] h1 q') (D : Addr) (hD : H1 D = none)
    (fin : ∀ (acc : List Val) (h2 : Mh) (μ₂ : Mp) (H2 : Hp) (va : List V), q' acc h2 → Ext μ₁ (μ₂.show μ₁.ex) H1 H2 → μ₂.ex = D :: μ₁.ex → Rel Y μ₂ h2 H2 → H2 D = some (.lst va) → VRs Y μ₂ (vis μ₂ H2) va acc → acc.length ≤ 90000 → Q (.ref D) H2) :
    ∃ Wn : Nat → Nat → Hp → Prop, (∃ m, Wn 0 m (upd H1 D (.lst []))) ∧ ∀ i m H, Wn i m H →
      (J.stop i H ∧ Q (.ref D) H) ∨ (J.go i H ∧ ∃ Nx : Hp → Prop, (∀ H', Nx H' → ∃ m', m' < m ∧ Wn (i + 1) m' H') ∧ ∀ x H', J.yld i H x H' → g x (wipe σ vs) H' fun σ2 H2 => wipe σ2 vs = wipe σ vs ∧ tt σ2 H2 fun b H3 =>
        if b = true then te σ2 H3 fun y H4 => ∃ acc, H4 D = some (.lst acc) ∧ acc.length < sizeLine ∧ Nx (upd H4 D (.lst (acc ++ [y]))) else Nx H3) := by
  have nl : ∀ p l, μ₁.src = some (p, l) → l ≠ D := fun p l e q => (SrcOk.ne (z.r.src p l e).1).2 (by rw [q]; exact hD)
  refine ⟨fun i m H2 => m = xs.length - i ∧ i ≤ xs.length ∧ ∃ (μ₂ : Mp) (h2 : Mh) (acc : List Val) (va : List V), Ext μ₁ (μ₂.show μ₁.ex) H1 H2 ∧ μ₂.ex = D :: μ₁.ex ∧ Le μ₁ μ₂ (vis μ₁ H1) (vis μ₂ H2) ∧ Rel Y μ₂ h2 H2 ∧ H2 D = some (.lst va) ∧ VRs Y μ₂ (vis μ₂ H2) va acc ∧ acc.length ≤ i ∧ lcGo al mg mt me (wipeM env vs) (xs.drop i) acc h2 q',
    ⟨xs.length, by simp, Nat.zero_le _, μ₁.hide D, h1, [], [], Ext.same (same_new hD), rfl, le_hide hD, z.r.hide hD, upd_same, .nil, Nat.le_refl _, by simpa using hm⟩, ?_⟩
  rintro i m H2 ⟨rfl, hi, μ₂, h2, acc, va, ex, exD, le2, r2, eD, rva, hacc, hgo⟩
  have hDm : μ₂.m D = false := (r2.ex D (by rw [exD]; simp)).2
  by_cases hlt : i < xs.length
  · rw [List.drop_eq_getElem_cons hlt] at hgo
    obtain ⟨hal, hg⟩ := hgo
    refine .inr ⟨wk.go _ _ _ i le2 r2 hal hlt, fun H3 => ∃ (μ₂ : Mp) (h2 : Mh) (acc : List Val) (va : List V), Ext μ₁ (μ₂.show μ₁.ex) H1 H3 ∧ μ₂.ex = D :: μ₁.ex ∧ Le μ₁ μ₂ (vis μ₁ H1) (vis μ₂ H3) ∧ Rel Y μ₂ h2 H3 ∧ H3 D = some (.lst va) ∧ VRs Y μ₂ (vis μ₂ H3) va acc ∧ acc.length ≤ i + 1 ∧ lcGo al mg mt me (wipeM env vs) (xs.drop (i + 1)) acc h2 q', ?_, ?_⟩
    · rintro H3 q
      exact ⟨xs.length - (i + 1), by omega, rfl, by omega, q⟩
    · intro v H3 y
      obtain ⟨x, ex3, sm, rvx⟩ := wk.yld _ _ _ i v H3 le2 r2 hal y hlt
      rw [List.getElem?_eq_getElem hlt] at ex3
      cases ex3
      have e3 : Ext μ₂ μ₂ H2 H3 := .same sm
      have r3 : Rel Y μ₂ h2 H3 := r2.same sm
      have s3 : SR Y μ₂ H3 (wipe σ vs) (wipeM env vs) := by
        have s0 := z.s.wipe vs
        exact ⟨s0.len, fun i x q => let ⟨v, a, b⟩ := s0.at_ i x q; ⟨v, a, (b.mono le2).mono e3.le⟩⟩
      refine sg μ₂ (wipeM env vs) h2 (wipe σ vs) H3 v xs[i] _ _ ⟨r3, s3⟩ rvx hg fun env4 h4 k4 μ₄ σ4 H4 e4 z4 w4 => ⟨?_, ?_⟩
      · rw [w4 vs hts, wipe_wipe]
      · refine st μ₄ env4 h4 σ4 H4 _ _ F0 z4 k4 (fun b h5 k5 μ₅ H5 e5 r5 => ?_) fun _ _ z => z.elim
        have e35 := (e3.trans e4).trans e5
        have eD5 : H5 D = some (.lst va) := (e4.trans e5).keep D _ hDm (sm D _ eD)
        cases b with
        | false =>
          rw [if_neg Bool.false_ne_true] at k5 ⊢
          exact ⟨μ₅, h5, acc, va, ex.trans e35.shown, e35.ex.trans exD, le2.trans e35.le, r5, eD5, rva.mono e35.le, by omega, k5⟩
        | true =>
          rw [if_pos rfl] at k5 ⊢
          refine se μ₅ env4 h5 σ4 H5 _ _ F0 (z4.go e5 r5) k5 (fun y h6 k6 μ₆ vy H6 e6 r6 v6 => ?_) fun _ _ z => z.elim
          have e36 := e35.trans e6
          have hDm6 : μ₆.m D = false := ((e4.trans e5).trans e6).nm hDm (by rw [sm D _ eD]; exact fun z => nomatch z)
          have eD6 : H6 D = some (.lst va) := ((e4.trans e5).trans e6).keep D _ hDm (sm D _ eD)
          have ex6 : μ₆.ex = D :: μ₁.ex := e36.ex.trans exD
          have hDh : μ₆.h D = true := by
            unfold Mp.h Mp.k
            rw [ex6]; simp
          have src6 : μ₆.src = μ₁.src := e36.src.trans ex.src
          have x6 : Ext μ₁ (μ₆.show μ₁.ex) H1 H6 := ex.trans e36.shown
          refine ⟨va, eD6, ?_, μ₆, h6, acc ++ [y], va ++ [vy], ⟨x6.cells, x6.src, x6.ex, x6.freshm, fun b u nb e => ?_, fun b q => ?_, x6.tb⟩, ex6, ?_, r6.touch hDh hDm6 fun p l e => nl p l (src6 ▸ e), upd_same, ?_, by simp; omega, k6⟩
          · rw [rva.length]
            exact Nat.lt_of_le_of_lt (Nat.le_trans hacc (Nat.le_trans hi hl)) (by decide)
          · rw [upd_ne (ne_of_none e hD)]; exact x6.keep b u nb e
          · by_cases eb : b = D
            · subst eb; exact absurd hD q
            · rw [upd_ne eb]; exact x6.there b q
          · rw [vis_hidden hDh]; exact le2.trans e36.le
          · rw [vis_hidden hDh]; exact (rva.mono e36.le).append (.one v6)
  · have e : i = xs.length := by omega
    subst e
    rw [List.drop_length] at hgo
    exact .inl ⟨wk.stop _ _ _ _ le2 r2 hgo.1 (Nat.le_refl _), fin acc h2 μ₂ H2 va hgo.2 ex exD r2 eD rva (by omega)⟩
theorem show_D {μ₁ μ₂ : Mp} {h : Mh} {H H1 : Hp} {D : Addr} (r1 : Rel Y μ₁ h H1) (hD : H1 D = none) {h2 : Mh} (r2 : Rel Y μ₂ h2 H) (exD : μ₂.ex = D :: μ₁.ex) (es : μ₂.src = μ₁.src) : (μ₂.show μ₁.ex).h D = false := by
  have hm : μ₂.m D = false := (r2.ex D (by rw [exD]; simp)).2
  cases q : (μ₂.show μ₁.ex).h D with
  | false => rfl
  | true =>
    exfalso
    unfold Mp.h at q
    rcases Bool.or_eq_true_iff.mp q with q | q
    · have q : μ₂.m D = true := q
      rw [q] at hm; cases hm
    · rcases Mp.k_cases q with q | ⟨p, e⟩
      · exact (r1.ex D q).1 hD
      · have e : μ₂.src = some (p, D) := e
        exact (SrcOk.ne (r1.src p D (es ▸ e)).1).2 hD
theorem se_lc (hts : ∀ j ∈ ts, j ∈ vs) (si : SI Y W wi mi) (sg : SG Y ts g mg) (st : ST Y W0 tt mt) (se : SE Y W0 te me) : SE Y W (tLc wi g tt te vs) (eLc mi mg mt me vs) := fun μ env h σ H Q q x z hm kq kx =>
  si μ env h σ H _ _ x z hm (fun xs al h1 ⟨hl, k⟩ μ₁ J H1 e1 r1 wk D hD => lc_go hts sg st se (z.go e1 r1) wk hl k D hD fun acc h2 μ₂ H2 va kf ex exD r2 eD rva _ => by
    obtain ⟨rs, les⟩ := r2.unhide exD
    exact ((kq _ _ kf).after e1) _ _ _ ex rs (.lst (hid_of (show_D r1 hD r2 exD ex.src) eD) (rva.mono les))) kx
theorem se_lcC (hts : ∀ j ∈ ts, j ∈ vs) (si : SI Y W wi mi) (sg : SG Y ts g mg) (st : ST Y W0 tt mt) (se : SE Y W0 te me) : SE Y W (tLc wi g tt te vs) (eLcC mi mg mt me vs) := fun μ env h σ H Q q x z hm kq kx =>
  si μ env h σ H _ _ x z hm (fun xs al h1 ⟨hl, k⟩ μ₁ J H1 e1 r1 wk D hD => lc_go hts sg st se (z.go e1 r1) wk hl k D hD fun acc h2 μ₂ H2 va kf ex exD r2 eD rva _ => by
    obtain ⟨rs, les⟩ := r2.unhide exD
    have hDs := show_D r1 hD r2 exD ex.src
    have hDm : (μ₂.show μ₁.ex).m D = false := Mp.m_h hDs
    have le : Le μ₂ ((μ₂.show μ₁.ex).add D) (vis μ₂ H2) (vis ((μ₂.show μ₁.ex).add D) H2) := by
      refine ⟨fun n a e => ?_, fun _ e => e, hid_mono fun b u nb e => ⟨?_, e⟩⟩
      · have e : μ₂.cells[n]? = some a := e
        show (μ₂.cells ++ [D])[n]? = some a
        rw [List.getElem?_append_left (List.getElem?_eq_some_iff.mp e).1]; exact e
      · cases q : ((μ₂.show μ₁.ex).add D).h b with
        | false => rfl
        | true =>
          exfalso
          unfold Mp.h at q nb
          obtain ⟨nb1, nb2⟩ := Bool.or_eq_false_iff.mp nb
          rcases Bool.or_eq_true_iff.mp q with q | q
          · rcases Mp.add_m q with q | q
            · have q : μ₂.m b = true := q
              rw [q] at nb1; cases nb1
            · subst q
              unfold Mp.k at nb2
              rw [exD] at nb2
              simp at nb2
          · have q : (μ₂.show μ₁.ex).k b = true := q
            rcases Mp.k_cases q with q | ⟨p, e⟩
            · have : μ₂.k b = true := by
                unfold Mp.k
                have : b ∈ μ₂.ex := by rw [exD]; exact List.mem_cons_of_mem _ q
                rw [decide_eq_true this]; rfl
              rw [this] at nb2; cases nb2
            · have := (Mp.m_src (μ := μ₂) e).2
              rw [this] at nb2; cases nb2
    have ra : Rel Y ((μ₂.show μ₁.ex).add D) (h2 ++ [.lst acc]) H2 := by
      refine ⟨by simp [Mp.add, Mp.show, r2.len], ?_, fun i a c ei e2 => ?_, fun p l e => ?_, fun a qa => ?_, r2.tbm, r2.tb.mono le.same fun _ _ _ => rfl⟩
      · show (μ₂.cells ++ [D]).Nodup
        rw [List.nodup_append]
        refine ⟨r2.nd, by simp, fun a ha b hb e => ?_⟩
        have hb := List.mem_singleton.mp hb
        subst e; subst hb
        obtain ⟨j, hj⟩ := List.getElem?_of_mem ha
        rw [Mp.m_cell (μ := μ₂.show μ₁.ex) hj] at hDm; cases hDm
      · have ei : (μ₂.cells ++ [D])[i]? = some a := ei
        by_cases hi : i < μ₂.cells.length
        · rw [List.getElem?_append_left hi] at ei
          rw [List.getElem?_append_left (by rw [← r2.len]; exact hi)] at e2
          exact (r2.at_ i a c ei e2).mono le rfl
        · have hl : i < (μ₂.cells ++ [D]).length := (List.getElem?_eq_some_iff.mp ei).1
          have hi' : i = μ₂.cells.length := by simp at hl; omega
          subst hi'
          rw [List.getElem?_append_right (Nat.le_refl _)] at ei
          rw [r2.len, List.getElem?_append_right (Nat.le_refl _)] at e2
          simp at ei e2
          subst ei e2
          exact .lst eD (rva.mono le)
      · obtain ⟨so, n1, n2⟩ := r2.src p l e
        refine ⟨so, fun z => ?_, fun z => ?_⟩
        · rcases List.mem_append.mp z with z | z
          · exact n1 z
          · have := List.mem_singleton.mp z
            subst this
            rw [(Mp.m_src (μ := μ₂.show μ₁.ex) e).1] at hDm; cases hDm
        · rcases List.mem_append.mp z with z | z
          · exact n2 z
          · have := List.mem_singleton.mp z
            subst this
            have e : μ₂.src = some (p, l) := e
            exact (SrcOk.ne (r1.src p l (ex.src ▸ e)).1).2 hD
      · have qa : a ∈ μ₁.ex := qa
        obtain ⟨q1, q2⟩ := r2.ex a (by rw [exD]; exact List.mem_cons_of_mem _ qa)
        refine ⟨q1, ?_⟩
        cases q : ((μ₂.show μ₁.ex).add D).m a with
        | false => rfl
        | true =>
          rcases Mp.add_m q with q | q
          · have q : μ₂.m a = true := q
            rw [q] at q2; cases q2
          · subst q; exact absurd hD (r1.ex _ qa).1
    have exa : Ext μ₁ ((μ₂.show μ₁.ex).add D) H1 H2 := ⟨fun n a e => le.cells n a (ex.cells n a e), ex.src, rfl, fun a q => by
      rcases Mp.add_m q with q | q
      · exact ex.freshm a q
      · subst q; exact .inr hD, ex.keep, ex.there, ex.tb⟩
    exact ((kq _ _ kf).after e1) _ _ _ exa ra (.ref (by rw [← r2.len]; exact add_at (μ := μ₂.show μ₁.ex)))) kx
/-! the rules -/
variable {tg iter elt : Expr} {pos : Pos} {ifs : List Expr}
structure DTs (X : Cx) (Y : Ky) (ifs : List Expr) (m : MT) : Prop where
  go : PTs X ifs (ttOf Y W0 m)
theorem dts_nil : DTs X Y [] tYesM := ⟨⟨fun pins s σ H Q I ⟨μ, env, h, q, x, z, hm, kq, kx⟩ => pts_nil.run pins s σ H Q I (kq _ _ hm μ H .refl z.r)⟩⟩
theorem dts_one {c : Expr} (h : DT X Y W0 c mt) : DTs X Y [c] mt := by
  obtain ⟨t, a1, a2⟩ := h
  exact ⟨⟨fun pins s σ H Q I ⟨μ, env, h, q, x, z, hm, kq, kx⟩ => (pts_one a1).run pins s σ H Q I (a2 μ env h σ H Q q x z hm kq kx)⟩⟩
theorem de_lc {scope : Scope} {own : List (Str × Nat)} (hc : X.calm = true) (hN : X.N.Nodup) (hi : DI X Y W tg iter mi) (ok : BlkOk X.N X.env.scope scope own)
    (hg : ∀ (s : Shared) (H : Hp) (C : Addr) (cl : List (Str × Addr)) (fp : List Addr), DG (X.blk s H scope (compEnvC scope cl C X.env) fp) Y ts tg mg) (ht : ∀ (s : Shared) (H : Hp) (C : Addr) (cl : List (Str × Addr)) (fp : List Addr), DTs (X.blk s H scope (compEnvC scope cl C X.env) fp) Y ifs mt)
    (he : ∀ (s : Shared) (H : Hp) (C : Addr) (cl : List (Str × Addr)) (fp : List Addr), DE (X.blk s H scope (compEnvC scope cl C X.env) fp) Y W0 elt me) (hts : ∀ j ∈ ts, j ∈ own.map (·.2)) (hs : ∀ x, foldedSetIterable iter X.env x = pure x := by intro _; rfl) :
    DE X Y W (.ListComp elt [⟨tg, iter, ifs, 0⟩] scope pos) (eLc mi mg mt me (own.map (·.2))) := by
  obtain ⟨wi, i1, i2⟩ := hi
  exact ⟨_, pe_lc hc hN i1 ok (fun s H C cl fp => (hg s H C cl fp).pg) (fun s H C cl fp => (ht s H C cl fp).go) (fun s H C cl fp => (he s H C cl fp).pe) hs, se_lc hts i2 sg_of st_of se_of⟩
theorem de_lcC {scope : Scope} {own : List (Str × Nat)} (hc : X.calm = true) (hN : X.N.Nodup) (hi : DI X Y W tg iter mi) (ok : BlkOk X.N X.env.scope scope own)
    (hg : ∀ (s : Shared) (H : Hp) (C : Addr) (cl : List (Str × Addr)) (fp : List Addr), DG (X.blk s H scope (compEnvC scope cl C X.env) fp) Y ts tg mg) (ht : ∀ (s : Shared) (H : Hp) (C : Addr) (cl : List (Str × Addr)) (fp : List Addr), DTs (X.blk s H scope (compEnvC scope cl C X.env) fp) Y ifs mt)
    (he : ∀ (s : Shared) (H : Hp) (C : Addr) (cl : List (Str × Addr)) (fp : List Addr), DE (X.blk s H scope (compEnvC scope cl C X.env) fp) Y W0 elt me) (hts : ∀ j ∈ ts, j ∈ own.map (·.2)) (hs : ∀ x, foldedSetIterable iter X.env x = pure x := by intro _; rfl) :
    DE X Y W (.ListComp elt [⟨tg, iter, ifs, 0⟩] scope pos) (eLcC mi mg mt me (own.map (·.2))) := by
  obtain ⟨wi, i1, i2⟩ := hi
  exact ⟨_, pe_lc hc hN i1 ok (fun s H C cl fp => (hg s H C cl fp).pg) (fun s H C cl fp => (ht s H C cl fp).go) (fun s H C cl fp => (he s H C cl fp).pe) hs, se_lcC hts i2 sg_of st_of se_of⟩
end
end Sx

end
section
set_option Elab.async false
set_option linter.all false
set_option maxRecDepth 100000
set_option maxHeartbeats 2000000
/-! SX7: statements -/
namespace Sx
open PySem L2 Cl RZ ZN
def sNext : MS := fun env h d => d.nx env h
def sSeq (s t : MS) : MS := fun env h d => s env h { d with nx := fun env' h' => t env' h' d }
def sAsg (m : ME) (g : MG) : MS := fun env h d => m env h (fun v h1 => g v env h1 d.nx) (fun e h' => d.xc e env h')
def sIf (c : MT) (s t : MS) : MS := fun env h d => c env h (fun b h1 => if b = true then s env h1 d else t env h1 d) (fun e h' => d.xc e env h')
def sRet (m : ME) : MS := fun env h d => m env h d.rt (fun e h' => d.xc e env h')
def sRetN : MS := fun _ h d => d.rt .non h
def sDrop (m : ME) : MS := fun env h d => m env h (fun _ h1 => d.nx env h1) (fun e h' => d.xc e env h')
def sBrk : MS := fun env h d => d.bk env h
def sCont : MS := fun env h d => d.ct env h
/-- i, j = a, b -/
def sPar (i j : Nat) (a : MA) : MS := fun env h d => a env h (fun vs h1 => match vs with
  | [u, v] => d.nx ((env.set i (some u)).set j (some v)) h1
  | _ => False) (fun e h' => d.xc e env h')
def sPar3 (i j l : Nat) (a : MA) : MS := fun env h d => a env h (fun vs h1 => match vs with
  | [u, v, w] => d.nx (((env.set i (some u)).set j (some v)).set l (some w)) h1
  | _ => False) (fun e h' => d.xc e env h')
def forGo (al : Mh → Prop) (g : MG) (b : MS) : List Val → Me → Mh → MD → Prop
  | [], env, h, d => al h ∧ d.nx env h
  | x :: xs, env, h, d => al h ∧ g x env h fun env2 h2 => b env2 h2 { d with nx := fun env3 h3 => forGo al g b xs env3 h3 d, ct := fun env3 h3 => forGo al g b xs env3 h3 d, bk := d.nx }
def sFor (i : MI) (g : MG) (b : MS) : MS := fun env h d => i env h (fun xs al h1 => forGo al g b xs env h1 d) (fun e h' => d.xc e env h')
def sWhile (c : MT) (b : MS) : MS := fun env h d => ∃ In : Nat → Me → Mh → Prop, (∃ n, In n env h) ∧ ∀ n env h, In n env h → c env h (fun k h1 => if k = true then b env h1 { d with nx := fun env' h' => ∃ n', n' < n ∧ In n' env' h', ct := fun env' h' => ∃ n', n' < n ∧ In n' env' h', bk := d.nx } else d.nx env h1) (fun e h' => d.xc e env h')
section
variable {X : Cx} {Y : Ky} {W : WX} {te : TE} {ta : TA} {tt : TT} {t u : TS} {m : ME} {a : MA} {mt : MT} {s1 s2 : MS} {g : TG} {mg : MG} {ts : List Nat} {wi : TI} {mi : MI}
theorem ss_next : SS Y W tNext sNext := fun μ env h σ H D d z hm sd => sd.nx _ _ hm μ σ H .refl z
theorem ss_seq (a : SS Y W t s1) (b : SS Y W u s2) : SS Y W (tSeq t u) (sSeq s1 s2) := fun μ env h σ H D d z hm sd =>
  a μ env h σ H _ _ z hm ⟨fun env' h' k μ' σ' H' e z' => b μ' env' h' σ' H' D d z' k (sd.after e), sd.rt, sd.bk, sd.ct, sd.xc⟩
theorem ss_asg (a : SE Y W te m) (b : SG Y ts g mg) : SS Y W (tAsg te g) (sAsg m mg) := fun μ env h σ H D d z hm sd =>
  a μ env h σ H _ _ _ z hm (fun v h1 k μ1 U H1 e1 r1 v1 => b μ1 env h1 σ H1 U v _ _ (z.go e1 r1) v1 k fun env2 h2 k2 μ2 σ2 H2 e2 z2 _ => sd.nx _ _ k2 μ2 σ2 H2 (e1.trans e2) z2) (sd.kx z)
theorem ss_if (c : ST Y W tt mt) (a : SS Y W t s1) (b : SS Y W u s2) : SS Y W (tIfS tt t u) (sIf mt s1 s2) := fun μ env h σ H D d z hm sd =>
  c μ env h σ H _ _ _ z hm (fun k h1 hk μ1 H1 e1 r1 => by
    cases k with
    | true => rw [if_pos rfl] at hk ⊢; exact a μ1 env h1 σ H1 D d (z.go e1 r1) hk (sd.after e1)
    | false => rw [if_neg Bool.false_ne_true] at hk ⊢; exact b μ1 env h1 σ H1 D d (z.go e1 r1) hk (sd.after e1)) (sd.kx z)
theorem ss_ret (a : SE Y W te m) : SS Y W (tRet te) (sRet m) := fun μ env h σ H D d z hm sd => a μ env h σ H _ _ _ z hm sd.rt (sd.kx z)
theorem ss_retN : SS Y W tRetN sRetN := fun μ env h σ H D d z hm sd => (sd.rt _ _ hm).here z.r .non
theorem ss_drop (a : SE Y W te m) : SS Y W (tDrop te) (sDrop m) := fun μ env h σ H D d z hm sd =>
  a μ env h σ H _ _ _ z hm (fun v h1 k μ1 U H1 e1 r1 v1 => sd.nx _ _ k μ1 σ H1 e1 (z.go e1 r1)) (sd.kx z)
theorem ss_brk : SS Y W tBreak sBrk := fun μ env h σ H D d z hm sd => sd.bk _ _ hm μ σ H .refl z
theorem ss_cont : SS Y W tCont sCont := fun μ env h σ H D d z hm sd => sd.ct _ _ hm μ σ H .refl z
theorem ss_par {i j : Nat} (b : SA Y W ta a) : SS Y W (tPar i j ta) (sPar i j a) := fun μ env h σ H D d z hm sd =>
  b μ env h σ H _ _ _ z hm (fun vs h1 k μ1 Us H1 e1 r1 v1 => by
    match vs, k with
    | [u, v], k =>
      obtain ⟨U, U', rfl, va, vb⟩ := vrs2 v1
      exact ⟨_, _, rfl, sd.nx _ _ k μ1 _ H1 e1 ⟨r1, ((z.go e1 r1).s.set i va).set j vb⟩⟩) (sd.kx z)
theorem ss_par3 {i j l : Nat} (b : SA Y W ta a) : SS Y W (tPar3 i j l ta) (sPar3 i j l a) := fun μ env h σ H D d z hm sd =>
  b μ env h σ H _ _ _ z hm (fun vs h1 k μ1 Us H1 e1 r1 v1 => by
    match vs, k with
    | [u, v, w], k =>
      cases v1 with
      | cons v1 t1 =>
        obtain ⟨U, U', rfl, va, vb⟩ := vrs2 t1
        exact ⟨_, _, _, rfl, sd.nx _ _ k μ1 _ H1 e1 ⟨r1, (((z.go e1 r1).s.set i v1).set j va).set l vb⟩⟩) (sd.kx z)
theorem ss_for (i : SI Y W wi mi) (gs : SG Y ts g mg) (b : SS Y W t s1) : SS Y W (tFor wi g t) (sFor mi mg s1) := fun μ env h σ H D d z hm sd =>
  i μ env h σ H _ _ _ z hm (fun xs al h1 k μ1 J H1 e1 r1 wk => by
    refine ⟨fun i m σ2 H2 => m = xs.length - i ∧ i ≤ xs.length ∧ ∃ μ2 env2 h2, Ext μ1 μ2 H1 H2 ∧ Ok Y μ2 h2 H2 σ2 env2 ∧ forGo al mg s1 (xs.drop i) env2 h2 d, ⟨xs.length, by simp, Nat.zero_le _, μ1, env, h1, .refl, z.go e1 r1, by simpa using k⟩, ?_⟩
    rintro i m σ2 H2 ⟨rfl, hi, μ2, env2, h2, e2, z2, hgo⟩
    by_cases hlt : i < xs.length
    · rw [List.drop_eq_getElem_cons hlt] at hgo
      obtain ⟨hal, hg⟩ := hgo
      refine .inr ⟨wk.go _ _ _ i e2.le z2.r hal hlt, fun σ3 H3 => ∃ μ3 env3 h3, Ext μ1 μ3 H1 H3 ∧ Ok Y μ3 h3 H3 σ3 env3 ∧ forGo al mg s1 (xs.drop (i + 1)) env3 h3 d, ?_, ?_⟩
      · rintro σ3 H3 q
        exact ⟨xs.length - (i + 1), by omega, rfl, by omega, q⟩
      · intro v H3 y
        obtain ⟨x, ex3, sm, rvx⟩ := wk.yld _ _ _ i v H3 e2.le z2.r hal y hlt
        rw [List.getElem?_eq_getElem hlt] at ex3
        cases ex3
        have e3 : Ext μ2 μ2 H2 H3 := .same sm
        refine gs μ2 env2 h2 σ2 H3 v xs[i] _ _ (z2.go e3 (z2.r.same sm)) rvx hg fun env4 h4 k4 μ4 σ4 H4 e4 z4 _ => ?_
        have e14 := (e2.trans e3).trans e4
        refine b μ4 env4 h4 σ4 H4 _ _ z4 k4 ⟨fun env' h' k μ' σ' H' e z' => ⟨μ', env', h', e14.trans e, z', k⟩, fun v h' k => (sd.rt v h' k).after (e1.trans e14), fun env' h' k μ' σ' H' e z' => sd.nx _ _ k μ' σ' H' ((e1.trans e14).trans e) z',
          fun env' h' k μ' σ' H' e z' => ⟨μ', env', h', e14.trans e, z', k⟩, (sd.after (e1.trans e14)).xc⟩
    · have e : i = xs.length := by omega
      subst e
      rw [List.drop_length] at hgo
      exact .inl ⟨wk.stop _ _ _ _ e2.le z2.r hgo.1 (Nat.le_refl _), sd.nx _ _ hgo.2 μ2 σ2 H2 (e1.trans e2) z2⟩) (sd.kx z)
theorem ss_while (c : ST Y W tt mt) (b : SS Y W t s1) : SS Y W (tWhile tt t) (sWhile mt s1) := fun μ env h σ H D d z ⟨In, ⟨n0, i0⟩, turn⟩ sd => by
  refine ⟨fun m σ1 H1 => ∃ μ1 env1 h1, Ext μ μ1 H H1 ∧ Ok Y μ1 h1 H1 σ1 env1 ∧ In m env1 h1, ⟨n0, μ, env, h, .refl, z, i0⟩, ?_⟩
  rintro m σ1 H1 ⟨μ1, env1, h1, e1, z1, i1⟩
  refine c μ1 env1 h1 σ1 H1 _ _ _ z1 (turn m env1 h1 i1) (fun k h2 hk μ2 H2 e2 r2 => ?_) ((sd.after e1).kx z1)
  cases k with
  | true =>
    rw [if_pos rfl] at hk ⊢
    refine ⟨fun σ3 H3 => ∃ n', n' < m ∧ ∃ μ3 env3 h3, Ext μ μ3 H H3 ∧ Ok Y μ3 h3 H3 σ3 env3 ∧ In n' env3 h3, fun σ' H' q => q, ?_⟩
    have e12 := e1.trans e2
    exact b μ2 env1 h2 σ1 H2 _ _ (z1.go e2 r2) hk ⟨fun env' h' ⟨n', hn, k⟩ μ' σ' H' e z' => ⟨n', hn, μ', env', h', e12.trans e, z', k⟩, (sd.after e12).rt, fun env' h' k μ' σ' H' e z' => sd.nx _ _ k μ' σ' H' (e12.trans e) z', fun env' h' ⟨n', hn, k⟩ μ' σ' H' e z' => ⟨n', hn, μ', env', h', e12.trans e, z', k⟩, (sd.after e12).xc⟩
  | false =>
    rw [if_neg Bool.false_ne_true] at hk ⊢
    exact sd.nx _ _ hk μ2 σ1 H2 (e1.trans e2) (z1.go e2 r2)
variable {st : Stmt} {rest : List Stmt} {e c tg iter : Expr} {pos pos' : Pos} {b1 b2 : List Stmt} {x y : Str}
theorem dss_nil : DSs X Y W [] sNext := ⟨_, pss_nil, ss_next⟩
theorem dss_one (h : DS X Y W st s1) : DSs X Y W [st] s1 := by obtain ⟨t, a1, a2⟩ := h; exact ⟨_, pss_one a1, a2⟩
theorem dss_cons (h : DS X Y W st s1) (h' : DSs X Y W rest s2) : DSs X Y W (st :: rest) (sSeq s1 s2) := by obtain ⟨t, a1, a2⟩ := h; obtain ⟨u, b1, b2⟩ := h'; exact ⟨_, pss_cons a1 b1, ss_seq a2 b2⟩
theorem ds_pass : DS X Y W (.Pass pos) sNext := ⟨_, ps_pass, ss_next⟩
theorem ds_brk : DS X Y W (.Break pos) sBrk := ⟨_, ps_break, ss_brk⟩
theorem ds_cont : DS X Y W (.Continue pos) sCont := ⟨_, ps_continue, ss_cont⟩
theorem ds_doc {x j pos pos'} : DS X Y W (.Expr (.Constant (.str x) j pos) pos') sNext := ⟨_, ps_doc, ss_next⟩
theorem ds_expr (h : DE X Y W e m) (hs : swapsWith e none pos.line X.env = pure false := by rfl) : DS X Y W (.Expr e pos) (sDrop m) := by obtain ⟨t, a1, a2⟩ := h; exact ⟨_, ps_expr a1 hs, ss_drop a2⟩
theorem ds_ret (h : DE X Y W e m) : DS X Y W (.Return (some e) pos) (sRet m) := by obtain ⟨t, a1, a2⟩ := h; exact ⟨_, ps_ret a1, ss_ret a2⟩
theorem ds_retN : DS X Y W (.Return none pos) sRetN := ⟨_, ps_retN, ss_retN⟩
theorem ds_if (hc : DT X Y W c mt) (h1 : DSs X Y W b1 s1) (h2 : DSs X Y W b2 s2) : DS X Y W (.If c b1 b2 pos) (sIf mt s1 s2) := by
  obtain ⟨t, a1, a2⟩ := hc; obtain ⟨u, c1, c2⟩ := h1; obtain ⟨v, d1, d2⟩ := h2
  exact ⟨_, ps_if a1 c1 d1, ss_if a2 c2 d2⟩
theorem ds_set {i : Nat} (hN : X.N.Nodup) (hi : X.N[i]? = some x) (hx : Loc X.env.scope x) (h : DE X Y W e m) (hs : swapsWith e (some (.Name x pos')) pos.line X.env = pure false := by rfl) (hf : X.fn x = true ∨ X.env.scope.names.lookup x = some .local := by first | exact .inl rfl | exact .inr rfl | assumption) :
    DS X Y W (.Assign [.Name x pos'] e pos) (sAsg m (mName i)) := by
  obtain ⟨t, a1, a2⟩ := h; exact ⟨_, ps_set hN hi hx a1 hs hf, ss_asg a2 sg_name⟩
theorem ds_asg (h : DE X Y W e m) (hg : DG X Y ts tg mg) (hs : swapsWithSole [tg] e pos.line X.env = pure false := by rfl) (hw : swappedStores [tg] e X.env = pure none := by rfl)
    (h1 : (assignEach [tg] X.env).map (·.2) = [assign tg X.env] := by rfl) : DS X Y W (.Assign [tg] e pos) (sAsg m mg) := by
  obtain ⟨t, a1, a2⟩ := h; obtain ⟨g, b1, b2⟩ := hg; exact ⟨_, ps_asg a1 b1 hs hw h1, ss_asg a2 b2⟩
theorem ds_par {i j : Nat} {a' b' : Expr} {px py pt : Pos} {kt k2 pt2} (hc : X.calm = true) (hN : X.N.Nodup) (hi : X.N[i]? = some x) (hj : X.N[j]? = some y) (hij : i ≠ j)
    (hx : X.env.scope.names.lookup x = some .local) (hy : X.env.scope.names.lookup y = some .local) (ha : DA X Y W [a', b'] a)
    (hw : swappedStores [.Tuple [.Name x px, .Name y py] kt pt] (.Tuple [a', b'] k2 pt2) X.env = pure (some [x, y]))
    (hs : swapsWithSole [.Tuple [.Name x px, .Name y py] kt pt] (.Tuple [a', b'] k2 pt2) pos.line X.env = pure false := by rfl) :
    DS X Y W (.Assign [.Tuple [.Name x px, .Name y py] kt pt] (.Tuple [a', b'] k2 pt2) pos) (sPar i j a) := by
  obtain ⟨t, a1, a2⟩ := ha; exact ⟨_, ps_par hc hN hi hj hij hx hy a1 hw hs, ss_par a2⟩
theorem ds_par3 {i j l : Nat} {x y z : Str} {a' b' c' : Expr} {px py pz pt : Pos} {kt k2 pt2} (hc : X.calm = true) (hN : X.N.Nodup) (hi : X.N[i]? = some x) (hj : X.N[j]? = some y) (hl : X.N[l]? = some z) (hij : i ≠ j) (hil : i ≠ l) (hjl : j ≠ l)
    (hx : X.env.scope.names.lookup x = some .local) (hy : X.env.scope.names.lookup y = some .local) (hz : X.env.scope.names.lookup z = some .local) (ha : DA X Y W [a', b', c'] a)
    (hw : swappedStores [.Tuple [.Name x px, .Name y py, .Name z pz] kt pt] (.Tuple [a', b', c'] k2 pt2) X.env = pure (some [x, y, z]))
    (hs : swapsWithSole [.Tuple [.Name x px, .Name y py, .Name z pz] kt pt] (.Tuple [a', b', c'] k2 pt2) pos.line X.env = pure false := by rfl) :
    DS X Y W (.Assign [.Tuple [.Name x px, .Name y py, .Name z pz] kt pt] (.Tuple [a', b', c'] k2 pt2) pos) (sPar3 i j l a) := by
  obtain ⟨t, a1, a2⟩ := ha; exact ⟨_, ps_par3 hc hN hi hj hl hij hil hjl hx hy hz a1 hw hs, ss_par3 a2⟩
theorem ds_for (hp : PassesOwn (model X.prog X.w) X.A X.env X.xe) (hc : X.calm = true) (hi : DI X Y W tg iter mi) (hg : DG X Y ts tg mg) (hb : DSs X Y W b1 s1)
    (hs : ∀ x, foldedSetIterable iter X.env x = pure x := by intro _; rfl) : DS X Y W (.For tg iter b1 [] pos) (sFor mi mg s1) := by
  obtain ⟨t, a1, a2⟩ := hi; obtain ⟨u, c1, c2⟩ := hg; obtain ⟨v, d1, d2⟩ := hb
  exact ⟨_, ps_for hp hc a1 c1 d1 hs, ss_for a2 c2 d2⟩
theorem ds_while (hp : PassesOwn (model X.prog X.w) X.A X.env X.xe) (hc : DT X Y W c mt) (hb : DSs X Y W b1 s1) : DS X Y W (.While c b1 [] pos) (sWhile mt s1) := by
  obtain ⟨t, a1, a2⟩ := hc; obtain ⟨v, d1, d2⟩ := hb
  exact ⟨_, ps_while hp a1 d1, ss_while a2 d2⟩
end
section
variable {X : Cx} {Y : Ky} {W : WX} {wi : TI} {mi : MI} {mg : MG} {mt : MT} {me : ME} {ts : List Nat} {tg iter elt : Expr} {pos spos py : Pos} {ifs : List Expr} {y : Str} {i : Nat}
theorem ds_setLc {scope : Scope} {own : List (Str × Nat)} (hc : X.calm = true) (hN : X.N.Nodup) (hy : X.N[i]? = some y) (hyl : X.env.scope.names.lookup y = some .local)
    (hsw : swapsWith (.ListComp elt [⟨tg, iter, ifs, 0⟩] scope pos) (some (.Name y py)) spos.line X.env = pure true) (hi : DI X Y W tg iter mi) (ok : BlkOk X.N X.env.scope scope own)
    (hg : ∀ (s : Shared) (H : Hp) (C : Addr) (cl : List (Str × Addr)) (fp : List Addr), DG (X.blk s H scope (compEnvC scope cl C X.env) fp) Y ts tg mg) (ht : ∀ (s : Shared) (H : Hp) (C : Addr) (cl : List (Str × Addr)) (fp : List Addr), DTs (X.blk s H scope (compEnvC scope cl C X.env) fp) Y ifs mt)
    (he : ∀ (s : Shared) (H : Hp) (C : Addr) (cl : List (Str × Addr)) (fp : List Addr), DE (X.blk s H scope (compEnvC scope cl C X.env) fp) Y W0 elt me) (hts : ∀ j ∈ ts, j ∈ own.map (·.2)) (hs : ∀ x, foldedSetIterable iter X.env x = pure x := by intro _; rfl) :
    DS X Y W (.Assign [.Name y py] (.ListComp elt [⟨tg, iter, ifs, 0⟩] scope pos) spos) (sAsg (eLc mi mg mt me (own.map (·.2))) (mName i)) := by
  obtain ⟨wi, i1, i2⟩ := hi
  exact ⟨_, ps_setLc hc hN hy hyl hsw i1 ok (fun s H C cl fp => (hg s H C cl fp).pg) (fun s H C cl fp => (ht s H C cl fp).go) (fun s H C cl fp => (he s H C cl fp).pe) hs, ss_asg (se_lc hts i2 sg_of st_of se_of) sg_name⟩
theorem ds_setLcC {scope : Scope} {own : List (Str × Nat)} (hc : X.calm = true) (hN : X.N.Nodup) (hy : X.N[i]? = some y) (hyl : X.env.scope.names.lookup y = some .local)
    (hsw : swapsWith (.ListComp elt [⟨tg, iter, ifs, 0⟩] scope pos) (some (.Name y py)) spos.line X.env = pure true) (hi : DI X Y W tg iter mi) (ok : BlkOk X.N X.env.scope scope own)
    (hg : ∀ (s : Shared) (H : Hp) (C : Addr) (cl : List (Str × Addr)) (fp : List Addr), DG (X.blk s H scope (compEnvC scope cl C X.env) fp) Y ts tg mg) (ht : ∀ (s : Shared) (H : Hp) (C : Addr) (cl : List (Str × Addr)) (fp : List Addr), DTs (X.blk s H scope (compEnvC scope cl C X.env) fp) Y ifs mt)
    (he : ∀ (s : Shared) (H : Hp) (C : Addr) (cl : List (Str × Addr)) (fp : List Addr), DE (X.blk s H scope (compEnvC scope cl C X.env) fp) Y W0 elt me) (hts : ∀ j ∈ ts, j ∈ own.map (·.2)) (hs : ∀ x, foldedSetIterable iter X.env x = pure x := by intro _; rfl) :
    DS X Y W (.Assign [.Name y py] (.ListComp elt [⟨tg, iter, ifs, 0⟩] scope pos) spos) (sAsg (eLcC mi mg mt me (own.map (·.2))) (mName i)) := by
  obtain ⟨wi, i1, i2⟩ := hi
  exact ⟨_, ps_setLc hc hN hy hyl hsw i1 ok (fun s H C cl fp => (hg s H C cl fp).pg) (fun s H C cl fp => (ht s H C cl fp).go) (fun s H C cl fp => (he s H C cl fp).pe) hs, ss_asg (se_lcC hts i2 sg_of st_of se_of) sg_name⟩
end
end Sx

end
section
set_option Elab.async false
set_option linter.all false
set_option maxRecDepth 100000
set_option maxHeartbeats 2000000
/-! SX8: cells that change, fields, defs and their calls -/
namespace Sx
open PySem L2 Cl RZ ZN
/-! ### a cell changes -/
section
variable {Y : Ky} {μ : Mp} {h : Mh} {H : Hp} {a : Addr} {n : Nat} {o : HO} {c : Cell}
theorem Ext.put (ha : μ.cells[n]? = some a) : Ext μ μ H (upd H a o) := by
  refine ⟨fun _ _ e => e, rfl, rfl, fun _ q => .inl q, fun b u nb e => ?_, fun b q => ?_, rfl⟩
  · rw [upd_ne fun eq => by subst eq; rw [Mp.m_cell ha] at nb; cases nb]; exact e
  · by_cases eb : b = a
    · subst eb; rw [upd_same]; exact fun z => nomatch z
    · rw [upd_ne eb]; exact q
theorem Rel.put (r : Rel Y μ h H) (ha : μ.cells[n]? = some a) (hc : vis μ (upd H a o) = vis μ H → CRl Y μ (upd H a o) a c) : Rel Y μ (h.set n c) (upd H a o) := by
  have hm := Mp.m_cell ha
  have ev : vis μ (upd H a o) = vis μ H := vis_hidden (Mp.h_m hm)
  have le : Le μ μ (vis μ H) (vis μ (upd H a o)) := ⟨fun _ _ e => e, fun _ e => e, by rw [ev]; exact Same.refl _⟩
  have hn : n < h.length := by rw [← r.len]; exact (List.getElem?_eq_some_iff.mp ha).1
  refine ⟨by simp [r.len], r.nd, fun i b c' e1 e2 => ?_, fun p l e => ?_, fun b q => ?_, r.tbm, r.tb.mono le.same fun z hz _ => upd_ne fun eq => ?_⟩
  rotate_left 3
  · have c0 := r.at_ n a h[n] ha (List.getElem?_eq_getElem hn)
    obtain ⟨ps, h1, _⟩ := r.tb z hz
    rw [eq] at h1
    exact c0.ntbl ps h1
  · by_cases hi : n = i
    · subst hi
      rw [List.getElem?_set_self hn] at e2
      cases e2
      rw [ha] at e1; cases e1
      exact hc ev
    · rw [List.getElem?_set_ne hi] at e2
      refine (r.at_ i b c' e1 e2).mono le (upd_ne fun eq => hi ?_)
      subst eq
      have h1 := (List.getElem?_eq_some_iff.mp ha)
      have h2 := (List.getElem?_eq_some_iff.mp e1)
      exact (List.getElem_inj r.nd).mp (h1.2.trans h2.2.symm)
  · obtain ⟨⟨ns, k, r', x, e1, e2, z⟩, n1, n2⟩ := r.src p l e
    have hac := List.mem_of_getElem? ha
    refine ⟨⟨ns, k, r', x, ?_, ?_, z⟩, n1, n2⟩
    · rw [upd_ne (fun eq => n1 (by rw [eq]; exact hac) : p ≠ a)]; exact e1
    · rw [upd_ne (fun eq => n2 (by rw [eq]; exact hac) : l ≠ a)]; exact e2
  · obtain ⟨q1, q2⟩ := r.ex b q
    refine ⟨?_, q2⟩
    rw [upd_ne fun eq => by subst eq; rw [hm] at q2; cases q2]; exact q1
end
/-- o.append(e) -/
def eApp (mo me : ME) : ME := fun env h q x => mo env h (fun v h1 => match v with
  | .ref n => (∃ xs, h1[n]? = some (.lst xs)) ∧ me env h1 (fun y h2 => ∃ xs, h2[n]? = some (.lst xs) ∧ xs.length < 90000 ∧ q .non (h2.set n (.lst (xs ++ [y])))) x
  | _ => False) x
/-- o.extend(e) -/
def eExt (mo me : ME) : ME := fun env h q x => mo env h (fun v h1 => match v with
  | .ref n => (∃ xs, h1[n]? = some (.lst xs)) ∧ me env h1 (fun y h2 => ∃ xs ys, h2[n]? = some (.lst xs) ∧ lstOf h2 y = some ys ∧ xs.length + ys.length ≤ 90000 ∧ q .non (h2.set n (.lst (xs ++ ys)))) x
  | _ => False) x
/-- o[i] = v -/
def mSub (mo mi : ME) : MG := fun v env h q => mo env h (fun o h1 => mi env h1 (fun i h2 => match o, i with
  | .ref n, .int k => ∃ xs j, h2[n]? = some (.lst xs) ∧ ixN xs.length k = some j ∧ q env (h2.set n (.lst (xs.set j v)))
  | _, _ => False) F0) F0
section
variable {X : Cx} {Y : Ky} {W : WX} {to te ti : TE} {mo me mi : ME} {o e i : Expr} {pos apos : Pos} {μ : Mp} {h : Mh} {H : Hp} {n : Nat} {U : V} {xs : List Val}
theorem rd_cell (r : Rel Y μ h H) (rv : VR Y μ (vis μ H) U (.ref n)) (e : h[n]? = some (.lst xs)) : ∃ a vs, U = .ref a ∧ μ.cells[n]? = some a ∧ H a = some (.lst vs) ∧ VRs Y μ (vis μ H) vs xs := by
  cases rv with
  | ref q =>
    have := r.at_ _ _ _ q e
    cases this with
    | lst e1 t => exact ⟨_, _, rfl, q, e1, t⟩
theorem se_app (a : SE Y W to mo) (b : SE Y W te me) : SE Y W (tBM Y.K "list" rAppend to (tCons te tNil)) (eApp mo me) := fun μ env h σ H Q q x z hm kq kx =>
  a μ env h σ H _ _ x z hm (fun v h1 k μ1 U H1 e1 r1 v1 => by
    cases v with
    | ref n =>
      obtain ⟨⟨xs0, e0⟩, k⟩ := k
      obtain ⟨a0, vs0, rfl, c0, q0, _⟩ := rd_cell r1 v1 e0
      refine ⟨.inl ⟨rfl, vs0, SqL.of q0⟩, b μ1 env h1 σ H1 _ _ x (z.go e1 r1) k (fun y h2 k2 μ2 Uy H2 e2 r2 v2 => ?_) fun e h' k => (kx e h' k).after e1⟩
      obtain ⟨xs, ex, hl, k2⟩ := k2
      obtain ⟨a', vs, ea, c', q', t'⟩ := rd_cell r2 (v1.mono e2.le) ex
      cases ea
      refine ⟨a0, vs, Uy, rfl, rfl, q', by rw [t'.length]; exact Nat.lt_of_lt_of_le hl (by decide), ?_⟩
      exact kq _ _ k2 μ2 _ _ ((e1.trans e2).trans (.put c')) (r2.put c' fun ev => .lst upd_same (by rw [ev]; exact t'.append (.one v2))) .non
    | _ => exact k.elim) kx
theorem se_ext (a : SE Y W to mo) (b : SE Y W te me) : SE Y W (tBM Y.K "list" rExtend to (tCons te tNil)) (eExt mo me) := fun μ env h σ H Q q x z hm kq kx =>
  a μ env h σ H _ _ x z hm (fun v h1 k μ1 U H1 e1 r1 v1 => by
    cases v with
    | ref n =>
      obtain ⟨⟨xs0, e0⟩, k⟩ := k
      obtain ⟨a0, vs0, rfl, c0, q0, _⟩ := rd_cell r1 v1 e0
      refine ⟨.inl ⟨rfl, vs0, SqL.of q0⟩, b μ1 env h1 σ H1 _ _ x (z.go e1 r1) k (fun y h2 k2 μ2 Uy H2 e2 r2 v2 => ?_) fun e h' k => (kx e h' k).after e1⟩
      obtain ⟨xs, ys, ex, ey, hl, k2⟩ := k2
      obtain ⟨a', vs, ea, c', q', t'⟩ := rd_cell r2 (v1.mono e2.le) ex
      cases ea
      obtain ⟨b', ws, rfl, qb, tb⟩ := rd_lst r2 v2 ey
      refine ⟨a0, b', vs, ws, rfl, rfl, q', qb, by rw [t'.length, tb.length]; exact Nat.le_trans hl (by decide), ?_⟩
      exact kq _ _ k2 μ2 _ _ ((e1.trans e2).trans (.put c')) (r2.put c' fun ev => .lst upd_same (by rw [ev]; exact t'.append tb)) .non
    | _ => exact k.elim) kx
theorem de_app (hK : X.K = Y.K) (ho : DE X Y W o mo) (he : DE X Y W e me) (hbase : attributeBase o "append" X.env (eval o X.env) = eval o X.env := by rfl)
    (hfew : ((backTo pos (starEach [e] X.env)).all (fun x => !x.1) && (backToKw pos (keywordEach [] X.env)).all (fun x => x.1.isSome) && decide ([e].length + ([] : List Keyword).length + (if ([] : List Keyword).isEmpty then 0 else 1) < 30)) = true := by rfl)
    (hline : (apos.endLine == pos.line) = true := by rfl) (hs : starEach [e] X.env = (false, eval e X.env) :: starEach [] X.env := by rfl) (hplain : (backTo pos (starEach [] X.env)).any (·.1) = false := by rfl) :
    DE X Y W (.Call (.Attribute o "append" apos) [e] [] pos) (eApp mo me) := by
  obtain ⟨to, a1, a2⟩ := ho; obtain ⟨te, b1, b2⟩ := he
  exact ⟨_, hK ▸ pe_bm PySem.F.plainAttrs_list PySem.F.slot_list_append PySem.F.type_list_append mt_append a1 (pa_cons b1 pa_nil hs) hbase hfew hline hs hplain, se_app a2 b2⟩
theorem de_ext (hK : X.K = Y.K) (ho : DE X Y W o mo) (he : DE X Y W e me) (hbase : attributeBase o "extend" X.env (eval o X.env) = eval o X.env := by rfl)
    (hfew : ((backTo pos (starEach [e] X.env)).all (fun x => !x.1) && (backToKw pos (keywordEach [] X.env)).all (fun x => x.1.isSome) && decide ([e].length + ([] : List Keyword).length + (if ([] : List Keyword).isEmpty then 0 else 1) < 30)) = true := by rfl)
    (hline : (apos.endLine == pos.line) = true := by rfl) (hs : starEach [e] X.env = (false, eval e X.env) :: starEach [] X.env := by rfl) (hplain : (backTo pos (starEach [] X.env)).any (·.1) = false := by rfl) :
    DE X Y W (.Call (.Attribute o "extend" apos) [e] [] pos) (eExt mo me) := by
  obtain ⟨to, a1, a2⟩ := ho; obtain ⟨te, b1, b2⟩ := he
  exact ⟨_, hK ▸ pe_bm PySem.F.plainAttrs_list PySem.F.slot_list_extend PySem.F.type_list_extend mt_extend a1 (pa_cons b1 pa_nil hs) hbase hfew hline hs hplain, se_ext a2 b2⟩
theorem sg_sub (a : SE Y W to mo) (b : SE Y W ti mi) : SG Y [] (gSub to ti rSetL) (mSub mo mi) := fun μ env h σ H v x Q q z rv hm k =>
  a μ env h σ H _ _ F0 z hm (fun ov h1 k1 μ1 U H1 e1 r1 v1 => b μ1 env h1 σ H1 _ _ F0 (z.go e1 r1) k1 (fun iv h2 k2 μ2 Ui H2 e2 r2 v2 => by
    cases ov with
    | ref n =>
      cases iv with
      | int kk =>
        obtain ⟨xs, j, ex, hj, k2⟩ := k2
        obtain ⟨a', vs, rfl, c', q', t'⟩ := rd_cell r2 (v1.mono e2.le) ex
        cases v2
        have e12 := (e1.trans e2).trans (.put (o := .lst (vs.set j v)) c')
        refine ⟨a', vs, kk, j, rfl, rfl, q', by rw [t'.length]; exact hj, ?_⟩
        refine k _ _ k2 μ2 σ _ e12 (z.go e12 (r2.put c' fun ev => .lst upd_same ?_)) fun _ _ => rfl
        rw [ev]; exact t'.set (rv.mono (e1.trans e2).le) j
      | _ => exact k2.elim
    | _ => exact k2.elim) fun _ _ z => z.elim) fun _ _ z => z.elim
theorem dg_sub (ho : DE X Y W o mo) (hi : DE X Y W i mi)
    (ha : ∀ v, assign (.Subscript o i pos) X.env v = (do
      let ov ← holding [v] (eval o X.env)
      let iv ← holding [v, ov] (eval i X.env)
      standAt pos
      holding [v, ov, iv] (setItem ov iv v)
      release [v, ov, iv] []) := by intro _; rfl) : DG X Y [] (.Subscript o i pos) (mSub mo mi) := by
  obtain ⟨to, a1, a2⟩ := ho; obtain ⟨ti, b1, b2⟩ := hi
  exact ⟨_, pg_sub a1 b1 set_list ha, sg_sub a2 b2⟩
end
/-! ### fields -/
/-- the attributes of a thing: its class, its fields -/
def insOf (h : Mh) : Val → Option (Str × List (Str × Val))
  | .ref n => match h[n]? with
    | some (.ins c fs) => some (c, fs)
    | _ => none
  | .obj c ks xs => some (c, ks.zip xs)
  | _ => none
section
variable {Y : Ky} {μ : Mp} {h : Mh} {H : Hp} {U : V} {v : Val} {c : Str} {gs : List (Str × Val)}
theorem zip_fst : ∀ {ks : List Str} {xs : List Val}, ks.length = xs.length → (ks.zip xs).map (·.1) = ks ∧ (ks.zip xs).map (·.2) = xs
  | [], [], _ => ⟨rfl, rfl⟩
  | [], _ :: _, h => by simp at h
  | _ :: _, [], h => by simp at h
  | k :: ks, x :: xs, h => by
    obtain ⟨a, b⟩ := zip_fst (ks := ks) (xs := xs) (by simpa using h)
    simp only [List.zip_cons_cons, List.map_cons, a, b]; exact ⟨trivial, trivial⟩
theorem rd_ins (r : Rel Y μ h H) (rv : VR Y μ (vis μ H) U v) (e : insOf h v = some (c, gs)) :
    ∃ a C dx fs, U = .ref a ∧ Y.cm c = some C ∧ H a = some (.ins C dx fs) ∧ fs.map (·.1) = gs.map (·.1) ∧ VRs Y μ (vis μ H) (fs.map (·.2)) (gs.map (·.2)) := by
  cases rv with
  | @ref n a q =>
    unfold insOf at e
    cases hn : h[n]? with
    | none => simp only [hn] at e; cases e
    | some cc =>
      simp only [hn] at e
      have := r.at_ n a cc q hn
      cases this with
      | lst _ _ => cases e
      | dct _ _ _ => cases e
      | ins c1 e1 k1 t1 => cases e; exact ⟨_, _, _, _, rfl, c1, e1, k1, t1⟩
  | @obj a C dx c' fs xs c1 e1 t1 =>
    cases e
    have hl : (fs.map (·.1)).length = xs.length := by rw [List.length_map, ← t1.length, List.length_map]
    obtain ⟨z1, z2⟩ := zip_fst hl
    exact ⟨_, _, _, _, rfl, c1, hid_le _ _ e1, z1.symm, by rw [z2]; exact t1⟩
  | non => cases e
  | bl => cases e
  | int => cases e
  | str => cases e
  | ty => cases e
  | lst => cases e
  | tup => cases e
  | src => cases e
  | cls => cases e
theorem look_rel {G : Hp} {f : Str} {y : Val} : ∀ {fs : List (Str × V)} {gs : List (Str × Val)}, fs.map (·.1) = gs.map (·.1) → VRs Y μ G (fs.map (·.2)) (gs.map (·.2)) → gs.lookup f = some y → ∃ v, fs.lookup f = some v ∧ VR Y μ G v y
  | [], [], _, _, e => by cases e
  | [], _ :: _, k, _, _ => by cases k
  | _ :: _, [], k, _, _ => by cases k
  | (a, v) :: fs, (b, w) :: gs, k, t, e => by
    simp only [List.map_cons, List.cons.injEq] at k
    obtain ⟨k1, k2⟩ := k
    subst k1
    simp only [List.map_cons] at t
    cases t with
    | cons t1 t2 =>
      rw [List.lookup_cons] at e ⊢
      cases hq : (f == a) with
      | true => rw [hq] at e; cases e; exact ⟨v, rfl, t1⟩
      | false => rw [hq] at e; exact look_rel k2 t2 e
theorem look_none {f : Str} : ∀ {fs : List (Str × V)} {gs : List (Str × Val)}, fs.map (·.1) = gs.map (·.1) → gs.lookup f = none → fs.lookup f = none
  | [], _, _, _ => rfl
  | _ :: _, [], k, _ => by cases k
  | (a, v) :: fs, (b, w) :: gs, k, e => by
    simp only [List.map_cons, List.cons.injEq] at k
    obtain ⟨k1, k2⟩ := k
    subst k1
    rw [List.lookup_cons] at e ⊢
    cases hq : (f == a) with
    | true => rw [hq] at e; cases e
    | false => rw [hq] at e; exact look_none k2 e
def putM (f : Str) (v : Val) : List (Str × Val) → List (Str × Val)
  | [] => [(f, v)]
  | (g, x) :: r => if g = f then (g, v) :: r else (g, x) :: putM f v r
theorem put_rel {G : Hp} {f : Str} {v : V} {y : Val} (r : VR Y μ G v y) : ∀ {fs : List (Str × V)} {gs : List (Str × Val)}, fs.map (·.1) = gs.map (·.1) → VRs Y μ G (fs.map (·.2)) (gs.map (·.2)) →
    (putF f v fs).map (·.1) = (putM f y gs).map (·.1) ∧ VRs Y μ G ((putF f v fs).map (·.2)) ((putM f y gs).map (·.2))
  | [], [], _, _ => ⟨rfl, .one r⟩
  | [], _ :: _, k, _ => by cases k
  | _ :: _, [], k, _ => by cases k
  | (a, u) :: fs, (b, w) :: gs, k, t => by
    simp only [List.map_cons, List.cons.injEq] at k
    obtain ⟨k1, k2⟩ := k
    subst k1
    simp only [List.map_cons] at t
    cases t with
    | cons t1 t2 =>
      unfold putF putM
      by_cases hq : a = f
      · rw [if_pos hq, if_pos hq]
        exact ⟨by simp [k2], .cons r t2⟩
      · rw [if_neg hq, if_neg hq]
        obtain ⟨i1, i2⟩ := put_rel r k2 t2
        exact ⟨by simp [i1], .cons t1 i2⟩
end
/-- what must be known of a class to read and store the field f of its things -/
def FldOk (Y : Ky) (f c : Str) : Prop := ∀ C, Y.cm c = some C → Cls Y.K C ∧ NoAttr Y.K C f
def eFld (cs : List Str) (m : ME) (f : Str) : ME := fun env h q x => m env h (fun v h1 => ∃ c fs y, insOf h1 v = some (c, fs) ∧ c ∈ cs ∧ fs.lookup f = some y ∧ q y h1) x
/-- o.f = e -/
def sFldM (cs : List Str) (mo me : ME) (f : Str) : MS := fun env h d => me env h (fun y h1 => mo env h1 (fun v h2 => match v with
  | .ref n => ∃ c fs, h2[n]? = some (.ins c fs) ∧ c ∈ cs ∧ fs.length < 1000 ∧ d.nx env (h2.set n (.ins c (putM f y fs)))
  | _ => False) (fun e h' => d.xc e env h')) (fun e h' => d.xc e env h')
section
variable {X : Cx} {Y : Ky} {W : WX} {ta tv : TE} {ma mv : ME} {o e value : Expr} {f : Str} {pos pos' : Pos} {cs : List Str}
theorem se_fld (hc : ∀ c ∈ cs, FldOk Y f c) (a : SE Y W ta ma) : SE Y W (tFld Y.K ta f) (eFld cs ma f) := fun μ env h σ H Q q x z hm kq kx =>
  a μ env h σ H _ _ x z hm (fun v h1 ⟨c, gs, y, ei, hcc, el, k⟩ μ1 U H1 e1 r1 v1 => by
    obtain ⟨a', C, dx, fs, rfl, cm, ea, k1, t1⟩ := rd_ins r1 v1 ei
    obtain ⟨w, l1, rw'⟩ := look_rel k1 t1 el
    obtain ⟨cl, na⟩ := hc c hcc C cm
    exact ⟨a', C, dx, fs, w, rfl, ea, cl, na, l1, kq _ _ k μ1 _ H1 e1 r1 rw'⟩) kx
theorem de_fld (hK : X.K = Y.K) (hc : ∀ c ∈ cs, FldOk Y f c) (h : DE X Y W e ma) (hb : attributeBase e f X.env (eval e X.env) = eval e X.env := by rfl) : DE X Y W (.Attribute e f pos) (eFld cs ma f) := by
  obtain ⟨t, a1, a2⟩ := h
  exact ⟨_, hK ▸ pe_fld a1 hb, se_fld hc a2⟩
theorem ss_fld (hc : ∀ c ∈ cs, FldOk Y f c) (a : SE Y W ta ma) (b : SE Y W tv mv) : SS Y W (sFld Y.K ta tv f) (sFldM cs ma mv f) := fun μ env h σ H D d z hm sd =>
  b μ env h σ H _ _ _ z hm (fun y h1 k μ1 Uy H1 e1 r1 v1 => a μ1 env h1 σ H1 _ _ _ (z.go e1 r1) k (fun v h2 k2 μ2 U H2 e2 r2 v2 => by
    cases v with
    | ref n =>
      obtain ⟨c, gs, ec, hcc, hl, k2⟩ := k2
      cases v2 with
      | ref q =>
        have := r2.at_ _ _ _ q ec
        cases this with
        | @ins C dx _ fs _ cm ea k1 t1 =>
          obtain ⟨cl, na⟩ := hc c hcc C cm
          have e12 := e1.trans e2
          have hfl : fs.length < 1000 := by
            have := congrArg List.length k1
            simp at this; omega
          refine ⟨_, C, dx, fs, rfl, ea, cl, na, hfl, ?_⟩
          obtain ⟨i1, i2⟩ := put_rel (f := f) (v1.mono e2.le) k1 t1
          have eu := e12.trans (.put (o := .ins C dx (putF f Uy fs)) q)
          exact sd.nx _ _ k2 μ2 σ _ eu (z.go eu (r2.put q fun ev => .ins cm upd_same i1 (by rw [ev]; exact i2)))
    | _ => exact k2.elim) ((sd.after e1).kx (z.go e1 r1))) (sd.kx z)
theorem ds_fld (hK : X.K = Y.K) (hc : ∀ c ∈ cs, FldOk Y f c) (ho : DE X Y W o ma) (hv : DE X Y W value mv) (hs : swapsWith value (some (.Attribute o f pos')) pos.line X.env = pure false := by rfl) : DS X Y W (.Assign [.Attribute o f pos'] value pos) (sFldM cs ma mv f) := by
  obtain ⟨t, a1, a2⟩ := ho; obtain ⟨u, b1, b2⟩ := hv
  exact ⟨_, hK ▸ ps_fld a1 b1 hs, ss_fld hc a2 b2⟩
/-- a constant of a class -/
def Cvl (Y : Ky) (mg : Str → Option Value) (x f : Str) (v : V) : Prop := ∃ C, mg x = some (.ref C) ∧ ∃ mc u, ClX.CRead Y.K C mc ∧ ClX.CVal Y.K C mc f v u
theorem de_cv {x : Str} {p : Pos} {v : V} {u : Val} (hK : X.K = Y.K) (D : Cvl Y X.mg x f v) (hv : ∀ μ G, VR Y μ G v u) (hg : Gl X x) (hd : (x == ("__debug__" : Str)) = false := by decide) : DE X Y W (.Attribute (.Name x p) f pos) (eC u) := by
  obtain ⟨C, hm, mc, w, r, c⟩ := D
  rw [← hK] at r c
  have h1 : PE X (.Name x p) (tC (.ref C)) := pe_glob hg hm rfl hd
  have := ClX.pe_cval (f := f) (pos := pos) h1 (by rfl)
  refine ⟨_, this, fun μ env h σ H Q q x z hm kq kx => ⟨C, mc, v, w, rfl, r, c, (kq _ _ hm).here z.r (hv _ _)⟩⟩
/-- a class as a value -/
theorem de_cls {x c : Str} {p : Pos} {C : Addr} (hm : X.mg x = some (.ref C)) (hc : Y.cm c = some C) (hg : Gl X x) (hd : (x == ("__debug__" : Str)) = false := by decide) : DE X Y W (.Name x p) (eC (.cls c)) :=
  ⟨_, pe_glob (v := .ref C) hg hm rfl hd, se_c fun _ _ => .cls hc⟩
end
end Sx

end
section
set_option Elab.async false
set_option linter.all false
set_option maxRecDepth 100000
set_option maxHeartbeats 2000000
/-! SX9: defs -/
namespace Sx
open PySem PySem.Spec PyProof.Rows L2 Cl RZ ZN
abbrev MF := List Val → Mh → VQ → XQ → Prop
def spA (Y : Ky) (f : MF) : Sp := fun vs H Q E => ∃ (μ : Mp) (h : Mh) (xs : List Val) (q : VQ) (x : XQ), Rel Y μ h H ∧ VRs Y μ (vis μ H) vs xs ∧ f xs h q x ∧ (∀ v h', q v h' → Kq Y μ H Q v h') ∧ ∀ e h', x e h' → Kx Y μ H E e h'
/-- n arguments -/
def ar (n : Nat) (f : MF) : MF := fun xs h q x => xs.length = n ∧ f xs h q x
/-- a def by its body -/
def fnM (N : Nat) (m : MS) : MF := fun xs h q x => m (xs.map some ++ List.replicate (N - xs.length) none) h { nx := fun _ h' => q .non h', rt := q, xc := fun e _ h' => x e h' }
/-- a call: positional arguments, then keywords ks -/
def FnA (P : Program) (w : World) (K : PySem.W.Frag) (mg : Str → Option Value) (base : Heap) (k : Nat) (f : Addr) (ks : List Str) (sp : Sp) : Prop :=
  ∀ (A : Around) (outer : List Env) (s : Shared) (H : Hp) (us ws : List Value) (vs zs : List V) (Q : VK) (E : XK), Room k A → Env0 P w K mg base A outer s H → Vals vs us → Vals zs ws → ws.length = ks.length → sp (vs ++ zs) H Q E →
    codeAny (model P w) A (.call (.ref f) ⟨us, ks.zip ws⟩) (CR (L2.CX P w) outer P w H s Q E) s
/-- how arguments bind: n positional ones and the keywords ks, to all parameters -/
def KBn (K : PySem.W.Frag) (fd : FuncData) (ps : List Str) (n : Nat) (ks : List Str) (g : List Value → List Value) : Prop :=
  ∀ (s : Shared) (us ws : List Value), K.In s.heap → us.length = n → ws.length = ks.length → BindsTo s fd ⟨us, ks.zip ws⟩ (ps.zip (g (us ++ ws)))
section
variable {P : Program} {w : World} {K : PySem.W.Frag} {mg : Str → Option Value} {base : Heap} {k : Nat} {f : Addr} {fd : FuncData} {ps ks : List Str} {Y : Ky} {m : Nat} {F' : MF}
theorem FnA.mono {j : Nat} {sp : Sp} (F : FnA P w K mg base j f ks sp) (h : j ≤ k) : FnA P w K mg base k f ks sp := fun A outer s H us ws vs zs Q E hr => F A outer s H us ws vs zs Q E (hr.mono h)
theorem fna_gen (F : FnOk P w K mg base (L2.CX P w) k f fd ps (spA Y (ar m F'))) {n : Nat} {g : List Value → List Value} {gV : List V → List V} {gM : List Val → List Val} (hb : KBn K fd ps n ks g)
    (hV : ∀ vs us, Vals vs us → Vals (gV vs) (g us)) (hM : ∀ (μ : Mp) (G : Hp) vs xs, VRs Y μ G vs xs → VRs Y μ G (gV vs) (gM xs)) : FnA P w K mg base k f ks (spA Y (ar (n + ks.length) fun xs => ar m F' (gM xs))) := by
  rintro A outer s H us ws vs zs Q E hr e0 r rz l ⟨μ, h, xs, q, x, rl, rv, ⟨hl, hf⟩, kq, kx⟩
  have hx := rv.length
  rw [hl, List.length_append] at hx
  have h1 := r.length
  have h2 := rz.length
  have r2 := hV _ _ (r.append rz)
  exact F.run A outer s H ⟨us, ks.zip ws⟩ (g (us ++ ws)) (gV (vs ++ zs)) Q E hr e0 (hb s us ws (e0.mod.kin.keeps fun b o e => (e0.bs b o e).1) (by omega) l) r2 ⟨μ, h, gM xs, q, x, rl, hM _ _ _ _ rv, hf, kq, kx⟩
theorem fna_pos (F : FnOk P w K mg base (L2.CX P w) k f fd ps (spA Y (ar m F'))) (hb : Binds K fd ps []) (hm : ps.length = m) : FnA P w K mg base k f [] (spA Y (ar m F')) := by
  rintro A outer s H us ws vs zs Q E hr e0 r rz l h
  have : ws = [] := List.length_eq_zero_iff.mp l
  subst this
  cases rz
  rw [List.append_nil] at h
  have hl := F.len _ _ _ _ h
  have b := hb s us (e0.mod.kin.keeps fun b o e => (e0.bs b o e).1) (by rw [List.append_nil, ← r.length]; exact hl)
  rw [List.append_nil] at b
  exact F.run A outer s H ⟨us, []⟩ us vs Q E hr e0 b r h
end
/-- the context's exceptions: what leaves the def -/
abbrev WO (E : XK) : WX := fun c d _ H => E c d H
section
variable {P : Program} {w : World} {K : PySem.W.Frag} {mg : Str → Option Value} {base : Heap} {k : Nat} {f : Addr} {fd : FuncData} {N ps : List Str} {Y : Ky} {x qual : Str} {st : Stmt} {m : MS}
theorem sr_start {μ : Mp} {H : Hp} {vs : List V} {xs : List Val} (r : VRs Y μ (vis μ H) vs xs) : SR Y μ H (start N vs) (xs.map some ++ List.replicate (N.length - xs.length) none) := by
  have hl := r.length
  refine ⟨by simp [L2.start, hl], fun i x q => ?_⟩
  by_cases hi : i < xs.length
  · rw [List.getElem?_append_left (by simpa using hi), List.getElem?_map] at q
    cases e : xs[i]? with
    | none => rw [e] at q; cases q
    | some y =>
      rw [e] at q
      cases q
      obtain ⟨v, e1, e2⟩ := r.got e
      refine ⟨v, ?_, e2⟩
      unfold L2.start
      rw [List.getElem?_append_left (by simp [hl]; exact hi), List.getElem?_map, e1]
      rfl
  · rw [List.getElem?_append_right (by simpa using hi)] at q
    rw [List.getElem?_replicate] at q
    split at q <;> cases q
theorem sd_end {μ : Mp} {H : Hp} {Q : VK} {E : XK} {q : VQ} {x : XQ} (kq : ∀ v h', q v h' → Kq Y μ H Q v h') (kx : ∀ e h', x e h' → Kx Y μ H E e h') :
    SD Y (WO E) μ H { nx := fun _ H' => Q .non H', rt := Q } { nx := fun _ h' => q .non h', rt := q, xc := fun e _ h' => x e h' } :=
  ⟨fun env' h' k μ' σ' H' e z => kq _ _ k μ' _ H' e z.r .non, kq, fun _ _ k => k.elim, fun _ _ k => k.elim, fun e env' h' k μ' σ' H' cls dx e' z xr => kx e h' k μ' cls dx H' e' z.r xr⟩
theorem fn_ok {n : Nat} (F : Fun K x qual st f fd) (S : FnScope N ps (defScope st)) (hn : ps.length = n) (hN : N.length = n') (hb : ∀ (cdv : Value) (A : Around) (outer : List Env) (s : Shared) (H : Hp) (E : XK), Room k (A.deeper (envOfC qual (defScope st) s.heap.objs.size f cdv)) →
      Takes (cxOf (L2.CX P w) P w K mg base N qual (defScope st) f cdv A outer s H E) (WO E) → PassesOwn (model P w) (A.deeper (envOfC qual (defScope st) s.heap.objs.size f cdv)) (envOfC qual (defScope st) s.heap.objs.size f cdv) (cxOf (L2.CX P w) P w K mg base N qual (defScope st) f cdv A outer s H E).xe →
      DSs (cxOf (L2.CX P w) P w K mg base N qual (defScope st) f cdv A outer s H E) Y (WO E) (defBody st) m) : FnOk P w K mg base (L2.CX P w) (k + 1) f fd ps (spA Y (ar n (fnM n' m))) := by
  subst hN
  refine F.okX S (fun vs H Q E ⟨μ, h, xs, q, x, rl, rv, ⟨hl, _⟩, _⟩ => by rw [rv.length, hl, hn]) fun cdv A outer s H vs Q E hr ⟨μ, h, xs, q, x, rl, rv, ⟨hl, hf⟩, kq, kx⟩ => ?_
  obtain ⟨t, a1, a2⟩ := hb cdv A outer s H E hr (takes_of rfl rfl rfl rfl) (passes_of rfl)
  exact ⟨t, a1, a2 μ _ h _ H _ _ ⟨rl, sr_start rv⟩ hf (sd_end kq kx)⟩
/-- a star parameter: the rest in a tuple -/
def fnS (n : Nat) (f : MF) : MF := fun xs h q x => n ≤ xs.length ∧ xs.length ≤ 90000 ∧ f (xs.take n ++ [.tup (xs.drop n)]) h q x
theorem fna_star {pv : Str} {n : Nat} (F : Fun K x qual st f fd) (S : FnScope N (ps ++ [pv]) (defScope st)) (hn : ps.length = n) (hN : N.length = n')
    (hbd : ∀ (kV doc pm : Value) (an : Option Addr) (cdv ct : Value) (us rest : List Value), us.length = ps.length → bindArgs (PySem.W.fnOf x qual (defArgs st) (defBody st) (defScope st) .none kV doc pm an cdv ct) ⟨us ++ rest, []⟩ = (newTuple rest >>= fun t => pure (ps.zip us ++ [(pv, t)])))
    (hb : ∀ (cdv : Value) (A : Around) (outer : List Env) (s : Shared) (H : Hp) (E : XK), Room k (A.deeper (envOfC qual (defScope st) s.heap.objs.size f cdv)) →
      Takes (cxOf (L2.CX P w) P w K mg base N qual (defScope st) f cdv A outer s H E) (WO E) → PassesOwn (model P w) (A.deeper (envOfC qual (defScope st) s.heap.objs.size f cdv)) (envOfC qual (defScope st) s.heap.objs.size f cdv) (cxOf (L2.CX P w) P w K mg base N qual (defScope st) f cdv A outer s H E).xe →
      DSs (cxOf (L2.CX P w) P w K mg base N qual (defScope st) f cdv A outer s H E) Y (WO E) (defBody st) m) : FnA P w K mg base (k + 1) f [] (spA Y (fnS n (fnM n' m))) := by
  subst hN
  obtain ⟨oc, od, kV, doc, pm, an, cdv, ct, osl, rfl, lk, hcd⟩ := F.ex
  have R : FnR P w K mg base (L2.CX P w) (k + 1) f _ := StX.fn_star (sp := spA Y (fnM N.length m)) lk hcd S StX.cxUp (hbd kV doc pm an cdv ct) fun A outer s H vs Q E hr ⟨μ, h, xs, q, x, rl, rv, hf, kq, kx⟩ => by
    obtain ⟨t, a1, a2⟩ := hb cdv A outer s H E hr (takes_of rfl rfl rfl rfl) (passes_of rfl)
    exact ⟨t, a1, a2 μ _ h _ H _ _ ⟨rl, sr_start rv⟩ hf (sd_end kq kx)⟩
  rintro A outer s H us ws vs zs Q E hr e0 r rz l ⟨μ, h, xs, q, x, rl, rv, ⟨h1, h2, hf⟩, kq, kx⟩
  have : ws = [] := List.length_eq_zero_iff.mp l
  subst this
  cases rz
  rw [List.append_nil] at rv
  have hl := rv.length
  refine R A outer s H us vs Q E hr e0 r ⟨vs.take n, vs.drop n, (List.take_append_drop n vs).symm, by rw [List.length_take, hn]; omega, ?_, fun p hp => ?_⟩
  · rw [List.length_drop]
    exact Nat.le_trans (Nat.sub_le _ _) (by rw [hl]; exact Nat.le_trans h2 (by decide))
  · obtain ⟨ev, sm⟩ := new_vis (o := .tup (vs.drop n)) rl hp
    refine ⟨μ, h, xs.take n ++ [.tup (xs.drop n)], q, x, rl.same (same_new hp), ((rv.take n).sm sm).append (.one (.tup (SqT.of ev) ((rv.drop n).sm sm))), hf, fun v h' k => (kq v h' k).after (.same (same_new hp)), fun e h' k => (kx e h' k).after (.same (same_new hp))⟩
end
/-! ### a def's own cells are given back: what is returned is laid open -/
mutual
/-- no cell from n on -/
def old (n : Nat) : Val → Bool
  | .ref k => decide (k < n)
  | .lst xs => olds n xs
  | .tup xs => olds n xs
  | .obj _ _ xs => olds n xs
  | _ => true
def olds (n : Nat) : List Val → Bool
  | [] => true
  | x :: xs => old n x && olds n xs
end
def frz (n : Nat) (ls : List Cell) : Val → Option Val
  | .ref k => if k < n then some (.ref k) else match ls[k - n]? with
    | some (.lst xs) => if olds n xs then some (.lst xs) else none
    | some (.ins c fs) => if olds n (fs.map (·.2)) then some (.obj c (fs.map (·.1)) (fs.map (·.2))) else none
    | some (.dct _) => none
    | none => none
  | v => if old n v then some v else none
/-- .. the cells that stood ahead stand as before -/
def reg (f : MF) : MF := fun xs h q x => f xs h (fun v h' => ∃ ls v', h' = h ++ ls ∧ frz h.length ls v = some v' ∧ q v' h) (fun e h' => ∃ ls, h' = h ++ ls ∧ olds h.length e.xs = true ∧ x e h)
section
variable {Y : Ky} {μ μ' : Mp} {G G' : Hp}
mutual
theorem VR.old : ∀ {v : V} {x : Val}, VR Y μ G v x → old μ.cells.length x = true
  | _, _, .non => rfl
  | _, _, .bl _ => rfl
  | _, _, .int _ => rfl
  | _, _, .str _ => rfl
  | _, _, .ty _ => rfl
  | _, _, .lst _ a => by unfold Sx.old; exact VRs.olds a
  | _, _, .tup _ a => by unfold Sx.old; exact VRs.olds a
  | _, _, .obj _ _ a => by unfold Sx.old; exact VRs.olds a
  | _, _, .ref s => by unfold Sx.old; exact decide_eq_true (List.getElem?_eq_some_iff.mp s).1
  | _, _, .src _ => rfl
  | _, _, .cls _ => rfl
theorem VRs.olds : ∀ {vs : List V} {xs : List Val}, VRs Y μ G vs xs → olds μ.cells.length xs = true
  | _, _, .nil => rfl
  | _, _, .cons a b => by unfold Sx.olds; rw [VR.old a, VRs.olds b]; rfl
end
mutual
theorem VR.cut {n : Nat} (hc : ∀ (k : Nat) a, k < n → μ'.cells[k]? = some a → μ.cells[k]? = some a) (hs : ∀ s, μ'.src = some s → μ.src = some s) (sm : Same G' G) : ∀ {v : V} {x : Val}, VR Y μ' G' v x → Sx.old n x = true → VR Y μ G v x
  | _, _, .non, _ => .non
  | _, _, .bl b, _ => .bl b
  | _, _, .int b, _ => .int b
  | _, _, .str b, _ => .str b
  | _, _, .ty b, _ => .ty b
  | _, _, .lst s a, o => .lst (sm _ _ s) (VRs.cut hc hs sm a (by unfold Sx.old at o; exact o))
  | _, _, .tup s a, o => .tup (sqT_mono sm s) (VRs.cut hc hs sm a (by unfold Sx.old at o; exact o))
  | _, _, .obj c s a, o => .obj c (sm _ _ s) (VRs.cut hc hs sm a (by unfold Sx.old at o; exact o))
  | _, _, .ref s, o => .ref (hc _ _ (by unfold Sx.old at o; exact of_decide_eq_true o) s)
  | _, _, .src s, _ => .src (hs _ s)
  | _, _, .cls s, _ => .cls s
theorem VRs.cut {n : Nat} (hc : ∀ (k : Nat) a, k < n → μ'.cells[k]? = some a → μ.cells[k]? = some a) (hs : ∀ s, μ'.src = some s → μ.src = some s) (sm : Same G' G) : ∀ {vs : List V} {xs : List Val}, VRs Y μ' G' vs xs → Sx.olds n xs = true → VRs Y μ G vs xs
  | _, _, .nil, _ => .nil
  | _, _, .cons a b, o => by
    unfold Sx.olds at o
    obtain ⟨o1, o2⟩ := Bool.and_eq_true_iff.mp o
    exact .cons (VR.cut hc hs sm a o1) (VRs.cut hc hs sm b o2)
end
theorem reg_back {h ls : Mh} {H H' : Hp} (r : Rel Y μ h H) (e : Ext μ μ' H H') (r' : Rel Y μ' (h ++ ls) H') :
    Ext μ μ H H' ∧ Rel Y μ h H' ∧ (∀ (k : Nat) a, k < h.length → μ'.cells[k]? = some a → μ.cells[k]? = some a) ∧ Same (vis μ' H') (vis μ H') ∧ ∀ (k : Nat) a, h.length ≤ k → μ'.cells[k]? = some a → μ.h a = false := by
  have hc : ∀ (k : Nat) a, k < h.length → μ'.cells[k]? = some a → μ.cells[k]? = some a := fun k a hk q => by
    have hl : k < μ.cells.length := by rw [r.len]; exact hk
    have := e.cells k _ (List.getElem?_eq_getElem hl)
    rw [q] at this
    cases this
    exact List.getElem?_eq_getElem hl
  have hm : ∀ a, μ.m a = true → μ'.m a = true := fun a q => by
    rcases Mp.m_cases q with q | ⟨l, q⟩ | q
    · obtain ⟨j, hj⟩ := List.getElem?_of_mem q
      exact Mp.m_cell (e.cells j a hj)
    · exact (Mp.m_src (e.src.trans q)).1
    · exact Mp.m_tb (by rw [e.tb]; exact q)
  have hh : ∀ a, μ.h a = true → μ'.h a = true := fun a q => by
    unfold Mp.h at q ⊢
    rcases Bool.or_eq_true_iff.mp q with q | q
    · rw [hm a q]; rfl
    · have : μ'.k a = μ.k a := by unfold Mp.k; rw [e.src, e.ex]
      rw [this, q]; simp
  have sm : Same (vis μ' H') (vis μ H') := hid_mono fun b u nb q => by
    refine ⟨?_, q⟩
    cases z : μ.h b with
    | false => rfl
    | true => rw [hh b z] at nb; cases nb
  refine ⟨⟨fun _ _ q => q, rfl, rfl, fun _ q => .inl q, e.keep, e.there, rfl⟩, ⟨r.len, r.nd, fun i a c e1 e2 => ?_, fun p l q => ?_, fun a q => ?_, r.tbm, r'.tb.mono sm fun _ _ _ => rfl⟩, hc, sm, fun k a hk q => ?_⟩
  · have hi : i < h.length := (List.getElem?_eq_some_iff.mp e2).1
    have c0 := r.at_ i a c e1 e2
    have c1 := r'.at_ i a c (e.cells i a e1) (by rw [List.getElem?_append_left hi]; exact e2)
    cases c0 with
    | lst _ t0 =>
      cases c1 with
      | lst q1 t1 => exact .lst q1 (t1.cut hc (fun s q => e.src.symm.trans q) sm (by rw [← r.len]; exact t0.olds))
    | ins _ _ _ t0 =>
      cases c1 with
      | ins c1 q1 k1 t1 => exact .ins c1 q1 k1 (t1.cut hc (fun s q => e.src.symm.trans q) sm (by rw [← r.len]; exact t0.olds))
    | dct _ _ t0 =>
      cases c1 with
      | dct q1 k1 t1 => exact .dct q1 k1 (t1.cut hc (fun s q => e.src.symm.trans q) sm (by rw [← r.len]; exact t0.olds))
  · exact ⟨(r'.src p l (e.src.trans q)).1, (r.src p l q).2⟩
  · exact ⟨e.there a (r.ex a q).1, (r.ex a q).2⟩
  · cases z : μ.h a with
    | false => rfl
    | true =>
      exfalso
      unfold Mp.h at z
      rcases Bool.or_eq_true_iff.mp z with z | z
      · rcases Mp.m_cases z with z | ⟨l, z⟩ | z
        rotate_left 2
        · have hk' : k < (h ++ ls).length := by rw [← r'.len]; exact (List.getElem?_eq_some_iff.mp q).1
          have c0 := r'.at_ k a _ q (List.getElem?_eq_getElem hk')
          rw [r.tbm] at z
          obtain ⟨w, hw, rfl⟩ := List.mem_map.mp z
          obtain ⟨ps, h1, _⟩ := r'.tb w hw
          exact c0.ntbl ps h1
        · obtain ⟨j, hj⟩ := List.getElem?_of_mem z
          have hj2 := e.cells j a hj
          have hjl : j < h.length := by rw [← r.len]; exact (List.getElem?_eq_some_iff.mp hj).1
          have g1 := List.getElem?_eq_some_iff.mp hj2
          have g2 := List.getElem?_eq_some_iff.mp q
          have := (List.getElem_inj r'.nd).mp (g1.2.trans g2.2.symm)
          omega
        · exact (r'.src a l (e.src.trans z)).2.1 (List.mem_of_getElem? q)
      · rcases Mp.k_cases z with z | ⟨p, z⟩
        · have := (r'.ex a (by rw [e.ex]; exact z)).2
          rw [Mp.m_cell q] at this; cases this
        · exact (r'.src p a (e.src.trans z)).2.2 (List.mem_of_getElem? q)
theorem sp_reg {f : MF} {vs : List V} {H : Hp} {Q : VK} {E : XK} (s : spA Y (reg f) vs H Q E) : spA Y f vs H Q E := by
  obtain ⟨μ, h, xs, q, x, rl, rv, hf, kq, kx⟩ := s
  refine ⟨μ, h, xs, _, _, rl, rv, hf, ?_, ?_⟩
  · rintro v h' ⟨ls, v', rfl, ef, k⟩ μ' V' H' e r' rv'
    obtain ⟨e0, r0, hc, sm, hf⟩ := reg_back rl e r'
    have hs : ∀ s, μ'.src = some s → μ.src = some s := fun s q => e.src.symm.trans q
    refine kq v' h k μ V' H' e0 r0 ?_
    have gen : (if Sx.old h.length v then some v else none) = some v' → VR Y μ (vis μ H') V' v' := fun ef => by
      by_cases ho : Sx.old h.length v = true
      · rw [if_pos ho] at ef
        cases ef
        exact rv'.cut hc hs sm ho
      · rw [if_neg ho] at ef; cases ef
    cases v with
    | ref n =>
      unfold frz at ef
      dsimp only at ef
      by_cases hn : n < h.length
      · rw [if_pos hn] at ef
        cases ef
        exact rv'.cut hc hs sm (by unfold Sx.old; exact decide_eq_true hn)
      · rw [if_neg hn] at ef
        cases rv' with
        | ref q =>
          cases hl : ls[n - h.length]? with
          | none => simp only [hl] at ef; cases ef
          | some c =>
            have c1 := r'.at_ n _ c q (by rw [List.getElem?_append_right (by omega)]; exact hl)
            have hv := hf n _ (by omega) q
            cases c1 with
            | @lst vs' xs' q1 t1 =>
              simp only [hl] at ef
              by_cases ho : Sx.olds h.length xs' = true
              · rw [if_pos ho] at ef
                cases ef
                exact .lst (hid_of hv q1) (t1.cut hc hs sm ho)
              · rw [if_neg ho] at ef; cases ef
            | @ins C dx c fs gs c1 q1 k1 t1 =>
              simp only [hl] at ef
              by_cases ho : Sx.olds h.length (gs.map (·.2)) = true
              · rw [if_pos ho] at ef
                cases ef
                rw [← k1]
                exact .obj c1 (hid_of hv q1) (t1.cut hc hs sm ho)
              · rw [if_neg ho] at ef; cases ef
            | dct => simp only [hl] at ef; cases ef
    | _ => exact gen ef
  · rintro ex h' ⟨ls, rfl, ho, k⟩ μ' cls d H' e r' xr
    obtain ⟨e0, r0, hc, sm, _⟩ := reg_back rl e r'
    obtain ⟨C, dx, fs, x1, x2, x3, x4, x5, x6⟩ := xr
    exact kx ex h k μ cls d H' e0 r0 ⟨C, dx, fs, x1, x2, x3, sm _ _ x4, x5, x6.cut hc (fun s q => e.src.symm.trans q) sm ho⟩
end
theorem fna_reg {P : Program} {w : World} {K : PySem.W.Frag} {mg : Str → Option Value} {base : Heap} {k : Nat} {f : Addr} {ks : List Str} {Y : Ky} {g : MF} (F : FnA P w K mg base k f ks (spA Y g)) : FnA P w K mg base k f ks (spA Y (reg g)) :=
  fun A outer s H us ws vs zs Q E hr e0 r rz l h => F A outer s H us ws vs zs Q E hr e0 r rz l (sp_reg h)
end Sx

end
section
set_option Elab.async false
set_option linter.all false
set_option maxRecDepth 100000
set_option maxHeartbeats 2000000
/-! SXA: calls -/
namespace Sx
open PySem PySem.Spec PyProof.Rows L2 Cl RZ ZN
def eCall (f : MF) (a : MA) : ME := fun env h q x => a env h (fun vs h1 => f vs h1 q x) x
def eCallK (f : MF) (a k : MA) : ME := fun env h q x => a env h (fun vs h1 => k env h1 (fun zs h2 => f (vs ++ zs) h2 q x) x) x
/-- o.m(..), o a thing of the class c without an attribute m -/
def eMeth (c m : Str) (f : MF) (o : ME) (a : MA) : ME := fun env h q x => o env h (fun v h1 => ∃ fs, insOf h1 v = some (c, fs) ∧ fs.lookup m = none ∧ a env h1 (fun vs h2 => f (v :: vs) h2 q x) x) x
def eMethK (c m : Str) (f : MF) (o : ME) (a k : MA) : ME := fun env h q x => o env h (fun v h1 => ∃ fs, insOf h1 v = some (c, fs) ∧ fs.lookup m = none ∧ a env h1 (fun vs h2 => k env h2 (fun zs h3 => f (v :: (vs ++ zs)) h3 q x) x) x) x
/-- C(..): a new cell -/
def eNew (c : Str) (f : MF) (a : MA) : ME := fun env h q x => a env h (fun vs h1 => f (.ref h1.length :: vs) (h1 ++ [.ins c []]) (fun v h2 => v = .non ∧ q (.ref h1.length) h2) x) x
/-- .. whose things never change: laid open -/
def eNewF (c : Str) (f : MF) (a : MA) : ME := fun env h q x => a env h (fun vs h1 => f (.ref h1.length :: vs) (h1 ++ [.ins c []]) (fun v h2 => v = .non ∧ ∃ fs ls, h2 = h1 ++ .ins c fs :: ls ∧ olds h1.length (fs.map (·.2)) = true ∧ q (.obj c (fs.map (·.1)) (fs.map (·.2))) h1) (fun e h2 => ∃ ls, h2 = h1 ++ ls ∧ olds h1.length e.xs = true ∧ x e h1)) x
def DfA (P : Program) (w : World) (K : PySem.W.Frag) (mg : Str → Option Value) (base : Heap) (x : Str) (k : Nat) (ks : List Str) (sp : Sp) : Prop := ∃ f, FnA P w K mg base k f ks sp ∧ mg x = some (.ref f) ∧ PySem.W.keepIn K (.ref f) = true
/-- a method of the class named c -/
def MdA (P : Program) (w : World) (Y : Ky) (mg : Str → Option Value) (base : Heap) (c m : Str) (k : Nat) (ks : List Str) (sp : Sp) : Prop := ∃ C, Y.cm c = some C ∧ Cls Y.K C ∧ ∃ f, FnA P w Y.K mg base k f ks sp ∧ Meth Y.K C m f
def McA (P : Program) (w : World) (Y : Ky) (mg : Str → Option Value) (base : Heap) (x c : Str) (k : Nat) (ks : List Str) (sp : Sp) : Prop := ∃ C, Y.cm c = some C ∧ mg x = some (.ref C) ∧ ∃ f, FnA P w Y.K mg base k f ks sp ∧ Mk Y.K C f
section
variable {X : Cx} {Y : Ky} {W : WX} {k : Nat} {f : Addr} {ks : List Str} {F : MF} {x m c : Str} {p pos apos spos : Pos} {e o : Expr} {es : List Expr} {kws : List Keyword} {a a' : MA} {me mo : ME} {pl : Sem Bool}
theorem run_fna {pins : List (Addr × Obj)} {σ : L2.St} {H : Hp} {s : Shared} {Q : VK} {us ws : List Value} {vs zs : List V} {sp : Sp} (D : FnA X.prog X.w X.K X.mg X.base k f ks sp) (hr : Room k X.A) (tk : Takes X W) (I : Inv X pins σ H s) (r : Vals vs us) (rz : Vals zs ws) (l : ws.length = ks.length)
    (h : sp (vs ++ zs) H Q (WE W σ)) : wpAny (model X.prog X.w) X.A (call (.ref f) us (ks.zip ws)) (EP X pins σ Q) X.xe s := by
  refine wpAny_call (codeAny_mono (D X.A X.stack s H us ws vs zs Q (WE W σ) hr I.env0 r rz l h) fun r s' hq => ?_)
  cases r with
  | error e => exact passAt tk σ pins H s e s' I hq
  | ok fl =>
    cases fl with
    | ret u => exact I.after hq
    | next => exact False.elim hq
    | brk => exact False.elim hq
    | cont => exact False.elim hq
/-- the readings -/
def tCA (sp : Sp) (W : WX) (t : TA) : TE := fun σ H Q => t σ H fun vs H1 => sp vs H1 Q (WE W σ)
def tCAK (n : Nat) (sp : Sp) (W : WX) (t tk : TA) : TE := fun σ H Q => t σ H fun vs H1 => tk σ H1 fun zs H2 => zs.length = n ∧ sp (vs ++ zs) H2 Q (WE W σ)
def tMA (C : Addr) (m : Str) (sp : Sp) (W : WX) (ta : TE) (t : TA) : TE := fun σ H Q => ta σ H fun x H1 => ∃ a dx fs, x = .ref a ∧ H1 a = some (.ins C dx fs) ∧ fs.lookup m = none ∧ t σ H1 fun vs H2 => sp (x :: vs) H2 Q (WE W σ)
def tMAK (C : Addr) (m : Str) (n : Nat) (sp : Sp) (W : WX) (ta : TE) (t tk : TA) : TE := fun σ H Q => ta σ H fun x H1 => ∃ a dx fs, x = .ref a ∧ H1 a = some (.ins C dx fs) ∧ fs.lookup m = none ∧ t σ H1 fun vs H2 => tk σ H2 fun zs H3 => zs.length = n ∧ sp (x :: (vs ++ zs)) H3 Q (WE W σ)
def tNA (C : Addr) (sp : Sp) (W : WX) (t : TA) : TE := fun σ H Q => t σ H fun vs H1 => ∀ x dx, H1 x = none → H1 dx = none → dx ≠ x → sp (.ref x :: vs) (upd (upd H1 dx (.own x)) x (.ins C dx [])) (fun v H2 => v = .non ∧ Q (.ref x) H2) (WE W σ)
variable {ta te : TE} {t tk : TA} {sp : Sp} {C : Addr}
theorem pe_ca (D : DfA X.prog X.w X.K X.mg X.base x k [] sp) (hr : Room k X.A) (tk : Takes X W) (hg : Gl X x) (ha : PA X (e :: es) t) (hdb : (x == ("__debug__" : Str)) = false) (he : starEach (e :: es) X.env = (false, eval e X.env) :: starEach es X.env) (hpl : (backTo pos (starEach es X.env)).any (·.1) = false) :
    PE X (.Call (.Name x p) (e :: es) [] pos) (tCA sp W t) := by
  obtain ⟨f, F, hm, hk⟩ := D
  refine ⟨fun pins s σ H Q I h => ?_⟩
  refine wpAny_Call_Name_kw (ld_glob I hg hm ?_ hdb)
  refine PySem.W.callWith_K (h₀ := X.base) I.ok.mod.kin hk (thn (ha.run pos pins s σ H _ I h) fun us s1 ⟨vs, H1, I1, r, q⟩ => ⟨I1.kIn, ?_⟩) he hpl
  exact run_fna (ws := []) (zs := []) F hr tk I1 r .nil rfl (by rw [List.append_nil]; exact q)
theorem pe_ca0 (D : DfA X.prog X.w X.K X.mg X.base x k [] sp) (hr : Room k X.A) (tk : Takes X W) (hg : Gl X x) (hdb : (x == ("__debug__" : Str)) = false) : PE X (.Call (.Name x p) [] [] pos) (tCA sp W tNil) := by
  obtain ⟨f, F, hm, hk⟩ := D
  refine ⟨fun pins s σ H Q I h => ?_⟩
  refine wpAny_Call_Name_kw (ld_glob I hg hm ?_ hdb)
  exact PySem.W.callWith_K0 I.kIn hk (run_fna (us := []) (vs := []) (ws := []) (zs := []) F hr tk I .nil .nil rfl h)
theorem pe_caS (D : DfA X.prog X.w X.K X.mg X.base x k [] sp) (hr : Room k X.A) (tk : Takes X W) (hg : Gl X x) (ha : PA X (e :: es) t) (hdb : (x == ("__debug__" : Str)) = false) (he : starEach (e :: es) X.env = (false, eval e X.env) :: starEach es X.env) (hst : (backTo pos (starEach es X.env)).any (·.1) = true) :
    PE X (.Call (.Name x p) (e :: es) [] pos) (tCA sp W t) := by
  obtain ⟨f, F, hm, hk⟩ := D
  refine ⟨fun pins s σ H Q I h => ?_⟩
  refine wpAny_Call_Name_kw (ld_glob I hg hm ?_ hdb)
  refine PySem.W.callWith_S2 (h₀ := X.base) I.ok.mod.kin hk (thn (ha.run pos pins s σ H _ I h) fun us s1 ⟨vs, H1, I1, r, q⟩ => ⟨I1.kIn, ?_⟩) he hst
  exact run_fna (ws := []) (zs := []) F hr tk I1 r .nil rfl (by rw [List.append_nil]; exact q)
theorem pe_caS1 (D : DfA X.prog X.w X.K X.mg X.base x k [] sp) (hr : Room k X.A) (tk : Takes X W) (hg : Gl X x) (he : PE X e te) (hdb : (x == ("__debug__" : Str)) = false) (hst : starEach [.Starred e spos] X.env = [(true, eval e X.env)]) :
    PE X (.Call (.Name x p) [.Starred e spos] [] pos) (tCA sp W (StX.tStar X.K te tNil)) := by
  obtain ⟨f, F, hm, hk⟩ := D
  refine ⟨fun pins s σ H Q I h => ?_⟩
  refine wpAny_Call_Name_kw (ld_glob I hg hm ?_ hdb)
  refine PySem.W.callWith_S (h₀ := X.base) I.ok.mod.kin hk (thn (he.run pins s σ H _ I h) fun v s1 ⟨y, H1, I1, ry, a, xs, ey, hxs, q⟩ => ?_) hst
  subst ey
  obtain rfl : v = Value.ref a := ry
  have q : sp (xs ++ []) H1 Q (WE W σ) := q
  exact StX.star_any I1 hxs fun us s2 I2 rv => ⟨I2.kIn, run_fna (ws := []) (zs := []) F hr tk I2 rv .nil rfl q⟩
theorem pe_caK {tkw : TA} (D : DfA X.prog X.w X.K X.mg X.base x k ks sp) (hr : Room k X.A) (tk : Takes X W) (hg : Gl X x) (ha : PA X (e :: es) t) (hkw : PK X kws tkw) (hall : (backToKw pos (keywordEach kws X.env)).all (·.1.isSome) = true) (hks : (backToKw pos (keywordEach kws X.env)).filterMap (·.1) = ks)
    (hdb : (x == ("__debug__" : Str)) = false) (he : starEach (e :: es) X.env = (false, eval e X.env) :: starEach es X.env) (hpl : ((backTo pos (starEach (e :: es) X.env)).any (·.1) || (backToKw pos (keywordEach kws X.env)).any (·.1.isNone)) = false) :
    PE X (.Call (.Name x p) (e :: es) kws pos) (tCAK ks.length sp W t tkw) := by
  obtain ⟨f, F, hm, hk⟩ := D
  refine ⟨fun pins s σ H Q I h => ?_⟩
  refine wpAny_Call_Name_kw (ld_glob I hg hm ?_ hdb)
  refine PySem.W.callWith_KW (h₀ := X.base) I.ok.mod.kin hk hall (thn (ha.run pos pins s σ H _ I h) fun us s1 ⟨vs, H1, I1, r, q⟩ => ?_) hpl he
  refine thn (hkw.run pos pins s1 σ H1 _ I1 q) fun ws s2 ⟨zs, H2, I2, rz, l, q2⟩ => ⟨I2.kIn, ?_⟩
  rw [hks]
  exact run_fna F hr tk I2 r rz (by rw [← rz.length]; exact l) q2
theorem pe_ma (c : Cls X.K C) (hm : Meth X.K C m f) (F : FnA X.prog X.w X.K X.mg X.base k f [] sp) (hr : Room k X.A) (tk : Takes X W) (he : PE X o ta) (ha : PA X (e :: es) t)
    (hst : starEach (e :: es) X.env = (false, eval e X.env) :: starEach es X.env) (hpl : (backTo pos (starEach es X.env)).any (·.1) = false)
    (ht : eval (.Call (.Attribute o m apos) (e :: es) [] pos) X.env = (do
      let ov ← eval o X.env
      standAt apos.atName
      let (f, first) ← holding [ov] (getMethod ov m pl)
      callWith pos f first (backTo pos (starEach (e :: es) X.env)) (backToKw pos (keywordEach [] X.env)))) : PE X (.Call (.Attribute o m apos) (e :: es) [] pos) (tMA C m sp W ta t) := by
  refine ⟨fun pins s σ H Q I h => ?_⟩
  refine PySem.W.methodCall_KW (pl := pl) (thn (he.run pins s σ H _ I h) fun u s1 ⟨x, H1, I1, rx, a, dx, fs, ex, ea, l, q⟩ => ?_) ht
  subst ex
  obtain rfl : u = Value.ref a := rx
  refine getmeth_ok I1 ea c hm l ?_
  refine PySem.W.callWith_K (first := [.ref a]) (h₀ := X.base) I.ok.mod.kin hm.kp (thn (ha.run pos pins s1 σ H1 _ I1 q) fun us s2 ⟨vs, H2, I2, r, q2⟩ => ⟨I2.kIn, ?_⟩) hst hpl
  exact run_fna (us := .ref a :: us) (vs := .ref a :: vs) (ws := []) (zs := []) F hr tk I2 (.cons rfl r) .nil rfl (by rw [List.append_nil]; exact q2)
theorem pe_ma0 (c : Cls X.K C) (hm : Meth X.K C m f) (F : FnA X.prog X.w X.K X.mg X.base k f [] sp) (hr : Room k X.A) (tk : Takes X W) (he : PE X o ta)
    (ht : eval (.Call (.Attribute o m apos) [] [] pos) X.env = (do
      let ov ← eval o X.env
      standAt apos.atName
      let (f, first) ← holding [ov] (getMethod ov m pl)
      callWith pos f first (backTo pos (starEach [] X.env)) (backToKw pos (keywordEach [] X.env)))) : PE X (.Call (.Attribute o m apos) [] [] pos) (tMA C m sp W ta tNil) := by
  refine ⟨fun pins s σ H Q I h => ?_⟩
  refine PySem.W.methodCall_KW (pl := pl) (thn (he.run pins s σ H _ I h) fun u s1 ⟨x, H1, I1, rx, a, dx, fs, ex, ea, l, q⟩ => ?_) ht
  subst ex
  obtain rfl : u = Value.ref a := rx
  refine getmeth_ok I1 ea c hm l ?_
  exact PySem.W.callWith_K0 (first := [.ref a]) I1.kIn hm.kp (run_fna (us := [.ref a]) (vs := [.ref a]) (ws := []) (zs := []) F hr tk I1 (.cons rfl .nil) .nil rfl q)
theorem pe_maK {tkw : TA} (c : Cls X.K C) (hm : Meth X.K C m f) (F : FnA X.prog X.w X.K X.mg X.base k f ks sp) (hr : Room k X.A) (tk : Takes X W) (he : PE X o ta) (ha : PA X (e :: es) t) (hkw : PK X kws tkw)
    (hall : (backToKw pos (keywordEach kws X.env)).all (·.1.isSome) = true) (hks : (backToKw pos (keywordEach kws X.env)).filterMap (·.1) = ks)
    (hst : starEach (e :: es) X.env = (false, eval e X.env) :: starEach es X.env) (hpl : ((backTo pos (starEach (e :: es) X.env)).any (·.1) || (backToKw pos (keywordEach kws X.env)).any (·.1.isNone)) = false)
    (ht : eval (.Call (.Attribute o m apos) (e :: es) kws pos) X.env = (do
      let ov ← eval o X.env
      standAt apos.atName
      let (f, first) ← holding [ov] (getMethod ov m pl)
      callWith pos f first (backTo pos (starEach (e :: es) X.env)) (backToKw pos (keywordEach kws X.env)))) :
    PE X (.Call (.Attribute o m apos) (e :: es) kws pos) (tMAK C m ks.length sp W ta t tkw) := by
  refine ⟨fun pins s σ H Q I h => ?_⟩
  refine PySem.W.methodCall_KW (pl := pl) (thn (he.run pins s σ H _ I h) fun u s1 ⟨x, H1, I1, rx, a, dx, fs, ex, ea, l, q⟩ => ?_) ht
  subst ex
  obtain rfl : u = Value.ref a := rx
  refine getmeth_ok I1 ea c hm l ?_
  refine PySem.W.callWith_KW (first := [.ref a]) (h₀ := X.base) I.ok.mod.kin hm.kp hall (thn (ha.run pos pins s1 σ H1 _ I1 q) fun us s2 ⟨vs, H2, I2, r, q2⟩ => ?_) hpl hst
  refine thn (hkw.run pos pins s2 σ H2 _ I2 q2) fun ws s3 ⟨zs, H3, I3, rz, l2, q3⟩ => ⟨I3.kIn, ?_⟩
  rw [hks]
  exact run_fna (us := .ref a :: us) (vs := .ref a :: vs) F hr tk I3 (.cons rfl r) rz (by rw [← rz.length]; exact l2) q3
theorem run_mka {pins : List (Addr × Obj)} {σ : L2.St} {H : Hp} {s : Shared} {Q : VK} {us : List Value} {vs : List V} (M : Mk X.K C f) (F : FnA X.prog X.w X.K X.mg X.base k f [] sp) (hr : Room (k + 1) X.A) (tk : Takes X W) (I : Inv X pins σ H s) (r : Vals vs us)
    (h : ∀ x dx, H x = none → H dx = none → dx ≠ x → sp (.ref x :: vs) (upd (upd H dx (.own x)) x (.ins C dx [])) (fun v H2 => v = .non ∧ Q (.ref x) H2) (WE W σ)) :
    wpAny (model X.prog X.w) X.A (call (.ref C) us) (EP X pins σ Q) X.xe s := by
  have hq := h (s.heap.objs.size + 1) s.heap.objs.size (I.hok.fresh (Nat.le_succ _)) (I.hok.fresh (Nat.le_refl _)) (Nat.ne_of_lt (Nat.lt_succ_self _))
  have I2 := Inv.made (C := C) I
  have r2 : Vals (V.ref (s.heap.objs.size + 1) :: vs) (Value.ref (s.heap.objs.size + 1) :: us) := .cons rfl r
  refine wpAny_call (make_map (f := f) I.kIn M.makes M.init (beq_iff_eq.mp M.fn) (codeAny_mono (F _ X.stack _ _ (Value.ref (s.heap.objs.size + 1) :: us) [] _ [] _ (WE W σ) (hr.make C us [])
    (I2.env0.make C us []) r2 .nil rfl (by rw [List.append_nil]; exact hq)) fun r s' hq' => ?_))
  cases r with
  | error e => exact passAt tk σ pins _ _ e s' I2 hq'
  | ok fl =>
    cases fl with
    | ret u =>
      obtain ⟨v, H', I3, rv, ev, q3⟩ := I2.after hq'
      subst ev
      exact ⟨rv, ⟨V.ref (s.heap.objs.size + 1), H', I3, rfl, q3⟩⟩
    | next => exact False.elim hq'
    | brk => exact False.elim hq'
    | cont => exact False.elim hq'
theorem pe_na (M : Mk X.K C f) (F : FnA X.prog X.w X.K X.mg X.base k f [] sp) (hr : Room (k + 1) X.A) (tk : Takes X W) (hg : Gl X x) (hm : X.mg x = some (.ref C)) (ha : PA X (e :: es) t) (hdb : (x == ("__debug__" : Str)) = false) (he : starEach (e :: es) X.env = (false, eval e X.env) :: starEach es X.env) (hpl : (backTo pos (starEach es X.env)).any (·.1) = false) :
    PE X (.Call (.Name x p) (e :: es) [] pos) (tNA C sp W t) := by
  refine ⟨fun pins s σ H Q I h => ?_⟩
  refine wpAny_Call_Name_kw (ld_glob I hg hm ?_ hdb)
  refine PySem.W.callWith_K (h₀ := X.base) I.ok.mod.kin M.kp (thn (ha.run pos pins s σ H _ I h) fun us s1 ⟨vs, H1, I1, r, q⟩ => ⟨I1.kIn, ?_⟩) he hpl
  exact run_mka M F hr tk I1 r q
/-! the readings follow -/
theorem SA.to {ta : TA} (s : SA Y W ta a) : SA Y W ta a := s
theorem sp_of {μ : Mp} {h1 : Mh} {H1 : Hp} {σ : L2.St} {Q : VK} {q : VQ} {x : XQ} {vs : List V} {xs : List Val} (r1 : Rel Y μ h1 H1) (v1 : VRs Y μ (vis μ H1) vs xs) (hf : F xs h1 q x) (kq : ∀ v h', q v h' → Kq Y μ H1 Q v h') (kx : ∀ e h', x e h' → Kx Y μ H1 (fun c d H' => W c d σ H') e h') : spA Y F vs H1 Q (WE W σ) :=
  ⟨μ, h1, xs, q, x, r1, v1, hf, kq, kx⟩
theorem se_ca (s : SA Y W t a) : SE Y W (tCA (spA Y F) W t) (eCall F a) := fun μ env h σ H Q q x z hm kq kx =>
  s μ env h σ H _ _ x z hm (fun xs h1 k μ1 Us H1 e1 r1 v1 => sp_of r1 v1 k (fun v h' k => (kq v h' k).after e1) fun e h' k => (kx e h' k).after e1) kx
theorem se_caK {n : Nat} {tkw : TA} (s : SA Y W t a) (s' : SA Y W tkw a') (hn : ∀ σ H Q, tkw σ H Q → tkw σ H fun zs H' => zs.length = n ∧ Q zs H') : SE Y W (tCAK n (spA Y F) W t tkw) (eCallK F a a') := fun μ env h σ H Q q x z hm kq kx =>
  s μ env h σ H _ _ x z hm (fun xs h1 k μ1 Us H1 e1 r1 v1 => hn _ _ _ (s' μ1 env h1 σ H1 _ _ x (z.go e1 r1) k (fun ys h2 k2 μ2 Us' H2 e2 r2 v2 => sp_of r2 ((v1.mono e2.le).append v2) k2 (fun v h' k => (kq v h' k).after (e1.trans e2)) fun e h' k => (kx e h' k).after (e1.trans e2)) fun e h' k => (kx e h' k).after e1)) kx
theorem se_ma (hc : Y.cm c = some C) (s : SE Y W ta mo) (s' : SA Y W t a) : SE Y W (tMA C m (spA Y F) W ta t) (eMeth c m F mo a) := fun μ env h σ H Q q x z hm kq kx =>
  s μ env h σ H _ _ x z hm (fun v h1 ⟨gs, ei, el, k⟩ μ1 U H1 e1 r1 v1 => by
    obtain ⟨a', C', dx, fs, rfl, cm, ea, k1, t1⟩ := rd_ins r1 v1 ei
    rw [hc] at cm; cases cm
    exact ⟨a', dx, fs, rfl, ea, look_none k1 el, s' μ1 env h1 σ H1 _ _ x (z.go e1 r1) k (fun ys h2 k2 μ2 Us' H2 e2 r2 v2 => sp_of r2 (.cons (v1.mono e2.le) v2) k2 (fun v h' k => (kq v h' k).after (e1.trans e2)) fun e h' k => (kx e h' k).after (e1.trans e2)) fun e h' k => (kx e h' k).after e1⟩) kx
theorem se_maK {n : Nat} {tkw : TA} (hc : Y.cm c = some C) (s : SE Y W ta mo) (s' : SA Y W t a) (s'' : SA Y W tkw a') (hn : ∀ σ H Q, tkw σ H Q → tkw σ H fun zs H' => zs.length = n ∧ Q zs H') : SE Y W (tMAK C m n (spA Y F) W ta t tkw) (eMethK c m F mo a a') := fun μ env h σ H Q q x z hm kq kx =>
  s μ env h σ H _ _ x z hm (fun v h1 ⟨gs, ei, el, k⟩ μ1 U H1 e1 r1 v1 => by
    obtain ⟨a', C', dx, fs, rfl, cm, ea, k1, t1⟩ := rd_ins r1 v1 ei
    rw [hc] at cm; cases cm
    refine ⟨a', dx, fs, rfl, ea, look_none k1 el, s' μ1 env h1 σ H1 _ _ x (z.go e1 r1) k (fun ys h2 k2 μ2 Us' H2 e2 r2 v2 => hn _ _ _ ?_) fun e h' k => (kx e h' k).after e1⟩
    exact s'' μ2 env h2 σ H2 _ _ x (z.go (e1.trans e2) r2) k2 (fun zs h3 k3 μ3 Us'' H3 e3 r3 v3 => sp_of r3 (.cons (v1.mono (e2.trans e3).le) ((v2.mono e3.le).append v3)) k3 (fun v h' k => (kq v h' k).after ((e1.trans e2).trans e3)) fun e h' k => (kx e h' k).after ((e1.trans e2).trans e3)) fun e h' k => (kx e h' k).after (e1.trans e2)) kx
theorem new_start {μ : Mp} {h : Mh} {H : Hp} {x dx : Addr} (hc : Y.cm c = some C) (r : Rel Y μ h H) (hx : H x = none) (hdx : H dx = none) (ne : dx ≠ x) :
    Ext μ (μ.add x) H (upd (upd H dx (.own x)) x (.ins C dx [])) ∧ Rel Y (μ.add x) (h ++ [.ins c []]) (upd (upd H dx (.own x)) x (.ins C dx [])) := by
  have hx2 : upd H dx (.own x) x = none := by rw [upd_ne (Ne.symm ne)]; exact hx
  have e1 : Ext μ μ H (upd H dx (.own x)) := .same (same_new hdx)
  exact ⟨e1.trans (.add hx2), (r.same (same_new hdx)).add hx2 (.ins (fs := []) hc upd_same rfl .nil)⟩
theorem se_na (hc : Y.cm c = some C) (s : SA Y W t a) : SE Y W (tNA C (spA Y F) W t) (eNew c F a) := fun μ env h σ H Q q x z hm kq kx =>
  s μ env h σ H _ _ x z hm (fun xs h1 k μ1 Us H1 e1 r1 v1 x' dx hx hdx ne => by
    obtain ⟨e2, r2⟩ := new_start hc r1 hx hdx ne
    have e12 := e1.trans e2
    have hr : VR Y (μ1.add x') (vis (μ1.add x') (upd (upd H1 dx (.own x')) x' (.ins C dx []))) (.ref x') (.ref h1.length) := .ref (by rw [← r1.len]; exact add_at)
    refine sp_of r2 (.cons hr (v1.mono e2.le)) k (fun v h2 ⟨ev, k2⟩ μ3 V3 H3 e3 r3 v3 => ?_) fun e h' k => (kx e h' k).after e12
    subst ev
    cases v3
    exact ⟨rfl, kq _ _ k2 μ3 _ H3 (e12.trans e3) r3 (hr.mono e3.le)⟩) kx
theorem se_naF (hc : Y.cm c = some C) (s : SA Y W t a) : SE Y W (tNA C (spA Y F) W t) (eNewF c F a) := fun μ env h σ H Q q x z hm kq kx =>
  s μ env h σ H _ _ x z hm (fun xs h1 k μ1 Us H1 e1 r1 v1 x' dx hx hdx ne => by
    obtain ⟨e2, r2⟩ := new_start hc r1 hx hdx ne
    have e12 := e1.trans e2
    have hr : VR Y (μ1.add x') (vis (μ1.add x') (upd (upd H1 dx (.own x')) x' (.ins C dx []))) (.ref x') (.ref h1.length) := .ref (by rw [← r1.len]; exact add_at)
    refine sp_of r2 (.cons hr (v1.mono e2.le)) k (fun v h2 ⟨ev, fs, ls, eh, ho, k2⟩ μ3 V3 H3 e3 r3 v3 => ?_) fun e h' ⟨ls, eh, ho, k⟩ μ3 cls d H3 e3 r3 xr => ?_
    · subst ev
      cases v3
      subst eh
      obtain ⟨e0, r0, hcc, sm, hvis⟩ := reg_back r1 (e2.trans e3) r3
      have hs : ∀ s, μ3.src = some s → μ1.src = some s := fun s q => (e2.trans e3).src.symm.trans q
      have hcell := e3.cells _ _ (add_at (μ := μ1) (p := x'))
      rw [r1.len] at hcell
      have c1 := r3.at_ _ _ _ hcell (by rw [List.getElem?_append_right (Nat.le_refl _)]; simp; rfl)
      refine ⟨rfl, kq _ _ k2 μ1 _ H3 (e1.trans e0) r0 ?_⟩
      cases c1 with
      | @ins C' dx' _ fs' _ cm q1 k1 t1 =>
        rw [← k1]
        exact .obj cm (hid_of (hvis _ _ (Nat.le_refl _) hcell) q1) (t1.cut hcc hs sm ho)
    · subst eh
      obtain ⟨e0, r0, hcc, sm, _⟩ := reg_back r1 (e2.trans e3) r3
      obtain ⟨C', dx', fs, x1, x2, x3, x4, x5, x6⟩ := xr
      exact kx e h1 k μ1 cls d H3 (e1.trans e0) r0 ⟨C', dx', fs, x1, x2, x3, sm _ _ x4, x5, x6.cut hcc (fun s q => (e2.trans e3).src.symm.trans q) sm ho⟩) kx
/-! ### keywords -/
structure DK (X : Cx) (Y : Ky) (W : WX) (kws : List Keyword) (n : Nat) (m : MA) : Prop where
  go : ∃ t, PK X kws t ∧ SA Y W t m ∧ ∀ σ H Q, t σ H Q → t σ H fun zs H' => zs.length = n ∧ Q zs H'
theorem dk_nil : DK X Y W [] 0 aNil := ⟨_, pk_nil, sa_nil, fun σ H Q h => ⟨rfl, h⟩⟩
theorem PE.le_of {e : Expr} {te : TE} {m : ME} (h : DE X Y W e m) : ∃ te, PE X e te ∧ SE Y W te m ∧ ∀ σ H (Q Q' : VK), (∀ v H', Q v H' → Q' v H') → te σ H Q → te σ H Q' :=
  ⟨_, h.pe, se_of, fun σ H Q Q' i ⟨μ, env, h, q, x, z, hm, kq, kx⟩ => ⟨μ, env, h, q, x, z, hm, fun v h' k μ' v' H' e r rv => i _ _ (kq v h' k μ' v' H' e r rv), kx⟩⟩
theorem dk_cons {n : Nat} {nm : Option Str} {kpos : Pos} (h : DE X Y W e me) (t : DK X Y W kws n a) : DK X Y W (⟨nm, e, kpos⟩ :: kws) (n + 1) (aCons me a) := by
  obtain ⟨te, a1, a2, a3⟩ := PE.le_of (te := fun _ _ _ => True) h
  obtain ⟨ta, b1, b2, b3⟩ := t
  exact ⟨_, pk_cons a1 b1, sa_cons a2 b2, fun σ H Q h => a3 σ H _ _ (fun v H' q => by
    have := b3 _ _ _ q
    simpa using this) h⟩
/-! ### the rules -/
theorem de_ca (D : DfA X.prog X.w X.K X.mg X.base x k [] (spA Y F)) (hr : Room k X.A) (tk : Takes X W) (hg : Gl X x) (ha : DA X Y W (e :: es) a) (hdb : (x == ("__debug__" : Str)) = false := by decide) (he : starEach (e :: es) X.env = (false, eval e X.env) :: starEach es X.env := by rfl) (hpl : (backTo pos (starEach es X.env)).any (·.1) = false := by rfl) :
    DE X Y W (.Call (.Name x p) (e :: es) [] pos) (eCall F a) := by
  obtain ⟨t, a1, a2⟩ := ha; exact ⟨_, pe_ca D hr tk hg a1 hdb he hpl, se_ca a2⟩
theorem de_ca0 (D : DfA X.prog X.w X.K X.mg X.base x k [] (spA Y F)) (hr : Room k X.A) (tk : Takes X W) (hg : Gl X x) (hdb : (x == ("__debug__" : Str)) = false := by decide) : DE X Y W (.Call (.Name x p) [] [] pos) (eCall F aNil) :=
  ⟨_, pe_ca0 D hr tk hg hdb, se_ca sa_nil⟩
theorem de_caS (D : DfA X.prog X.w X.K X.mg X.base x k [] (spA Y F)) (hr : Room k X.A) (tk : Takes X W) (hg : Gl X x) (ha : DA X Y W (e :: es) a) (hdb : (x == ("__debug__" : Str)) = false := by decide) (he : starEach (e :: es) X.env = (false, eval e X.env) :: starEach es X.env := by rfl) (hst : (backTo pos (starEach es X.env)).any (·.1) = true := by rfl) :
    DE X Y W (.Call (.Name x p) (e :: es) [] pos) (eCall F a) := by
  obtain ⟨t, a1, a2⟩ := ha; exact ⟨_, pe_caS D hr tk hg a1 hdb he hst, se_ca a2⟩
theorem de_caS1 (hK : X.K = Y.K) (D : DfA X.prog X.w X.K X.mg X.base x k [] (spA Y F)) (hr : Room k X.A) (tk : Takes X W) (hg : Gl X x) (h : DE X Y W e me) (hdb : (x == ("__debug__" : Str)) = false := by decide) (hst : starEach [.Starred e spos] X.env = [(true, eval e X.env)] := by rfl) :
    DE X Y W (.Call (.Name x p) [.Starred e spos] [] pos) (eCall F (aStar me aNil)) := by
  obtain ⟨t, a1, a2⟩ := h
  exact ⟨_, hK ▸ pe_caS1 D hr tk hg a1 hdb hst, se_ca (sa_star a2 sa_nil)⟩
theorem de_caK {n : Nat} (D : DfA X.prog X.w X.K X.mg X.base x k ks (spA Y F)) (hr : Room k X.A) (tk : Takes X W) (hg : Gl X x) (ha : DA X Y W (e :: es) a) (hkw : DK X Y W kws n a') (hn : ks.length = n := by rfl) (hall : (backToKw pos (keywordEach kws X.env)).all (·.1.isSome) = true := by rfl) (hks : (backToKw pos (keywordEach kws X.env)).filterMap (·.1) = ks := by rfl)
    (hdb : (x == ("__debug__" : Str)) = false := by decide) (he : starEach (e :: es) X.env = (false, eval e X.env) :: starEach es X.env := by rfl) (hpl : ((backTo pos (starEach (e :: es) X.env)).any (·.1) || (backToKw pos (keywordEach kws X.env)).any (·.1.isNone)) = false := by rfl) :
    DE X Y W (.Call (.Name x p) (e :: es) kws pos) (eCallK F a a') := by
  obtain ⟨t, a1, a2⟩ := ha; obtain ⟨u, b1, b2, b3⟩ := hkw
  subst hn
  exact ⟨_, pe_caK D hr tk hg a1 b1 hall hks hdb he hpl, se_caK a2 b2 b3⟩
theorem de_ma (hK : X.K = Y.K) (D : MdA X.prog X.w Y X.mg X.base c m k [] (spA Y F)) (hr : Room k X.A) (tk : Takes X W) (ho : DE X Y W o mo) (ha : DA X Y W (e :: es) a)
    (hst : starEach (e :: es) X.env = (false, eval e X.env) :: starEach es X.env := by rfl) (hpl : (backTo pos (starEach es X.env)).any (·.1) = false := by rfl)
    (ht : eval (.Call (.Attribute o m apos) (e :: es) [] pos) X.env = (do
      let ov ← eval o X.env
      standAt apos.atName
      let (f, first) ← holding [ov] (getMethod ov m pl)
      callWith pos f first (backTo pos (starEach (e :: es) X.env)) (backToKw pos (keywordEach [] X.env))) := by rfl) : DE X Y W (.Call (.Attribute o m apos) (e :: es) [] pos) (eMeth c m F mo a) := by
  obtain ⟨C, hc, cl, f, F, hm⟩ := D; obtain ⟨t, a1, a2⟩ := ho; obtain ⟨u, b1, b2⟩ := ha
  rw [← hK] at cl F hm
  exact ⟨_, pe_ma cl hm F hr tk a1 b1 hst hpl ht, se_ma hc a2 b2⟩
theorem de_ma0 (hK : X.K = Y.K) (D : MdA X.prog X.w Y X.mg X.base c m k [] (spA Y F)) (hr : Room k X.A) (tk : Takes X W) (ho : DE X Y W o mo)
    (ht : eval (.Call (.Attribute o m apos) [] [] pos) X.env = (do
      let ov ← eval o X.env
      standAt apos.atName
      let (f, first) ← holding [ov] (getMethod ov m pl)
      callWith pos f first (backTo pos (starEach [] X.env)) (backToKw pos (keywordEach [] X.env))) := by rfl) : DE X Y W (.Call (.Attribute o m apos) [] [] pos) (eMeth c m F mo aNil) := by
  obtain ⟨C, hc, cl, f, F, hm⟩ := D; obtain ⟨t, a1, a2⟩ := ho
  rw [← hK] at cl F hm
  exact ⟨_, pe_ma0 cl hm F hr tk a1 ht, se_ma hc a2 sa_nil⟩
theorem de_maK {n : Nat} (hK : X.K = Y.K) (D : MdA X.prog X.w Y X.mg X.base c m k ks (spA Y F)) (hr : Room k X.A) (tk : Takes X W) (ho : DE X Y W o mo) (ha : DA X Y W (e :: es) a) (hkw : DK X Y W kws n a') (hn : ks.length = n := by rfl)
    (hall : (backToKw pos (keywordEach kws X.env)).all (·.1.isSome) = true := by rfl) (hks : (backToKw pos (keywordEach kws X.env)).filterMap (·.1) = ks := by rfl)
    (hst : starEach (e :: es) X.env = (false, eval e X.env) :: starEach es X.env := by rfl) (hpl : ((backTo pos (starEach (e :: es) X.env)).any (·.1) || (backToKw pos (keywordEach kws X.env)).any (·.1.isNone)) = false := by rfl)
    (ht : eval (.Call (.Attribute o m apos) (e :: es) kws pos) X.env = (do
      let ov ← eval o X.env
      standAt apos.atName
      let (f, first) ← holding [ov] (getMethod ov m pl)
      callWith pos f first (backTo pos (starEach (e :: es) X.env)) (backToKw pos (keywordEach kws X.env))) := by rfl) : DE X Y W (.Call (.Attribute o m apos) (e :: es) kws pos) (eMethK c m F mo a a') := by
  obtain ⟨C, hc, cl, f, F, hm⟩ := D; obtain ⟨t, a1, a2⟩ := ho; obtain ⟨u, b1, b2⟩ := ha; obtain ⟨u', c1, c2, c3⟩ := hkw
  rw [← hK] at cl F hm
  subst hn
  exact ⟨_, pe_maK cl hm F hr tk a1 b1 c1 hall hks hst hpl ht, se_maK hc a2 b2 c2 c3⟩
theorem de_na (hK : X.K = Y.K) (D : McA X.prog X.w Y X.mg X.base x c k [] (spA Y F)) (hr : Room (k + 1) X.A) (tk : Takes X W) (hg : Gl X x) (ha : DA X Y W (e :: es) a) (hdb : (x == ("__debug__" : Str)) = false := by decide) (he : starEach (e :: es) X.env = (false, eval e X.env) :: starEach es X.env := by rfl) (hpl : (backTo pos (starEach es X.env)).any (·.1) = false := by rfl) :
    DE X Y W (.Call (.Name x p) (e :: es) [] pos) (eNew c F a) := by
  obtain ⟨C, hc, hm, f, F, M⟩ := D; obtain ⟨t, a1, a2⟩ := ha
  rw [← hK] at F M
  exact ⟨_, pe_na M F hr tk hg hm a1 hdb he hpl, se_na hc a2⟩
theorem de_naF (hK : X.K = Y.K) (D : McA X.prog X.w Y X.mg X.base x c k [] (spA Y F)) (hr : Room (k + 1) X.A) (tk : Takes X W) (hg : Gl X x) (ha : DA X Y W (e :: es) a) (hdb : (x == ("__debug__" : Str)) = false := by decide) (he : starEach (e :: es) X.env = (false, eval e X.env) :: starEach es X.env := by rfl) (hpl : (backTo pos (starEach es X.env)).any (·.1) = false := by rfl) :
    DE X Y W (.Call (.Name x p) (e :: es) [] pos) (eNewF c F a) := by
  obtain ⟨C, hc, hm, f, F, M⟩ := D; obtain ⟨t, a1, a2⟩ := ha
  rw [← hK] at F M
  exact ⟨_, pe_na M F hr tk hg hm a1 hdb he hpl, se_naF hc a2⟩
end
end Sx

end
section
set_option Elab.async false
set_option linter.all false
set_option maxRecDepth 100000
set_option maxHeartbeats 2000000
/-! SXB: texts, zip(*x), isinstance of two, list(range(n)), draws, the law's end -/
namespace Sx
open PySem PySem.Spec PyProof.Rows L2 Cl RZ ZN
def sNever : MS := fun _ _ _ => False
section
variable {X : Cx} {Y : Ky} {W : WX} {to te : TE} {mo me : ME} {o e : Expr} {pos apos p p2 tpos : Pos} {st : Stmt}
theorem ds_never : DS X Y W st sNever := ⟨_, ps_never, fun _ _ _ _ _ _ _ _ z _ => z.elim⟩
/-- s.join(xs) -/
def eJoin (mo me : ME) : ME := fun env h q x => mo env h (fun v h1 => match v with
  | .str a => me env h1 (fun y h2 => ∃ ys : List Str, anyOf h2 y = some (ys.map .str) ∧ (ys.map (·.length)).sum + ys.length * a.length ≤ 16777216 ∧ q (.str (Txt.join a ys)) h2) x
  | _ => False) x
theorem se_join (a : SE Y W to mo) (b : SE Y W te me) : SE Y W (tJoin Y.K to te) (eJoin mo me) := fun μ env h σ H Q q x z hm kq kx =>
  a μ env h σ H _ _ x z hm (fun v h1 k μ1 U H1 e1 r1 v1 => by
    cases v with
    | str w =>
      cases v1
      refine ⟨⟨w, rfl⟩, b μ1 env h1 σ H1 _ _ x (z.go e1 r1) k (fun y h2 ⟨ys, ea, hl, k2⟩ μ2 Uy H2 e2 r2 v2 => ?_) fun e h' k => (kx e h' k).after e1⟩
      obtain ⟨p, vs, rfl, h3, t⟩ := rd_any r2 v2 ea
      obtain rfl := vrs_strs t
      exact ⟨w, p, ys, rfl, rfl, any_or h3, hl, kq _ _ k2 μ2 _ H2 (e1.trans e2) r2 (.str _)⟩
    | _ => exact k.elim) kx
theorem de_join (hK : X.K = Y.K) (ho : DE X Y W o mo) (he : DE X Y W e me) (hs : starEach [e] X.env = [(false, eval e X.env)] := by rfl) (hbase : attributeBase o "join" X.env (eval o X.env) = eval o X.env := by rfl) (hline : (apos.endLine == pos.line) = true := by rfl) :
    DE X Y W (.Call (.Attribute o "join" apos) [e] [] pos) (eJoin mo me) := by
  obtain ⟨to, a1, a2⟩ := ho; obtain ⟨te, b1, b2⟩ := he
  exact ⟨_, kjoin hK a1 b1 hs hbase hline, se_join a2 b2⟩
/-- zip(*x) -/
theorem vr_sq {μ : Mp} {G : Hp} {v : V} {d : Val} {xs : List Val} (r : VR Y μ G v d) (e : sqV d = some xs) : ∃ (c : Src) (ws : List V), v = .ref c.2 ∧ (∀ H', Same G H' → Sq Y.K H' c ws) ∧ VRs Y μ G ws xs := by
  cases r with
  | @lst a vs ds q t => cases e; exact ⟨(true, a), vs, rfl, fun H' s => .inl ⟨rfl, SqL.of (s _ _ q)⟩, t⟩
  | @tup a vs ds q t => cases e; exact ⟨(false, a), vs, rfl, fun H' s => .inr ⟨rfl, sqT_mono s q⟩, t⟩
  | non => cases e
  | bl => cases e
  | int => cases e
  | str => cases e
  | ty => cases e
  | obj => cases e
  | ref => cases e
  | src => cases e
  | cls => cases e
theorem vrs_sqs {μ : Mp} {G : Hp} : ∀ {vs : List V} {ds : List Val}, VRs Y μ G vs ds → (∀ d ∈ ds, ∃ xs, sqV d = some xs) →
    ∃ cs : List Src, vs = cs.map (fun c => .ref c.2) ∧ cs.length = ds.length ∧ ∀ (k : Nat) (c : Src), cs[k]? = some c → ∃ d ws, ds[k]? = some d ∧ (∀ H', Same G H' → Sq Y.K H' c ws) ∧ VRs Y μ G ws ((sqV d).getD [])
  | _, _, .nil, _ => ⟨[], rfl, rfl, fun k c h => by simp at h⟩
  | _, _, .cons x y, hs => by
    obtain ⟨xs, e⟩ := hs _ (List.mem_cons_self ..)
    obtain ⟨c, ws, ev, hc, hd⟩ := vr_sq x e
    obtain ⟨cs, e1, e2, e3⟩ := vrs_sqs y fun d h => hs d (List.mem_cons_of_mem _ h)
    refine ⟨c :: cs, by rw [ev, e1]; rfl, by simp [e2], fun k c' h => ?_⟩
    cases k with
    | zero => cases h; exact ⟨_, ws, rfl, hc, by rw [e]; exact hd⟩
    | succ k => exact e3 k c' h
theorem vrs_get {μ : Mp} {G : Hp} : ∀ {vs : List V} {ds : List Val}, vs.length = ds.length → (∀ (k : Nat) v d, vs[k]? = some v → ds[k]? = some d → VR Y μ G v d) → VRs Y μ G vs ds
  | [], [], _, _ => .nil
  | [], _ :: _, h, _ => by simp at h
  | _ :: _, [], h, _ => by simp at h
  | v :: vs, d :: ds, h, k => .cons (k 0 v d rfl rfl) (vrs_get (by simpa using h) fun j v d a b => k (j + 1) v d a b)
theorem wk_zipS {μ : Mp} {h : Mh} {H : Hp} {cs : List Src} {vs : List V} {ds : List Val} {n : Nat} {al : Mh → Prop} (hn : ∀ d ∈ ds, ∃ xs, sqV d = some xs ∧ xs.length = n) (hne : ds ≠ []) (hcl : cs.length = ds.length)
    (hcs : ∀ (k : Nat) (c : Src), cs[k]? = some c → ∃ d ws, ds[k]? = some d ∧ (∀ H', Same (vis μ H) H' → Sq Y.K H' c ws) ∧ VRs Y μ (vis μ H) ws ((sqV d).getD [])) : Wk Y μ H (ItzN Y.K cs) (colsM ds n) al := by
  have at_ : ∀ {μ2 : Mp} {H2 : Hp}, Le μ μ2 (vis μ H) (vis μ2 H2) → ∀ (k : Nat) c, cs[k]? = some c → ∃ d ws, ds[k]? = some d ∧ Sq Y.K H2 c ws ∧ VRs Y μ2 (vis μ2 H2) ws ((sqV d).getD []) ∧ ws.length = n := fun {μ2 H2} le k c hk => by
    obtain ⟨d, ws, e1, e2, e3⟩ := hcs k c hk
    obtain ⟨xs, q1, q2⟩ := hn d (List.mem_of_getElem? e1)
    refine ⟨d, ws, e1, e2 H2 (le.same.trans hid_le), e3.mono le, ?_⟩
    rw [e3.length, q1]; exact q2
  have hlen : (colsM ds n).length = n := by simp [colsM]
  have cne : cs ≠ [] := fun q => hne (by rw [q] at hcl; exact List.length_eq_zero_iff.mp hcl.symm)
  refine ⟨fun μ2 h2 H2 i le r al hi => ?_, fun μ2 h2 H2 i v H3 le r al y hi => ?_, fun μ2 h2 H2 i le r al hi => ?_⟩
  · rw [hlen] at hi
    refine ⟨cne, fun c hc => ?_⟩
    obtain ⟨j, hj⟩ := List.getElem?_of_mem hc
    obtain ⟨d, ws, _, q, _, ql⟩ := at_ le j c hj
    exact ⟨ws, q, by rw [ql]; exact hi⟩
  · rw [hlen] at hi
    obtain ⟨Tp, ys, ev, hT, eH, hyl, hy⟩ := y
    subst ev; subst eH
    obtain ⟨eT, sT⟩ := new_vis (o := .tup ys) r hT
    refine ⟨.tup (ds.map fun d => ((sqV d).getD []).getD i .non), by simp [colsM, hi], same_new hT, .tup (SqT.of eT) (VRs.sm sT (vrs_get (by rw [hyl, List.length_map, hcl]) fun k v d hv hd => ?_))⟩
    have hk : k < cs.length := by
      have := (List.getElem?_eq_some_iff.mp hv).1
      rw [hyl] at this; exact this
    obtain ⟨d0, ws, q1, q2, q3, q4⟩ := at_ le k _ (List.getElem?_eq_getElem hk)
    have g := hy k _ v (List.getElem?_eq_getElem hk) hv ws q2
    obtain ⟨d1, g1, g2⟩ := q3.get g
    rw [List.getElem?_map, q1] at hd
    cases hd
    have : ((sqV d0).getD []).getD i .non = d1 := by rw [List.getD_eq_getElem?_getD, g1]; rfl
    show VR Y μ2 (vis μ2 H2) v (((sqV d0).getD []).getD i .non)
    rw [this]; exact g2
  · rw [hlen] at hi
    cases hcc : cs with
    | nil => exact absurd hcc cne
    | cons c cs' =>
      obtain ⟨d, ws, _, q, _, ql⟩ := at_ le 0 c (by rw [hcc]; rfl)
      exact ⟨c, cs', rfl, ws, q, by rw [ql]; exact hi⟩
theorem si_zipS (s : SE Y W te me) : SI Y W (ZN.iZipS Y.K te) (iZipS me) := fun μ env h σ H R q x z hm kq kx =>
  s μ env h σ H _ _ x z hm (fun v h1 ⟨ds, n, ev, hne, hl, hn, k⟩ μ1 U H1 e1 r1 v1 => by
    have main : ∀ {a : Addr} {vs : List V}, U = .ref a → (∀ cs : List Src, vs = cs.map (fun c => V.ref c.2) → SqT Y.K H1 a (cs.map fun c => V.ref c.2) ∨ SqL Y.K H1 a (cs.map fun c => V.ref c.2)) → VRs Y μ1 (vis μ1 H1) vs ds →
        ∃ (a : Addr) (cs : List Src), U = .ref a ∧ (SqT Y.K H1 a (cs.map fun c => V.ref c.2) ∨ SqL Y.K H1 a (cs.map fun c => V.ref c.2)) ∧ cs ≠ [] ∧ cs.length ≤ sizeLine ∧ (∀ c ∈ cs, ∃ xs, Sq Y.K H1 c xs) ∧ R (ItzN Y.K cs) H1 := fun {a vs} eU hsq rd => by
      obtain ⟨cs, ecs, hcl, hcs⟩ := vrs_sqs rd fun d hd => let ⟨xs, q, _⟩ := hn d hd; ⟨xs, q⟩
      have cne : cs ≠ [] := fun q => hne (by rw [q] at hcl; exact List.length_eq_zero_iff.mp hcl.symm)
      refine ⟨a, cs, eU, hsq cs ecs, cne, by rw [hcl]; exact Nat.le_trans hl (by decide), fun c hc => ?_, kq _ _ _ k μ1 _ H1 e1 r1 (wk_zipS (h := h1) (vs := vs) hn hne hcl hcs)⟩
      obtain ⟨j, hj⟩ := List.getElem?_of_mem hc
      obtain ⟨d, ws, _, q, _⟩ := hcs j c hj
      exact ⟨ws, q H1 hid_le⟩
    cases v1 with
    | @tup a vs _ q t => cases ev; exact main rfl (fun cs ec => .inl (ec ▸ sqT_mono hid_le q)) t
    | @lst a vs _ q t => cases ev; exact main rfl (fun cs ec => .inr (ec ▸ SqL.of (hid_le _ _ q))) t
    | _ => cases ev) kx
theorem di_zipS {x : Str} (hK : X.K = Y.K) (hg : Gl X "zip") (hm : X.mg "zip" = none) (ha : DE X Y W e me) (hst : starEach [.Starred e p2] X.env = [(true, eval e X.env)] := by rfl) :
    DI X Y W (.Name x tpos) (.Call (.Name "zip" p) [.Starred e p2] [] pos) (iZipS me) := by
  obtain ⟨t, a1, a2⟩ := ha
  exact ⟨_, kpi_zipS hK hg hm a1 hst, si_zipS a2⟩
/-- isinstance(x, (T, T')) -/
theorem kit_any2 {K : PySem.W.Frag} {a b c : String} {r r' : Bool} (h1 : kitB a b = some r) (h2 : kitB a c = some r') : PySem.W.kitAny K (.type a) [.type b, .type c] = some (r || r') := by
  refine kitAny_cons (b := r) (kit_ty h1) (fun e => ?_) fun e => by subst e; rfl
  subst e
  exact kitAny_cons (b := r') (kit_ty h2) (fun e => by subst e; rfl) fun e => by subst e; rfl
theorem se_isi2 {n n' : String} (s : SE Y W te me) : SE Y W (tCB (rIsiT Y.K) (tCons te (tCons (tTup (tCons (tC (.ty n)) (tCons (tC (.ty n')) tNil))) tNil))) (eIsi2 me n n') := fun μ env h σ H Q q x z hm kq kx =>
  s μ env h σ H _ _ x z hm (fun v h1 ⟨t, b, b', e1, e2, e3, k⟩ μ1 U H1 ex r1 v1 => by
    refine ⟨by show 2 ≤ sizeLine; decide, fun p hp => ?_⟩
    have ty : TyX Y.K (upd H1 p (.tup [.ty n, .ty n'])) U (.type t) := rd_ty (r1.same (same_new hp)) (v1.sm (new_vis (o := .tup [.ty n, .ty n']) r1 hp).2) e1
    refine ⟨U, p, _, .type t, [.type n, .type n'], b || b', rfl, upd_same, .cons (.ty n) (.cons (.ty n') .nil), ty, kit_any2 e2 e3, ?_⟩
    exact kq _ _ k μ1 _ _ (ex.trans (.same (same_new hp))) (r1.same (same_new hp)) (.bl _)) kx
theorem de_isi2 {n n' : String} {u1 u2 : Value} {kk : Nat} {x1 x2 : Str} {q1 q2 q3 : Pos} (hK : X.K = Y.K) (hg : Gl X "isinstance") (hm : X.mg "isinstance" = none) (ha : DE X Y W e me)
    (g1 : Gl X x1) (m1 : X.mg x1 = none) (b1 : bootBuiltins x1 = some u1) (r1 : RelV (.ty n) u1) (g2 : Gl X x2) (m2 : X.mg x2 = none) (b2 : bootBuiltins x2 = some u2) (r2 : RelV (.ty n') u2)
    (hv : bootBuiltins "isinstance" = some (.builtin "isinstance") := by decide +kernel) (d1 : (x1 == ("__debug__" : Str)) = false := by decide) (d2 : (x2 == ("__debug__" : Str)) = false := by decide) (n1 : x1 ≠ "__name__" := by decide) (n2 : x2 ≠ "__name__" := by decide)
    (hs : starEach [e, .Tuple [.Name x1 q1, .Name x2 q2] kk q3] X.env = (false, eval e X.env) :: starEach [.Tuple [.Name x1 q1, .Name x2 q2] kk q3] X.env := by rfl) (hs2 : starEach [.Tuple [.Name x1 q1, .Name x2 q2] kk q3] X.env = (false, eval (.Tuple [.Name x1 q1, .Name x2 q2] kk q3) X.env) :: starEach [] X.env := by rfl)
    (hs3 : starEach [.Name x1 q1, .Name x2 q2] X.env = (false, eval (.Name x1 q1) X.env) :: starEach [.Name x2 q2] X.env := by rfl) (hs4 : starEach [.Name x2 q2] X.env = (false, eval (.Name x2 q2) X.env) :: starEach [] X.env := by rfl)
    (hpl : (backTo pos (starEach [.Tuple [.Name x1 q1, .Name x2 q2] kk q3] X.env)).any (·.1) = false := by rfl) :
    DE X Y W (.Call (.Name "isinstance" p) [e, .Tuple [.Name x1 q1, .Name x2 q2] kk q3] [] pos) (eIsi2 me n n') := by
  obtain ⟨t, a1, a2⟩ := ha
  exact ⟨_, pe_callB (kc_isiT hK) hg hm hv (pa_cons a1 (pa_cons (pe_tup (pa_cons (pe_bltn g1 m1 b1 r1 n1 d1) (pa_cons (pe_bltn g2 m2 b2 r2 n2 d2) pa_nil hs4) hs3)) pa_nil hs2) hs) (by decide) (by decide) hs hpl, se_isi2 a2⟩
/-- list(range(n)) -/
def eListRg (m : ME) : ME := fun env h q x => m env h (fun v h1 => match v with
  | .int n => -100000 ≤ n ∧ n ≤ 100000 ∧ q (.lst ((List.range n.toNat).map fun (i : Nat) => .int (i : Int))) h1
  | _ => False) x
theorem vrs_rg {μ : Mp} {G : Hp} (n : Int) : VRs Y μ G (rgV 0 n) ((List.range n.toNat).map fun (i : Nat) => .int (i : Int)) := by
  have e : (n - 0).toNat = n.toNat := by simp
  refine vrs_get (by simp [rgV]) fun k v d hv hd => ?_
  unfold rgV at hv
  rw [e, List.getElem?_map] at hv
  rw [List.getElem?_map] at hd
  cases hr : (List.range n.toNat)[k]? with
  | none => rw [hr] at hv; cases hv
  | some j =>
    rw [hr] at hv hd
    cases hv; cases hd
    have : (0 : Int) + (j : Int) = (j : Int) := by omega
    show VR Y μ G (V.int (0 + (j : Int))) (Val.int (j : Int))
    rw [this]; exact .int _
theorem de_listRg (hc : X.calm = true) (hg : Gl X "list") (hm : X.mg "list" = none) (hg2 : Gl X "range") (hm2 : X.mg "range" = none) (ha : DE X Y W e me) (na : starEach [e] X.env = (false, eval e X.env) :: starEach [] X.env := by rfl)
    (nb : starEach [.Call (.Name "range" p2) [e] [] tpos] X.env = (false, eval (.Call (.Name "range" p2) [e] [] tpos) X.env) :: starEach [] X.env := by rfl) : DE X Y W (.Call (.Name "list" p) [.Call (.Name "range" p2) [e] [] tpos] [] pos) (eListRg me) := by
  obtain ⟨t, a1, a2⟩ := ha
  refine ⟨_, pe_listRg hc hg hm (prg_1 hg2 hm2 a1 na) nb, fun μ env h σ H Q q x z hm kq kx => a2 μ env h σ H _ _ x z hm (fun v h1 k μ1 U H1 e1 r1 v1 => ?_) kx⟩
  cases v with
  | int n =>
    cases v1
    obtain ⟨h1, h2, k⟩ := k
    exact ⟨n, rfl, ⟨by omega, by omega, by omega, by omega, by omega⟩, fun p hp => ((kq _ _ k).after e1).new r1 hp fun e s => .lst e (vrs_rg n)⟩
  | _ => exact k.elim
end
end Sx

end
section
set_option Elab.async false
set_option linter.all false
set_option maxRecDepth 100000
set_option maxHeartbeats 2000000
/-! SXC: keywords and defaults, draws, the law's end -/
namespace Sx
open PySem PySem.Spec PyProof.Rows L2 Cl RZ ZN
section
variable {P : Program} {w : World} {K : PySem.W.Frag} {mg : Str → Option Value} {base : Heap} {k m n : Nat} {f : Addr} {fd : FuncData} {ps ks : List Str} {Y : Ky} {F' : MF}
/-- all parameters: the first by position, the others by keywords in their order -/
theorem fna_kw (F : FnOk P w K mg base (L2.CX P w) k f fd ps (spA Y (ar m F'))) (hb : L2.KBn K fd ps n ks (fun us ws => us ++ ws) (fun vs zs => vs ++ zs)) (hm : n + ks.length = m) : FnA P w K mg base k f ks (spA Y (ar m F')) := by
  rintro A outer s H us ws vs zs Q E hr e0 r rz l ⟨μ, h, xs, q, x, rl, rv, ⟨hl, hf⟩, kq, kx⟩
  have hx := rv.length
  rw [hl, List.length_append] at hx
  have h1 := r.length
  have h2 := rz.length
  exact F.run A outer s H ⟨us, ks.zip ws⟩ (us ++ ws) (vs ++ zs) Q E hr e0 (hb.to s us ws (e0.mod.kin.keeps fun b o e => (e0.bs b o e).1) (by omega) l) (r.append rz) ⟨μ, h, xs, q, x, rl, rv, ⟨hl, hf⟩, kq, kx⟩
/-- the defaults -/
theorem fna_df {dvs : List V} {dM : List Val} (F : FnOk P w K mg base (L2.CX P w) k f fd ps (spA Y (ar m F'))) (hb : ∃ ds, Vals dvs ds ∧ Binds K fd ps ds) (hd : ∀ (μ : Mp) (G : Hp), VRs Y μ G dvs dM) (hp : ps.length = m) :
    FnA P w K mg base k f [] (spA Y fun xs => ar m F' (xs ++ dM)) := by
  obtain ⟨ds, rd, hb⟩ := hb
  rintro A outer s H us ws vs zs Q E hr e0 r rz l ⟨μ, h, xs, q, x, rl, rv, hf, kq, kx⟩
  have : ws = [] := List.length_eq_zero_iff.mp l
  subst this
  cases rz
  rw [List.append_nil] at rv
  have hx := (rv.append (hd μ (vis μ H))).length
  rw [hf.1] at hx
  have r2 := r.append rd
  exact F.run A outer s H ⟨us, []⟩ (us ++ ds) (vs ++ dvs) Q E hr e0 (hb s us (e0.mod.kin.keeps fun b o e => (e0.bs b o e).1) (by rw [← r2.length, hx, hp])) r2 ⟨μ, h, xs ++ dM, q, x, rl, rv.append (hd _ _), hf, kq, kx⟩
end
theorem rm65 {k : Nat} {A : Around} (r : Room k A) : A.units + 65 < cLine := by have := r.un; omega
theorem fun_ofD {K : PySem.W.Frag} {x qual : Str} {st : Stmt} {f : Addr} {fd : FuncData} {kws : List (Str × V)} (F : FunD K x qual (defArgs st) (defBody st) (defScope st) [] kws f fd) : Fun K x qual st f fd := by
  obtain ⟨oc, od, dV, kV, doc, pm, an, cdv, ct, osl, e, lk, hcd, hD, _⟩ := F.ex
  rcases hD with ⟨_, rfl⟩ | ⟨q, _⟩
  · exact ⟨⟨oc, od, kV, doc, pm, an, cdv, ct, osl, e, lk, hcd⟩, F.kp⟩
  · exact absurd rfl q
/-- defs, methods, __init__s as they stand -/
def TmA (Y : Ky) (c m qual : Str) (st : Stmt) : Prop := ∃ C, Y.cm c = some C ∧ Cls Y.K C ∧ ∃ f fd, Fun Y.K m qual st f fd ∧ Meth Y.K C m f
def TmD (Y : Ky) (c m qual : Str) (st : Stmt) (kws : List (Str × V)) : Prop := ∃ C, Y.cm c = some C ∧ Cls Y.K C ∧ ∃ f fd, FunD Y.K m qual (defArgs st) (defBody st) (defScope st) [] kws f fd ∧ Meth Y.K C m f
def TpD (K : PySem.W.Frag) (mg : Str → Option Value) (x : Str) (st : Stmt) (kws : List (Str × V)) : Prop := ∃ f fd, FunD K x x (defArgs st) (defBody st) (defScope st) [] kws f fd ∧ mg x = some (.ref f)
def TcA (Y : Ky) (mg : Str → Option Value) (x c qual : Str) (st : Stmt) : Prop := ∃ C, Y.cm c = some C ∧ mg x = some (.ref C) ∧ ∃ f fd, Fun Y.K "__init__" qual st f fd ∧ Mk Y.K C f
/-! ### draws -/
def fDraw : MF := fun xs h q _ => match xs with
  | [.src, .int n] => 0 < n ∧ n < 1073741824 ∧ ∀ r : Int, 0 ≤ r → r < n → q (.int r) h
  | _ => False
def spDrawV (K : PySem.W.Frag) : Sp := fun vs H Q _ => ∃ (a l : Addr) (n : Int), vs = [.ref a, .int n] ∧ SrcOk H a l ∧ 0 < n ∧ n < 1073741824 ∧
  ∀ (r : Int) (H' : Hp), 0 ≤ r → r < n → (∀ b o, b ≠ a → H b = some o → H' b = some o) → SrcOk H' a l → Q (.int r) H'
theorem sp_draw {Y : Ky} {vs : List V} {H : Hp} {Q : VK} {E : XK} (s : spA Y fDraw vs H Q E) : spDrawV Y.K vs H Q E := by
  obtain ⟨μ, h, xs, q, x, rl, rv, hf, kq, kx⟩ := s
  unfold fDraw at hf
  split at hf
  · rename_i n
    obtain ⟨U, U', rfl, va, vb⟩ := vrs2 rv
    cases vb
    cases va with
    | @src p l es =>
      obtain ⟨h0, h1, k⟩ := hf
      obtain ⟨so, n1, n2⟩ := rl.src p l es
      refine ⟨p, l, n, rfl, so, h0, h1, fun r H' g0 g1 e so' => ?_⟩
      have hm : ∀ {b : Addr}, μ.m b = false → b ≠ p := fun {b} nb eb => by subst eb; rw [(Mp.m_src es).1] at nb; cases nb
      have hp : μ.h p = true := Mp.h_m (Mp.m_src es).1
      have ex : Ext μ μ H H' := ⟨fun _ _ e => e, rfl, rfl, fun _ q => .inl q, fun b o nb eb => e b o (hm nb) eb, fun b nb => by
        by_cases eb : b = p
        · subst eb; exact (SrcOk.ne so').1
        · cases r : H b with
          | none => exact absurd r nb
          | some o => rw [e b o eb r]; exact fun z => (nomatch z), rfl⟩
      have rl' : Rel Y μ h H' := by
        refine ⟨rl.len, rl.nd, fun i a c e1 e2 => ?_, fun p' l' e' => ?_, fun a qa => ?_, rl.tbm, rl.tb.mono ex.vis fun z hz nz => ?_⟩
        rotate_left 3
        · obtain ⟨ps, h1, _⟩ := rl.tb z hz
          rw [h1]
          refine e _ _ (fun eq => ?_) h1
          obtain ⟨_, _, _, _, g1, _, _⟩ := so
          rw [eq, g1] at h1; cases h1
        · have c0 := rl.at_ i a c e1 e2
          refine c0.mono ex.le ?_
          cases r : H a with
          | none => exact absurd r c0.some
          | some o => exact e a o (fun eb => n1 (by rw [← eb]; exact List.mem_of_getElem? e1)) r
        · rw [es] at e'; cases e'
          exact ⟨so', n1, n2⟩
        · exact ⟨ex.there a (rl.ex a qa).1, (rl.ex a qa).2⟩
      exact kq _ _ (k r g0 g1) μ _ H' ex rl' (.int _)
  · exact hf.elim
/-! ### the law -/
def spSrc (K : PySem.W.Frag) : Sp := fun vs H Q _ => ∃ (a : Addr) (ns : List Int), vs = [.ref a] ∧ SqL K H a (ns.map V.int) ∧ ns.length ≤ 63 ∧
  ∀ (p l : Addr) (H' : Hp), Same H H' → H p = none → H l = none → p ≠ l → SrcOk H' p l → Q (.ref p) H'
/-- behind the first row: the source stands in slot 1 -/
theorem law_start {Y : Ky} {X : Cx} {t : TS} {m : MS} {a : Addr} {ns : List Int} {H : Hp} {Q : VK} {E : XK} {W W' : WX} {N : List Str} {k : Nat} (ss : SS Y W t m) (hN : N.length = k + 2) (hS : SqL Y.K H a (ns.map V.int)) (hlen : ns.length ≤ 63) (hT : ∀ z ∈ Y.T, H z.1 = some (.tbl #[])) (q : ∀ H', Q (.bl true) H')
    (law : m (none :: some .src :: List.replicate k none) [] { nx := fun _ _ => False, rt := fun v _ => v = .bl true }) :
    tSeq (tAsg (tCA (spSrc Y.K) W' (tCons (tVar 0) tNil)) (gName 1)) t { nx := fun _ H' => Q .non H', rt := Q } (L2.start N [.ref a]) H := by
  have h0 : (L2.start N [.ref a])[0]? = some (some (V.ref a)) := rfl
  refine ⟨_, h0, a, ns, rfl, hS, hlen, fun p l H1 sm np nl npl so => ?_⟩
  have hl : (L2.start N [.ref a]).length = k + 2 := by simp [L2.start]; omega
  have tb0 : TbOk Y ⟨[], some (p, l), [], Y.T.map (·.1)⟩ H1 := fun z hz => ⟨#[], sm _ _ (hT z hz), True.intro, fun pos cv hc => by
    have hc : codeAmong pos [] = some cv := hc
    simp [codeAmong] at hc⟩
  refine ss ⟨[], some (p, l), [], Y.T.map (·.1)⟩ _ [] _ H1 _ _ ⟨⟨rfl, .nil, fun i a c e => by simp at e, fun p' l' e => ?_, fun a qa => by simp at qa, rfl, tb0⟩, ⟨?_, fun i x e => ?_⟩⟩ law ⟨fun _ _ z => z.elim, fun v h' ev μ' V' H' _ _ rv => ?_, fun _ _ z => z.elim, fun _ _ z => z.elim, fun _ _ _ z => z.elim⟩
  · cases e; exact ⟨so, by simp, by simp⟩
  · rw [List.length_set, hl]; simp
  · match i, e with
    | 0, e => simp at e
    | 1, e =>
      simp at e
      subst e
      refine ⟨.ref p, ?_, .src rfl⟩
      rw [List.getElem?_set_self (by rw [hl]; omega)]
    | i + 2, e =>
      simp only [List.getElem?_cons_succ, List.getElem?_replicate] at e
      split at e <;> cases e
  · subst ev
    cases rv
    exact q H'
theorem law_ok {P : Program} {w : World} {mg : Str → Option Value} {base : Heap} {Y : Ky} {st : Stmt} {f : Addr} {fd : FuncData} {N : List Str} {k n : Nat} {m : MS} (hY : Y.T = []) (F : Fun Y.K "law" "law" st f fd) (S : FnScope N ["_law_script"] (defScope st)) (hN : N.length = n + 2)
    (law : m (none :: some .src :: List.replicate n none) [] { nx := fun _ _ => False, rt := fun v _ => v = .bl true })
    (hb : ∀ (cdv : Value) (A : Around) (outer : List Env) (s : Shared) (H : Hp) (E : XK), Room k (A.deeper (envOfC "law" (defScope st) s.heap.objs.size f cdv)) →
      Takes (cxOf (L2.CX P w) P w Y.K mg base N "law" (defScope st) f cdv A outer s H E) (WO E) → PassesOwn (model P w) (A.deeper (envOfC "law" (defScope st) s.heap.objs.size f cdv)) (envOfC "law" (defScope st) s.heap.objs.size f cdv) (cxOf (L2.CX P w) P w Y.K mg base N "law" (defScope st) f cdv A outer s H E).xe →
      ∃ s0 rest, defBody st = s0 :: rest ∧ PS (cxOf (L2.CX P w) P w Y.K mg base N "law" (defScope st) f cdv A outer s H E) s0 (tAsg (tCA (spSrc Y.K) (WO E) (tCons (tVar 0) tNil)) (gName 1)) ∧ DSs (cxOf (L2.CX P w) P w Y.K mg base N "law" (defScope st) f cdv A outer s H E) Y (WO E) rest m) :
    FnOk P w Y.K mg base (L2.CX P w) (k + 1) f fd ["_law_script"] (spLaw Y.K) := by
  refine F.okX S (fun vs H Q E ⟨a, ns, e, _⟩ => by rw [e]; rfl) fun cdv A outer s H vs Q E hr ⟨a, ns, e, hS, hlen, q⟩ => ?_
  subst e
  obtain ⟨s0, rest, eb, p0, t, a1, a2⟩ := hb cdv A outer s H E hr (takes_of rfl rfl rfl rfl) (passes_of rfl)
  rw [eb]
  exact ⟨_, pss_cons p0 a1, law_start (X := cxOf (L2.CX P w) P w Y.K mg base N "law" (defScope st) f cdv A outer s H E) (E := E) a2 hN hS hlen (by rw [hY]; simp) q law⟩
/-! ### what the top has left -/
theorem fld_nil {Y : Ky} {f : Str} : ∀ c ∈ ([] : List Str), FldOk Y f c := fun c h => by simp at h
theorem fld_cons {Y : Ky} {f c : Str} {cs : List Str} {C : Addr} (hc : Y.cm c = some C) (cl : Cls Y.K C) (na : NoAttr Y.K C f) (r : ∀ c ∈ cs, FldOk Y f c) : ∀ c' ∈ c :: cs, FldOk Y f c' := fun c' h => by
  rcases List.mem_cons.mp h with e | h
  · subst e
    intro C' e'
    rw [hc] at e'
    cases e'
    exact ⟨cl, na⟩
  · exact r c' h
theorem fund_mk {K : PySem.W.Frag} {x qual : Str} {st : Stmt} {f : Addr} {oc : Value} {od an : Option Addr} {osl : Array (Option Value)} {doc pm cdv ct : Value} {D : Addr} {kws : List (Str × V)} (l : K.lookup f = some ⟨oc, od, .func (PySem.W.fnOf x qual (defArgs st) (defBody st) (defScope st) .none (.ref D) doc pm an cdv ct), osl⟩)
    (c : PySem.W.codeIn K cdv qual = true) (k : PySem.W.keepIn K (.ref f) = true) (hk : ∀ q ∈ kws, ∃ u, PySem.W.nsIn K D q.1 = some (some u) ∧ RelV q.2 u) : FunD K x qual (defArgs st) (defBody st) (defScope st) [] kws f (PySem.W.fnOf x qual (defArgs st) (defBody st) (defScope st) .none (.ref D) doc pm an cdv ct) :=
  ⟨⟨oc, od, .none, .ref D, doc, pm, an, cdv, ct, osl, rfl, l, c, .inl ⟨rfl, rfl⟩, .inr ⟨D, rfl, hk⟩⟩, k⟩
theorem cx_none {P : Program} {w : World} {H : Hp} {s : Shared} {e : Value} {s' : Shared} (h : L2.CX P w [] H s (fun _ _ _ => False) e s') : False := by
  obtain ⟨_, _, _, _, _, _, _, _, _, _, _, _, z⟩ := h
  exact z
end Sx

end
section
set_option Elab.async false
set_option linter.all false
set_option maxRecDepth 100000
set_option maxHeartbeats 3200000
/-! SXD: sorted(set(x)) of a list of numbers -/
namespace Sx
open PySem PySem.Spec PyProof.Rows L2 Cl RZ ZN
/-- a set just made -/
abbrev noSet (w : World) : Obj := { cls := .type "set", dict := none, data := .set #[] 0 (.fresh 0 0 (!w.params.followText "set-order")) }
/-- the numbers ns have come to the set that was made behind s -/
def NumsIn (w : World) (s : Shared) (ns : List Int) (s₂ : Shared) : Prop := ∃ (g : Heap) (tk c : Nat), s₂ = { s with heap := g, toks := tk } ∧ SetR w g s.heap.objs.size (fun j => decide (j ∈ ns)) c ∧ c ≤ ns.length ∧ ∀ b o, s.heap.get? b = some o → g.get? b = some o
theorem nums_at {items : Array Value} {ns : List Int} (hi : IntsAre items.toList ns) (i : Nat) (v : Value) (hv : items[i]? = some v) : ∃ k t, ns[i]? = some k ∧ v = .int k t := by
  obtain ⟨t, e⟩ := IntsAre.int_at hi i v (by rw [Array.getElem?_toList]; exact hv)
  have hl : items.size = ns.length := by have := IntsAre.length hi; simpa using this
  have hlt : i < ns.length := hl ▸ (Array.getElem?_eq_some_iff.mp hv).1
  exact ⟨ns[i], t, List.getElem?_eq_getElem hlt, by rw [e, List.getD_eq_getElem?_getD, List.getElem?_eq_getElem hlt] <;> rfl⟩
theorem nodup_le {α : Type} [DecidableEq α] : ∀ {l ks : List α}, l.Nodup → (∀ x ∈ l, x ∈ ks) → l.length ≤ ks.length
  | [], _, _, _ => Nat.zero_le _
  | x :: l, ks, nd, sub => by
    obtain ⟨n1, n2⟩ := List.nodup_cons.mp nd
    have hx := sub x (by simp)
    have := nodup_le (l := l) (ks := ks.erase x) n2 fun y hy => by
      have hne : y ≠ x := fun e => n1 (e ▸ hy)
      exact (List.mem_erase_of_ne hne).mpr (sub y (by simp [hy]))
    rw [List.length_erase_of_mem hx] at this
    have hp := List.length_pos_of_mem hx
    simp only [List.length_cons]
    omega
end Sx

end
section
set_option Elab.async false
set_option linter.all false
set_option maxRecDepth 100000
set_option maxHeartbeats 3200000
/-! SXE: sorted(x) of a list of numbers, of tuples of numbers -/
namespace Sx
open PySem PySem.Spec PyProof.Rows L2 Cl RZ ZN
def sortInts (xs : List Val) (q : List Val → Prop) : Prop := ∃ ns : List Int, xs = ns.map .int ∧ ∀ ns' : List Int, ns'.Perm ns → ns'.Pairwise (· ≤ ·) → q (ns'.map .int)
def sortTups (xs : List Val) (q : List Val → Prop) : Prop := ∃ (nss : List (List Int)) (d : Nat) (B : Int), xs = nss.map (fun ns => .tup (ns.map .int)) ∧ 1 ≤ d ∧ (∀ ns ∈ nss, ns.length = d ∧ TS.Bd B ns) ∧
  ∀ nss' : List (List Int), nss'.Perm nss → nss'.Pairwise (fun a b => TS.code B a ≤ TS.code B b) → q (nss'.map (fun ns => .tup (ns.map .int)))
def fSort : MC := f1 fun v h q => ∃ xs, lstOf h v = some xs ∧ xs.length < 64 ∧ (sortInts xs (fun ys => q (.lst ys) h) ∨ sortTups xs (fun ys => q (.lst ys) h))
/-- .. as a cell -/
def fSortC : MC := f1 fun v h q => ∃ xs, lstOf h v = some xs ∧ xs.length < 64 ∧ (sortInts xs (fun ys => q (.ref h.length) (h ++ [.lst ys])) ∨ sortTups xs (fun ys => q (.ref h.length) (h ++ [.lst ys])))
def rSort (K : PySem.W.Frag) : List V → Hp → VK → Prop := fun vs H Q => rSorted K vs H Q ∨ ∃ (d : Nat) (B : Int), 1 ≤ d ∧ rSortU K d B vs H Q
section
variable {X : Cx} {Y : Ky}
theorem cr_sort : CallR X (.builtin "sorted") (rSort X.K) := by
  intro pins s σ H vs us Q I r h
  rcases h with h | ⟨d, B, hd, h⟩
  · exact cr_sorted pins s σ H vs us Q I r h
  · exact cr_sortT hd pins s σ H vs us Q I r h
theorem kc_sort (hK : X.K = Y.K) : CallR X (.builtin "sorted") (rSort Y.K) := hK ▸ cr_sort
theorem vrs_perm {μ : Mp} {G : Hp} {α : Type} {f : α → Val} {ys vs : List V} (p : ys.Perm vs) : ∀ {as : List α}, VRs Y μ G vs (as.map f) → ∃ as' : List α, as'.Perm as ∧ VRs Y μ G ys (as'.map f) := by
  induction p with
  | nil => intro as r; cases as with
    | nil => exact ⟨[], .refl _, .nil⟩
    | cons a as => cases r
  | cons x _ ih => intro as r; cases as with
    | nil => cases r
    | cons a as =>
      cases r with
      | cons r1 r2 =>
        obtain ⟨as', q, r'⟩ := ih r2
        exact ⟨a :: as', q.cons a, .cons r1 r'⟩
  | swap x y l => intro as r; cases as with
    | nil => cases r
    | cons a as => cases as with
      | nil => cases r with | cons _ r => cases r
      | cons b as =>
        cases r with
        | cons r1 r => cases r with
          | cons r2 r3 => exact ⟨b :: a :: as, .swap .., .cons r2 (.cons r1 r3)⟩
  | trans _ _ ih1 ih2 => intro as r; obtain ⟨as1, q1, r1⟩ := ih2 r; obtain ⟨as2, q2, r2⟩ := ih1 r1; exact ⟨as2, q2.trans q1, r2⟩
theorem vr_tupI {μ : Mp} {G H : Hp} {v : V} {ns : List Int} (s : Same G H) (r : VR Y μ G v (.tup (ns.map .int))) : TupI Y.K H v ns := by
  cases r with
  | tup a t =>
    obtain rfl := vrs_ints t
    exact ⟨_, rfl, sqT_mono s a⟩
theorem vrs_mem {μ : Mp} {G : Hp} {α : Type} {f : α → Val} : ∀ {vs : List V} {as : List α}, VRs Y μ G vs (as.map f) → ∀ v ∈ vs, ∃ a ∈ as, VR Y μ G v (f a)
  | _, [], .nil, v, h => by simp at h
  | _, a :: as, .cons r t, v, h => by
    rcases List.mem_cons.mp h with e | h
    · subst e; exact ⟨a, by simp, r⟩
    · obtain ⟨b, hb, q⟩ := vrs_mem t v h
      exact ⟨b, by simp [hb], q⟩
theorem vrs_pw {μ : Mp} {G : Hp} {α : Type} {f : α → Val} {R : V → V → Prop} {S : α → α → Prop} (hRS : ∀ x y a b, VR Y μ G x (f a) → VR Y μ G y (f b) → R x y → S a b) : ∀ {vs : List V} {as : List α}, VRs Y μ G vs (as.map f) → vs.Pairwise R → as.Pairwise S
  | _, [], .nil, _ => .nil
  | _, a :: as, .cons r t, h => by
    obtain ⟨h1, h2⟩ := List.pairwise_cons.mp h
    refine List.pairwise_cons.mpr ⟨fun b hb => ?_, vrs_pw hRS t h2⟩
    obtain ⟨i, hi, e⟩ := List.getElem_of_mem hb
    obtain ⟨v, e1, e2⟩ := t.got (i := i) (x := f b) (by rw [List.getElem?_map, List.getElem?_eq_getElem hi, e]; rfl)
    exact hRS _ _ _ _ r e2 (h1 v (List.mem_of_getElem? e1))
theorem same_vis {μ : Mp} {H : Hp} : Same (vis μ H) H := fun b o e => by
  unfold vis hid at e
  split at e
  · cases e
  · exact e
theorem sc_sort {μ : Mp} {h : Mh} {H : Hp} {U : V} {u : Val} {Q : VK} (r : Rel Y μ h H) (a : VR Y μ (vis μ H) U u) {xs : List Val} (e : lstOf h u = some xs) (h64 : xs.length < 64) {q : List Val → Prop}
    (hq : sortInts xs q ∨ sortTups xs q) (k : ∀ ys p vs, q ys → H p = none → VRs Y μ (vis μ H) vs ys → Q (.ref p) (upd H p (.lst vs))) : rSort Y.K [U] H Q := by
  obtain ⟨p, vs, rfl, h1, t1⟩ := rd_lst r a e
  have hl := t1.length
  rcases hq with ⟨ns, rfl, hq⟩ | ⟨nss, d, B, rfl, hd, hb, hq⟩
  · obtain rfl := vrs_ints t1
    refine .inl ⟨p, ns, rfl, SqL.of h1, by simpa using h64, fun ns' p' hp hs hn => k _ p' _ (hq ns' hp hs) hn ?_⟩
    exact vrs_get (by simp) fun i v d hv hd => by
      rw [List.getElem?_map] at hv hd
      cases hr : ns'[i]? with
      | none => rw [hr] at hv; cases hv
      | some j => rw [hr] at hv hd; cases hv; cases hd; exact .int _
  · refine .inr ⟨d, B, hd, p, vs, rfl, SqL.of h1, by rw [hl]; exact h64, fun x hx => ?_, fun ys p' hp hs hn => ?_⟩
    · obtain ⟨ns, hn, rn⟩ := vrs_mem t1 x hx
      exact ⟨ns, vr_tupI same_vis rn, hb ns hn⟩
    · obtain ⟨nss', hp', r'⟩ := vrs_perm hp t1
      exact k _ p' ys (hq nss' hp' (vrs_pw (fun x y a b ra rb hxy => hxy _ _ (vr_tupI same_vis ra) (vr_tupI same_vis rb)) r' hs)) hn r'
theorem cd_sort (hK : X.K = Y.K) : CaD X Y (.builtin "sorted") fSort := ⟨_, kc_sort hK, sc_f1 fun μ h H U u Q q r a ⟨xs, e, h64, hq⟩ kq =>
  sc_sort r a e h64 hq fun ys p vs k hn t => (kq _ _ k).new r hn fun e s => .lst e (t.sm s)⟩
theorem cd_sortC (hK : X.K = Y.K) : CaD X Y (.builtin "sorted") fSortC := ⟨_, kc_sort hK, sc_f1 fun μ h H U u Q q r a ⟨xs, e, h64, hq⟩ kq =>
  sc_sort r a e h64 hq fun ys p vs k hn t => Kq.cell (c := .lst ys) r hn (kq _ _ k) fun l => .lst upd_same (t.mono l)⟩
end
end Sx

end
section
set_option Elab.async false
set_option linter.all false
set_option maxRecDepth 100000
set_option maxHeartbeats 3200000
/-! SXF: sets of texts (of any scannable kind): made, added to, sorted -/
namespace Sx
open PySem PySem.Spec PyProof.Rows L2 Cl RZ ZN
theorem paired_perm {α β : Type} {R : α → β → Prop} {as bs : List α} (p : as.Perm bs) : ∀ {ks : List β}, Paired R bs ks → ∃ js : List β, js.Perm ks ∧ Paired R as js := by
  induction p with
  | nil => intro ks r; exact ⟨ks, .refl _, r⟩
  | cons x _ ih => intro ks r; cases r with
    | cons a b => obtain ⟨js, q, r'⟩ := ih b; exact ⟨_ :: js, q.cons _, .cons a r'⟩
  | swap x y l => intro ks r; cases r with
    | cons a b => cases b with
      | cons c d => exact ⟨_, .swap .., .cons c (.cons a d)⟩
  | trans _ _ ih1 ih2 => intro ks r; obtain ⟨j1, q1, r1⟩ := ih2 r; obtain ⟨j2, q2, r2⟩ := ih1 r1; exact ⟨j2, q2.trans q1, r2⟩
theorem paired_len {α β : Type} {R : α → β → Prop} : ∀ {as : List α} {bs : List β}, Paired R as bs → as.length = bs.length
  | _, _, .nil => rfl
  | _, _, .cons _ t => by simp [paired_len t]
theorem paired_l {α β : Type} {R : α → β → Prop} : ∀ {as : List α} {bs : List β}, Paired R as bs → ∀ a ∈ as, ∃ b ∈ bs, R a b
  | _, _, .nil, a, h => by simp at h
  | _, _, .cons r t, a, h => by
    rcases List.mem_cons.mp h with e | h
    · subst e; exact ⟨_, by simp, r⟩
    · obtain ⟨b, h1, h2⟩ := paired_l t a h; exact ⟨b, by simp [h1], h2⟩
theorem paired_r {α β : Type} {R : α → β → Prop} : ∀ {as : List α} {bs : List β}, Paired R as bs → ∀ b ∈ bs, ∃ a ∈ as, R a b
  | _, _, .nil, b, h => by simp at h
  | _, _, .cons r t, b, h => by
    rcases List.mem_cons.mp h with e | h
    · subst e; exact ⟨_, by simp, r⟩
    · obtain ⟨a, h1, h2⟩ := paired_r t b h; exact ⟨a, by simp [h1], h2⟩
section
variable {P : Program} {w : World} {K : Type} [DecidableEq K] {knd : KeyKind P w K}
/-- an entry that stands for k -/
def EntK (knd : KeyKind P w K) (e : Int × Value) (k : K) : Prop := (knd.is k e.2 = true ∧ e.1 = knd.hash k) ∧ e.2.scannable = true
/-- at a: a set of just the keys ks -/
def SetG (knd : KeyKind P w K) (h : Heap) (a : Addr) (ks : List K) : Prop := ∃ o es ep t, h.get? a = some o ∧ o.ExactSet ∧ o.data = .set es ep t ∧ Paired (EntK knd) es.toList ks ∧ ks.Nodup ∧ ks.length < scanBound ∧ t.fits es.size = true ∧ Ris t.place.toList ∧ (w.params.followText "set-order" = true ∨ t.led = true)
theorem SetG.at {h h' : Heap} {a : Addr} {ks : List K} (x : SetG knd h a ks) (k : ∀ o, h.get? a = some o → h'.get? a = some o) : SetG knd h' a ks := by
  obtain ⟨o, es, ep, t, e, r⟩ := x; exact ⟨o, es, ep, t, k o e, r⟩
theorem ent_elems {es : List (Int × Value)} {ks : List K} (p : Paired (EntK knd) es ks) : ElemsOf knd es := fun e he => let ⟨k, _, h⟩ := paired_l p e he; ⟨⟨k, h.1⟩, h.2⟩
theorem ent_none {es : List (Int × Value)} {ks : List K} {k : K} (p : Paired (EntK knd) es ks) (h : es.findIdx? (fun e => knd.is k e.2) = none) : k ∉ ks := fun hk => by
  obtain ⟨e, he, q⟩ := paired_r p k hk
  have := List.findIdx?_eq_none_iff.mp h e he; rw [q.1.1] at this; cases this
theorem ent_some {es : List (Int × Value)} {ks : List K} {k : K} {j : Nat} (p : Paired (EntK knd) es ks) (h : es.findIdx? (fun e => knd.is k e.2) = some j) : k ∈ ks := by
  obtain ⟨hj, pj, _⟩ := List.findIdx?_eq_some_iff_getElem.mp h
  obtain ⟨k', hk, q⟩ := paired_l p _ (List.getElem_mem hj)
  rw [knd.inj _ _ _ pj q.1.1]; exact hk
section
variable {A : Around} {E : Value → Shared → Prop} {s : Shared} {a : Addr} {ks : List K}
/-- what is stored behind an addition -/
theorem addG_end {g : Bool → Sem Unit} (quiet : ∀ (b : Bool) (z : Shared) (W : Unit → Shared → Prop), W () z → wpAny (model P w) A (g b) W E z) {o : Obj} {es new : Array (Int × Value)} {ep : Nat} {t t2 : SetTable} {js : List K} (ho : s.heap.get? a = some o) (ex : o.ExactSet) (hd : o.data = .set es ep t)
    (pj : Paired (EntK knd) new.toList js) (nd : js.Nodup) (sz : js.length < scanBound) (ft : t2.fits new.size = true) (rs : Ris t2.place.toList) (ld : w.params.followText "set-order" = true ∨ t2.led = true) {dm : Bool} {W : Option Bool → Shared → Prop}
    (fin : ∀ h' js', Heap.SameBut a s.heap h' → SetG knd h' a js' → js'.Perm js → W (some true) { s with heap := h' }) :
    wpAny (model P w) A (storeSet a new t2 >>= fun _ => if (!dm && t2.tooFull) = true then (g (relayAll t2 new (SetTable.grown new.size)).2.2 >>= fun _ => storeSet a (relayAll t2 new (SetTable.grown new.size)).1 (relayAll t2 new (SetTable.grown new.size)).2.1 >>= fun _ => pure (some true)) else pure (some true)) W E s := by
  have nl : new.size = js.length := by rw [← Array.length_toList]; exact paired_len pj
  refine wpAny_bind (wpAny_storeSet_of ho hd ?_ (fits_of_scanBound (by rw [nl]; exact sz)))
  have o1 := L2.store_at (es' := new) (t' := t2) ho hd
  have s1 := Heap.SameBut.update s.heap a (Obj.putSet new t2)
  split
  · have pm := relayAll_perm t2 new (SetTable.grown new.size); have f3 := relayAll_fits t2 new (SetTable.grown new.size); have r3 := relayAll_ris t2 new (SetTable.grown new.size); have l3 := relayAll_led t2 new (SetTable.grown new.size)
    generalize relayAll t2 new (SetTable.grown new.size) = Z at pm f3 r3 l3 ⊢
    obtain ⟨es2, t3, gave⟩ := Z
    dsimp only at pm f3 r3 l3 ⊢
    obtain ⟨js2, q2, p2⟩ := paired_perm pm pj
    have nl2 : es2.size = js2.length := by rw [← Array.length_toList]; exact paired_len p2
    have b2 : js2.length < scanBound := by rw [q2.length_eq]; exact sz
    refine wpAny_bind (quiet _ _ _ (wpAny_bind (wpAny_storeSet_of o1 rfl ?_ (fits_of_scanBound (by rw [nl2]; exact b2)))))
    have o2 := L2.store_at (es' := es2) (t' := t3) o1 rfl
    exact wpAny_pure (fin _ js2 (s1.trans (Heap.SameBut.update _ a _)) ⟨_, es2, _, t3, o2, ex, rfl, p2, q2.nodup_iff.mpr nd, b2, f3, r3, ld.imp id fun z => by rw [l3]; exact z⟩ q2)
  · exact wpAny_pure (fin _ js s1 ⟨_, new, _, t2, o1, ex, rfl, pj, nd, sz, ft, rs, ld⟩ (.refl _))
theorem addG {k : K} {x : Value} {W : Bool → Shared → Prop} (hk : knd.is k x = true) (hx : x.scannable = true) (R : SetG knd s.heap a ks) (room : ks.length + 1 < scanBound)
    (fin : ∀ h' js, Heap.SameBut a s.heap h' → SetG knd h' a js → (∀ j, j ∈ js ↔ j ∈ ks ∨ j = k) → js.length ≤ ks.length + 1 → W (!decide (k ∈ ks)) { s with heap := h' }) : wpAny (model P w) A (setAddHashed a x (knd.hash k)) W E s := by
  obtain ⟨o, es, ep, t, ho, ex, hd, p, nd, sz, ft, rs, ld⟩ := R
  have nl : es.size = ks.length := by rw [← Array.length_toList]; exact paired_len p
  have el := ent_elems p
  unfold setAddHashed setAddHashedIn; refine wpAny_holding (wpAny_bind (wpAny_setState_of ho hd ft ?_)); dsimp only
  rw [byScan_of hx (by rw [nl]; exact sz) el]; simp only [↓reduceIte]; unfold setAddByScan
  refine wpAny_bind (wpAny_bind (wpAny_rule (wpAny_bind (wpAny_setScan_of hk ho hd ft el ?_))))
  cases hf : List.findIdx? (fun e => knd.is k e.2) es.toList with
  | some j =>
    have hin := ent_some p hf
    have q := fin s.heap ks (Heap.SameBut.refl a s.heap) ⟨o, es, ep, t, ho, ex, hd, p, nd, sz, ft, rs, ld⟩ (fun i => ⟨.inl, fun z => z.elim id fun e => e ▸ hin⟩) (Nat.le_succ _)
    rw [decide_eq_true hin] at q
    exact wpAny_pure (wpAny_pure q)
  | none =>
    have hno := ent_none p hf
    dsimp only
    have pm := layNew_perm t es (knd.hash k) x; have f1 := layNew_fits t es (knd.hash k) x; have r1 := layNew_ris t es (knd.hash k) x rs; have l1 := layNew_led t es (knd.hash k) x
    generalize layNew t es (knd.hash k) x = Z at pm f1 r1 l1 ⊢
    obtain ⟨es1, t1, dm, gave⟩ := Z
    dsimp only at pm f1 r1 l1 ⊢
    rw [Array.toList_push] at pm
    obtain ⟨js, pj, rj⟩ := paired_perm pm (p.snoc (show EntK knd (knd.hash k, x) k from ⟨⟨hk, rfl⟩, hx⟩))
    have pc := pj.trans (List.perm_append_singleton k ks)
    have ndj : js.Nodup := pc.nodup_iff.mpr (List.nodup_cons.mpr ⟨hno, nd⟩)
    have szj : js.length = ks.length + 1 := by rw [pc.length_eq, List.length_cons]
    have ldj : w.params.followText "set-order" = true ∨ t1.led = true := ld.imp id fun z => by rw [l1]; exact z
    have last : ∀ h' js', Heap.SameBut a s.heap h' → SetG knd h' a js' → js'.Perm js → W true { s with heap := h' } := fun h' js' sb r pp => by
      have q := fin h' js' sb r (fun i => by rw [pp.mem_iff, pc.mem_iff, List.mem_cons]; exact Or.comm) (by rw [pp.length_eq, szj]; exact Nat.le_refl _)
      rw [decide_eq_false hno] at q; exact q
    have quiet : ∀ (b : Bool) (z : Shared) (Y : Unit → Shared → Prop), Y () z → wpAny (model P w) A (match b with | true => rule "set.scan.the-table-gave-way" | false => pure ()) Y E z := fun b z Y q => by cases b <;> first | exact wpAny_pure q | exact wpAny_rule q
    refine wpAny_bind (quiet _ _ _ ?_)
    split
    · refine wpAny_bind ?_
      rw [hashByValue_scannable 8 hx]
      refine wpAny_pure ?_
      refine addG_end (fun b z Y q => by cases b <;> first | exact wpAny_pure q | exact wpAny_rule q) ho ex hd rj ndj (by rw [szj]; exact room) ?_ ?_ ?_ ?_
      · first | (split <;> first | exact f1 | exact SetTable.fits_plain_off f1) | exact f1
      · first | (split <;> exact r1) | exact r1
      · first | (split <;> exact ldj) | exact ldj
      · intro h' js' sb r pp; dsimp only; exact wpAny_pure (last h' js' sb r pp)
    · refine wpAny_bind (wpAny_pure ?_)
      simp only [↓reduceIte]
      refine addG_end (fun b z Y q => by cases b <;> first | exact wpAny_pure q | exact wpAny_rule q) ho ex hd rj ndj (by rw [szj]; exact room) f1 r1 ldj ?_
      intro h' js' sb r pp; dsimp only; exact wpAny_pure (last h' js' sb r pp)
/-- set.add by its hash -/
theorem setAddG {k : K} {x : Value} {W : Bool → Shared → Prop} (hk : knd.is k x = true) (hx : x.scannable = true) (R : SetG knd s.heap a ks) (room : ks.length + 1 < scanBound)
    (fin : ∀ h' js, Heap.SameBut a s.heap h' → SetG knd h' a js → (∀ j, j ∈ js ↔ j ∈ ks ∨ j = k) → js.length ≤ ks.length + 1 → W (!decide (k ∈ ks)) { s with heap := h', toks := s.toks + 1 }) : wpAny (model P w) A (setAdd a x) W E s := by
  unfold setAdd
  exact wpAny_holding (wpAny_bind (knd.pyHash hk (addG (s := { s with toks := s.toks + 1 }) hk hx R room fin)))
theorem setG_none {h : Heap} (ho : h.get? a = some (noSet w)) : SetG knd h a [] :=
  ⟨_, #[], 0, _, ho, ⟨rfl, rfl, rfl⟩, rfl, .nil, by simp, (show 0 < scanBound by decide), by rfl, List.Pairwise.nil, by
    show _ ∨ (!w.params.followText "set-order") = true
    cases w.params.followText "set-order" <;> simp⟩
/-- the turns of set.update -/
theorem update_turns {I : Addr} {fp wr : List Addr} {G : Array GenState → Array GenState → Prop} {n : Nat} {Pv : Nat → Value → Prop} {St : Nat → Shared → Prop} {R : Result → Shared → Prop} (W : WalksS P w A.in1 I fp wr G n Pv St) (S : Addr) (nf : S ∉ fp) (xs : List K) (hn : n = xs.length) (hb : xs.length + 1 < scanBound)
    (hv : ∀ i v, Pv i v → ∃ k, xs[i]? = some k ∧ knd.is k v = true ∧ v.scannable = true) : ∀ (m i : Nat) (z : Shared), n - i = m → i ≤ n → St i z → (∃ js, SetG knd z.heap S js ∧ js.length ≤ i ∧ ∀ j, j ∈ js ↔ j ∈ xs.take i) →
      (∀ z' js, Moved (S :: wr) G z z' → SetG knd z'.heap S js → js.length ≤ n → (∀ j, j ∈ js ↔ j ∈ xs) → R (.ok (.ret .none)) z') → codeAny (model P w) A (.builtin "set.update.loop" ⟨[.ref S, .ref I], []⟩) R z := by
  have nw : S ∉ wr := fun h => nf (W.sub _ h)
  have up : ∀ b ∈ wr, b ∈ S :: wr := fun b h => List.mem_cons_of_mem _ h
  intro m
  induction m with
  | zero =>
    rintro i z hm hi st ⟨js, hS, hl, hj⟩ fin
    obtain rfl : i = n := by omega
    refine codeAny_builtin F.entry_set_update_loop ?_; rw [Around.under_plainId F.plain_set_update_loop _]
    show wpAny _ A.in1 (pyNext (.ref I) >>= _) _ _ z
    refine wpAny_bind (W.done z _ _ st fun z' mv => ?_)
    rw [List.take_of_length_le (by omega)] at hj
    exact wpAny_pure (fin z' js (mv.mono up) (hS.at fun o e => mv.heap S o nw e) hl hj)
  | succ m ih =>
    rintro i z hm hi st ⟨js, hS, hl, hj⟩ fin
    have lt : i < n := by omega
    refine codeAny_builtin F.entry_set_update_loop ?_; rw [Around.under_plainId F.plain_set_update_loop _]
    show wpAny _ A.in1 (pyNext (.ref I) >>= _) _ _ z
    refine wpAny_bind (W.item i z _ _ lt st fun v z' hP st' mv => ?_)
    obtain ⟨k, ek, hk, hx⟩ := hv i v hP
    have hS' := hS.at fun o e => mv.heap S o nw e
    show wpAny _ A.in1 (holding [v] (setAdd S v) >>= _) _ _ z'
    refine wpAny_bind (wpAny_holding (setAddG hk hx hS' (by omega) fun h' js' sb hS2 hj2 hl2 => ?_))
    refine wpAny_pure ⟨plainId_quiet F.plain_set_update_loop _, ih (i + 1) _ (by omega) lt (W.frame _ z' _ _ st' (Nat.le_succ _) fun b hb o e => ?_) ⟨js', hS2, by omega, fun j => ?_⟩ fun z2 js2 mv2 hS3 hl3 hj3 => ?_⟩
    · rw [sb.2 b fun e => nf (e ▸ hb)]; exact e
    · rw [hj2, hj, List.take_add_one, ek]; simp
    · refine fin z2 js2 (Moved.trans W.gtrans ((mv.mono up).then_heap (Nat.le_succ _) fun b o hb e => ?_) mv2) hS3 hl3 hj3
      rw [sb.2 b fun e' => hb (by rw [e']; exact List.mem_cons_self)]; exact e
end
end
end Sx

end
section
set_option Elab.async false
set_option linter.all false
set_option maxRecDepth 100000
set_option maxHeartbeats 3200000
/-! SXG: set(x) of numbers and texts; sorted(set) -/
namespace Sx
open PySem PySem.Spec PyProof.Rows L2 Cl RZ ZN
/-- the keys ks have come to the set that was made behind s -/
def KeysIn (P : Program) (w : World) (s : Shared) (ks : List L2.Key) (s₂ : Shared) : Prop := ∃ (g : Heap) (tk : Nat) (js : List L2.Key), s₂ = { s with heap := g, toks := tk } ∧ SetG (mixKind P w) g s.heap.objs.size js ∧ (∀ j, j ∈ js ↔ j ∈ ks) ∧ ∀ b o, s.heap.get? b = some o → g.get? b = some o
/-- these values are these keys -/
def KeysAre (P : Program) (w : World) (vs : List Value) (ks : List L2.Key) : Prop := Paired (fun v k => (mixKind P w).is k v = true) vs ks
theorem key_scan {P : Program} {w : World} {k : L2.Key} {v : Value} (h : (mixKind P w).is k v = true) : v.scannable = true := by
  rcases keyIs_shape h with ⟨i, t, _, rfl⟩ | ⟨x, t, _, rfl⟩ <;> rfl
theorem keys_at {P : Program} {w : World} {items : Array Value} {ks : List L2.Key} (hi : KeysAre P w items.toList ks) (i : Nat) (v : Value) (hv : items[i]? = some v) : ∃ k, ks[i]? = some k ∧ (mixKind P w).is k v = true ∧ v.scannable = true := by
  have go : ∀ {vs : List Value} {ks : List L2.Key} {i : Nat}, KeysAre P w vs ks → vs[i]? = some v → ∃ k, ks[i]? = some k ∧ (mixKind P w).is k v = true := by
    intro vs ks i h
    induction h generalizing i with
    | nil => intro e; simp at e
    | cons a b ih =>
      intro e
      cases i with
      | zero => simp at e; subst e; exact ⟨_, rfl, a⟩
      | succ i => obtain ⟨k, h1, h2⟩ := ih (i := i) (by simpa using e); exact ⟨k, by simpa using h1, h2⟩
  obtain ⟨k, h1, h2⟩ := go hi (show items.toList[i]? = some v by rw [Array.getElem?_toList]; exact hv)
  exact ⟨k, h1, h2, key_scan h2⟩
theorem nodup_of_map {α β : Type} {f : α → β} : ∀ {l : List α}, (l.map f).Nodup → l.Nodup
  | [], _ => .nil
  | a :: l, h => by
    obtain ⟨h1, h2⟩ := List.nodup_cons.mp h
    exact List.nodup_cons.mpr ⟨fun z => h1 (List.mem_map.mpr ⟨a, z, rfl⟩), nodup_of_map h2⟩
section
variable {P : Program} {w : World} {A : Around} {E : Value → Shared → Prop} {s : Shared}
theorem call_set_keysL {l : Addr} {items : Array Value} {ks : List L2.Key} {Q : Value → Shared → Prop} (hh : A.handled = none) (hl : s.heap.IsList l items) (hi : KeysAre P w items.toList ks) (hb : ks.length + 1 < scanBound)
    (done : ∀ s₂, KeysIn P w s ks s₂ → Q (.ref s.heap.objs.size) s₂) : wpAny (model P w) A (call (.type "set") [.ref l]) Q E s := by
  have size : items.size = ks.length := by have := paired_len hi; simpa using this
  have f1 := F.called_set.mro
  obtain ⟨_, _, f1⟩ := f1
  have f2 := F.called_set.made
  have f3 := F.called_set.sub
  have f4 := F.called_set.notType
  have f5 := F.called_set.canCreate
  have f6 := F.typeCall_set_1 (.ref l)
  have f7 := F.called_set.init.lookup
  have f8 := F.called_set.init.bind (.ref s.heap.objs.size)
  refine wpAny_call (codeAny_of_tree (wpAny_pure ⟨Code.quiet_builtin _ (by decide +kernel), codeAny_builtin F.entry_type_call ?_⟩))
  rw [Around.under_plain (weight_type_call_type "set" [.ref l] []) rfl]
  repeat (any_goals (first | assumption | wp_step))
  have isS : (s.heap.push (noSet w)).get? s.heap.objs.size = some (noSet w) := Heap.get?_push_size _ rfl
  refine codeAny_mono (code_set_led1 (.ref l) (E := E) (Q₁ := fun v s₁ => v = .ref s.heap.objs.size ∧ s₁ = { s with heap := s.heap.push (noSet w) }) ⟨rfl, rfl⟩) ?_
  intro r s₁ hr
  match r, hr with
  | .ok (.ret _), ⟨e1, e2⟩ =>
    subst e1; subst e2
    have ty : Shared.TypeIs { s with heap := s.heap.push (noSet w) } (.ref s.heap.objs.size) "set" := ⟨_, isS, rfl⟩
    repeat (any_goals (first | assumption | wp_step))
    refine codeAny_mono (codeAny_call_builtin (R := wants (fun v s₂ => v = .none ∧ KeysIn P w s ks s₂) E) F.called_set.init.plain F.entry_set_init (check_set_init_1 ty ?_)) ?_
    · obtain ⟨⟨_, _, _, _⟩, ho, hc, k, hd⟩ := hl
      dsimp only at hc hd
      subst hc hd
      have old := Heap.lt_size ho
      have isL : (s.heap.push (noSet w)).IsList l items := ⟨_, Heap.get?_push_of_some _ ho, rfl, k, rfl⟩
      have g1 := Heap.get?_push_of_some (noSet w) ho
      have g2 := F.sub_list_set
      have g3 := F.sub_list_frozenset
      have g4 : (Value.type "list" == Value.type "dict") = false := by decide
      unfold Builtin.«set.__init__» noKeywords Builtin.Frozenset.updateFrom
      generalize e : pyIter = it
      wp_walk
      subst e
      refine wpAny_pyIter_list isL (wpAny_bind (wpAny_runValue ?_))
      have sz : (s.heap.push (noSet w)).objs.size = s.heap.objs.size + 1 := Heap.size_push ..
      have apart : s.heap.objs.size ∉ [(s.heap.push (noSet w)).objs.size, l] := by
        rw [sz]
        simp only [List.mem_cons, List.not_mem_nil, or_false, not_or]
        exact ⟨Nat.ne_of_lt (Nat.lt_succ_self _), Nat.ne_of_gt old⟩
      have lI : l ≠ (s.heap.push (noSet w)).objs.size := by rw [sz]; exact Nat.ne_of_lt (Nat.lt_succ_of_lt old)
      refine update_turns (knd := mixKind P w) (Walks.list (by simp [hh]) _ l lI items).toS s.heap.objs.size apart ks size hb (keys_at hi) (items.size - 0) 0 _ rfl (Nat.zero_le _)
        ⟨⟨_, Heap.get?_push_size _ rfl, rfl, rfl⟩, isL.push _⟩ ⟨[], setG_none (Heap.get?_push_of_some _ isS), by simp, by simp⟩ ?_
      intro s' js mv hS hc hj
      obtain ⟨g, g2, d2, tk, o2⟩ := s'
      obtain rfl : g2 = s.gens := mv.gens
      obtain rfl : d2 = s.drawn := mv.drawn
      obtain rfl : o2 = s.os := mv.os
      refine wpAny_pure (wpAny_pure ⟨rfl, g, tk, js, rfl, hS, hj, fun b o hb => mv.heap b o ?_ (Heap.get?_push_of_some _ (Heap.get?_push_of_some _ hb))⟩)
      have lt := Heap.lt_size hb
      simp only [List.mem_cons, List.not_mem_nil, or_false, not_or]
      exact ⟨Nat.ne_of_lt lt, by rw [sz]; exact Nat.ne_of_lt (Nat.lt_succ_of_lt lt)⟩
    · intro r₂ s₂ hr₂
      match r₂, hr₂ with
      | .ok (.ret _), ⟨e1, e2⟩ =>
        subst e1
        obtain ⟨g, tk, js, rfl, z⟩ := e2
        repeat (any_goals (first | assumption | wp_step))
        exact done _ ⟨g, tk, js, rfl, z⟩
      | .error _, z => exact z
  | .error _, z => exact z
theorem call_set_keysT {l : Addr} {items : Array Value} {ks : List L2.Key} {Q : Value → Shared → Prop} (hh : A.handled = none) (hl : s.heap.IsTuple l items) (hi : KeysAre P w items.toList ks) (hb : ks.length + 1 < scanBound)
    (done : ∀ s₂, KeysIn P w s ks s₂ → Q (.ref s.heap.objs.size) s₂) : wpAny (model P w) A (call (.type "set") [.ref l]) Q E s := by
  have size : items.size = ks.length := by have := paired_len hi; simpa using this
  have f1 := F.called_set.mro
  obtain ⟨_, _, f1⟩ := f1
  have f2 := F.called_set.made
  have f3 := F.called_set.sub
  have f4 := F.called_set.notType
  have f5 := F.called_set.canCreate
  have f6 := F.typeCall_set_1 (.ref l)
  have f7 := F.called_set.init.lookup
  have f8 := F.called_set.init.bind (.ref s.heap.objs.size)
  refine wpAny_call (codeAny_of_tree (wpAny_pure ⟨Code.quiet_builtin _ (by decide +kernel), codeAny_builtin F.entry_type_call ?_⟩))
  rw [Around.under_plain (weight_type_call_type "set" [.ref l] []) rfl]
  repeat (any_goals (first | assumption | wp_step))
  have isS : (s.heap.push (noSet w)).get? s.heap.objs.size = some (noSet w) := Heap.get?_push_size _ rfl
  refine codeAny_mono (code_set_led1 (.ref l) (E := E) (Q₁ := fun v s₁ => v = .ref s.heap.objs.size ∧ s₁ = { s with heap := s.heap.push (noSet w) }) ⟨rfl, rfl⟩) ?_
  intro r s₁ hr
  match r, hr with
  | .ok (.ret _), ⟨e1, e2⟩ =>
    subst e1; subst e2
    have ty : Shared.TypeIs { s with heap := s.heap.push (noSet w) } (.ref s.heap.objs.size) "set" := ⟨_, isS, rfl⟩
    repeat (any_goals (first | assumption | wp_step))
    refine codeAny_mono (codeAny_call_builtin (R := wants (fun v s₂ => v = .none ∧ KeysIn P w s ks s₂) E) F.called_set.init.plain F.entry_set_init (check_set_init_1 ty ?_)) ?_
    · obtain ⟨⟨_, _, _, _⟩, ho, hc, k, hd⟩ := hl
      dsimp only at hc hd
      subst hc hd
      have old := Heap.lt_size ho
      have isL : (s.heap.push (noSet w)).IsTuple l items := ⟨_, Heap.get?_push_of_some _ ho, rfl, k, rfl⟩
      have g1 := Heap.get?_push_of_some (noSet w) ho
      have g2 := F.sub_tuple_set
      have g3 := F.sub_tuple_frozenset
      have g4 : (Value.type "tuple" == Value.type "dict") = false := by decide
      unfold Builtin.«set.__init__» noKeywords Builtin.Frozenset.updateFrom
      generalize e : pyIter = it
      wp_walk
      subst e
      refine wpAny_pyIter_tuple isL (wpAny_bind (wpAny_runValue ?_))
      have sz : (s.heap.push (noSet w)).objs.size = s.heap.objs.size + 1 := Heap.size_push ..
      have apart : s.heap.objs.size ∉ [(s.heap.push (noSet w)).objs.size, l] := by
        rw [sz]
        simp only [List.mem_cons, List.not_mem_nil, or_false, not_or]
        exact ⟨Nat.ne_of_lt (Nat.lt_succ_self _), Nat.ne_of_gt old⟩
      have lI : l ≠ (s.heap.push (noSet w)).objs.size := by rw [sz]; exact Nat.ne_of_lt (Nat.lt_succ_of_lt old)
      refine update_turns (knd := mixKind P w) (Walks.tuple (by simp [hh]) _ l lI items).toS s.heap.objs.size apart ks size hb (keys_at hi) (items.size - 0) 0 _ rfl (Nat.zero_le _)
        ⟨⟨_, Heap.get?_push_size _ rfl, rfl, rfl⟩, isL.push _⟩ ⟨[], setG_none (Heap.get?_push_of_some _ isS), by simp, by simp⟩ ?_
      intro s' js mv hS hc hj
      obtain ⟨g, g2, d2, tk, o2⟩ := s'
      obtain rfl : g2 = s.gens := mv.gens
      obtain rfl : d2 = s.drawn := mv.drawn
      obtain rfl : o2 = s.os := mv.os
      refine wpAny_pure (wpAny_pure ⟨rfl, g, tk, js, rfl, hS, hj, fun b o hb => mv.heap b o ?_ (Heap.get?_push_of_some _ (Heap.get?_push_of_some _ hb))⟩)
      have lt := Heap.lt_size hb
      simp only [List.mem_cons, List.not_mem_nil, or_false, not_or]
      exact ⟨Nat.ne_of_lt lt, by rw [sz]; exact Nat.ne_of_lt (Nat.lt_succ_of_lt lt)⟩
    · intro r₂ s₂ hr₂
      match r₂, hr₂ with
      | .ok (.ret _), ⟨e1, e2⟩ =>
        subst e1
        obtain ⟨g, tk, js, rfl, z⟩ := e2
        repeat (any_goals (first | assumption | wp_step))
        exact done _ ⟨g, tk, js, rfl, z⟩
      | .error _, z => exact z
  | .error _, z => exact z
/-- sorted(set), of numbers -/
theorem sorted_setI {a : Addr} {js : List L2.Key} {ns : List Int} {Q : Value → Shared → Prop} (R : SetG (mixKind P w) s.heap a js) (hh : A.handled = none) (hn : js = ns.map Sum.inl) (h64 : js.length < 64)
    (fin : ∀ z p (out : Array Value) (c : Nat) (os : List Int), (∀ b o, s.heap.get? b = some o → z.heap.get? b = some o) → z.gens = s.gens → z.os = s.os → s.heap.objs.size ≤ p → z.heap.get? p = some (seqObj "list" out c) → IntsAre out.toList os → os.Pairwise (· < ·) → os.Perm ns → Q (.ref p) z) :
    wpAny (model P w) A (call (.builtin "sorted") [.ref a]) Q E s := by
  obtain ⟨o, es, ep, t, ho, ex, hd, pj, nd, sz, ft, rs, ld⟩ := R
  have nl : es.size = js.length := by rw [← Array.length_toList]; exact paired_len pj
  refine Calls.call_function_entry kind_sorted plain_sorted entry_sorted (args_sorted1 _) ?_; unfold Builtin.«sorted»
  refine wpAny_bind (m := checkCount "sorted" 1 1 _) (wpAny_pure (wpAny_bind (collect_set (A := A.in1) hh ⟨o, ho, ex.1, hd⟩ ft (by rw [nl]; exact sz) rs ld fun z vs keep hz gz oz pm => ?_)))
  have vl : vs.length = js.length := by rw [pm.length_eq, List.length_map, Array.length_toList]; exact nl
  subst hn
  have hms : ∃ ms : List Int, IntsAre vs ms ∧ ms.Perm ns := by
    have q1 : ∀ {es : List (Int × Value)} {ns : List Int}, Paired (EntK (mixKind P w)) es (ns.map Sum.inl) → IntsAre (es.map (·.2)) ns := by
      intro es
      induction es with
      | nil => intro ns h; cases ns with
        | nil => exact .nil
        | cons n ns => cases h
      | cons e es ih => intro ns h; cases ns with
        | nil => cases h
        | cons n ns => cases h with
          | cons a b =>
            rcases keyIs_shape (show keyIs (Sum.inl n) e.2 = true from a.1.1) with ⟨i, t, e1, e2⟩ | ⟨x, t, e1, _⟩
            · cases e1; rw [List.map_cons, e2]; exact .cons _ t (ih b)
            · cases e1
    have q2 : ∀ {us vs : List Value} {ns : List Int}, vs.Perm us → IntsAre us ns → ∃ ms, IntsAre vs ms ∧ ms.Perm ns := by
      intro us vs ns p
      induction p generalizing ns with
      | nil => intro h; exact ⟨ns, h, .refl _⟩
      | cons x _ ih => intro h; cases h with
        | cons n t b => obtain ⟨ms, h1, h2⟩ := ih b; exact ⟨n :: ms, .cons n t h1, h2.cons n⟩
      | swap x y l => intro h; cases h with
        | cons n t b => cases b with
          | cons m u c => exact ⟨_, .cons m u (.cons n t c), .swap ..⟩
      | trans _ _ ih1 ih2 => intro h; obtain ⟨m1, a1, b1⟩ := ih2 h; obtain ⟨m2, a2, b2⟩ := ih1 a1; exact ⟨m2, a2, b2.trans b1⟩
    exact q2 pm (q1 pj)
  obtain ⟨ms, hI, pms⟩ := hms
  refine wpAny_bind (wpAny_newList ?_ (by rw [vl, sizeLine_eq]; omega))
  have oL : (z.heap.push (seqObj "list" vs.toArray 0)).get? z.heap.objs.size = some (seqObj "list" vs.toArray 0) := Heap.get?_push_size _ rfl
  refine wpAny_bind (wpAny_holding (wpAny_call_entry slot_list_sort ⟨_, oL, rfl⟩ entry_list_sort (list_sort_tree oL hI (by rw [vl]; exact h64) fun out os a1 a2 a3 => ⟨_, rfl, ?_⟩) (args_list_sort _)))
  obtain ⟨c, hc⟩ := sortedHeap_at (vs := vs) (out := out) oL
  have pn := a2.trans pms
  have ndn : ns.Nodup := nodup_of_map nd
  refine wpAny_pure ⟨_, rfl, fin _ z.heap.objs.size out c os (fun b u e => ?_) gz oz hz hc a1 (lt_of_le_nodup os a3 (pn.nodup_iff.mpr ndn)) pn⟩
  have q := keep b u e; have hlt := Heap.lt_size q
  show (sortedHeap (z.heap.push (seqObj "list" vs.toArray 0)) z.heap.objs.size vs out).get? b = some u
  rw [sortedHeap_old (Nat.ne_of_lt hlt) (by rw [size_push']; exact Nat.lt_succ_of_lt hlt)]; exact Heap.get?_push_of_some _ q
/-- sorted(set), of texts -/
theorem sorted_setS {a : Addr} {js : List L2.Key} {ns : List Str} {Q : Value → Shared → Prop} (R : SetG (mixKind P w) s.heap a js) (hh : A.handled = none) (hn : js = ns.map Sum.inr) (h64 : js.length < 64)
    (fin : ∀ z p (out : Array Value) (c : Nat) (os : List Str), (∀ b o, s.heap.get? b = some o → z.heap.get? b = some o) → z.gens = s.gens → z.os = s.os → s.heap.objs.size ≤ p → z.heap.get? p = some (seqObj "list" out c) → StrsAre out.toList os → sortedS os = true → os.Perm ns → ns.Nodup → Q (.ref p) z) :
    wpAny (model P w) A (call (.builtin "sorted") [.ref a]) Q E s := by
  obtain ⟨o, es, ep, t, ho, ex, hd, pj, nd, sz, ft, rs, ld⟩ := R
  have nl : es.size = js.length := by rw [← Array.length_toList]; exact paired_len pj
  refine Calls.call_function_entry kind_sorted plain_sorted entry_sorted (args_sorted1 _) ?_; unfold Builtin.«sorted»
  refine wpAny_bind (m := checkCount "sorted" 1 1 _) (wpAny_pure (wpAny_bind (collect_set (A := A.in1) hh ⟨o, ho, ex.1, hd⟩ ft (by rw [nl]; exact sz) rs ld fun z vs keep hz gz oz pm => ?_)))
  have vl : vs.length = js.length := by rw [pm.length_eq, List.length_map, Array.length_toList]; exact nl
  subst hn
  have hms : ∃ ms : List Str, StrsAre vs ms ∧ ms.Perm ns := by
    have q1 : ∀ {es : List (Int × Value)} {ns : List Str}, Paired (EntK (mixKind P w)) es (ns.map Sum.inr) → StrsAre (es.map (·.2)) ns := by
      intro es
      induction es with
      | nil => intro ns h; cases ns with
        | nil => exact .nil
        | cons n ns => cases h
      | cons e es ih => intro ns h; cases ns with
        | nil => cases h
        | cons n ns => cases h with
          | cons a b =>
            rcases keyIs_shape (show keyIs (Sum.inr n) e.2 = true from a.1.1) with ⟨i, t, e1, e2⟩ | ⟨x, t, e1, e2⟩
            · cases e1
            · cases e1; rw [List.map_cons, e2]; exact .cons _ t (ih b)
    have q2 : ∀ {us vs : List Value} {ns : List Str}, vs.Perm us → StrsAre us ns → ∃ ms, StrsAre vs ms ∧ ms.Perm ns := by
      intro us vs ns p
      induction p generalizing ns with
      | nil => intro h; exact ⟨ns, h, .refl _⟩
      | cons x _ ih => intro h; cases h with
        | cons n t b => obtain ⟨ms, h1, h2⟩ := ih b; exact ⟨n :: ms, .cons n t h1, h2.cons n⟩
      | swap x y l => intro h; cases h with
        | cons n t b => cases b with
          | cons m u c => exact ⟨_, .cons m u (.cons n t c), .swap ..⟩
      | trans _ _ ih1 ih2 => intro h; obtain ⟨m1, a1, b1⟩ := ih2 h; obtain ⟨m2, a2, b2⟩ := ih1 a1; exact ⟨m2, a2, b2.trans b1⟩
    exact q2 pm (q1 pj)
  obtain ⟨ms, hI, pms⟩ := hms
  refine wpAny_bind (wpAny_newList ?_ (by rw [vl, sizeLine_eq]; omega))
  have oL : (z.heap.push (seqObj "list" vs.toArray 0)).get? z.heap.objs.size = some (seqObj "list" vs.toArray 0) := Heap.get?_push_size _ rfl
  refine wpAny_bind (wpAny_holding (wpAny_call_entry slot_list_sort ⟨_, oL, rfl⟩ entry_list_sort (list_sort_treeKAny strKind_oneLt oL hI.keysOf (fun v₁ v₂ rest e => keyKind_strs (by rw [← e]; exact hI)) (by rw [vl, sizeLine_eq]; omega) fun st hp hs => ⟨_, rfl, ?_⟩) (args_list_sort _)))
  obtain ⟨os, a1, a2, a3⟩ := sorted_out_str hI hp hs
  obtain ⟨c, hc⟩ := sortedHeap_at (vs := vs) (out := (arrOf st).map (·.2)) oL
  have ndn : ns.Nodup := nodup_of_map nd
  refine wpAny_pure ⟨_, rfl, fin _ z.heap.objs.size _ c os (fun b u e => ?_) gz oz hz hc a1 a3 (a2.trans pms) ndn⟩
  have q := keep b u e; have hlt := Heap.lt_size q
  show (sortedHeap (z.heap.push (seqObj "list" vs.toArray 0)) z.heap.objs.size vs _).get? b = some u
  rw [sortedHeap_old (Nat.ne_of_lt hlt) (by rw [size_push']; exact Nat.lt_succ_of_lt hlt)]; exact Heap.get?_push_of_some _ q
end
end Sx

end
section
set_option Elab.async false
set_option linter.all false
set_option maxRecDepth 100000
set_option maxHeartbeats 3200000
/-! SXH: set comprehensions of numbers and texts -/
namespace Sx
open PySem PySem.Spec PyProof.Rows L2 Cl RZ ZN PpSet
/-- a set of these keys -/
def SetGO (P : Program) (w : World) (a : Addr) (ks : List L2.Key) : HO := .ext fun h => SetG (mixKind P w) h a ks
theorem setGO_ok {P : Program} {w : World} {H : Hp} {h : Heap} {a : Addr} {ks : List L2.Key} (R : SetG (mixKind P w) h a ks) : ObjOk P w H h a (SetGO P w a ks) :=
  ⟨R, let ⟨o, _, _, _, e, _⟩ := R; ⟨o, e⟩, fun h1 h2 z k => SetG.at z fun o q => k _ q⟩
theorem SetG.nodup {P : Program} {w : World} {h : Heap} {a : Addr} {ks : List L2.Key} (R : SetG (mixKind P w) h a ks) : ks.Nodup := by obtain ⟨_, _, _, _, _, _, _, _, nd, _⟩ := R; exact nd
section
variable {X : Cx} {pins : List (Addr × Obj)} {σ : L2.St} {H : Hp} {s : Shared}
theorem setGO_at {a : Addr} {ks : List L2.Key} (I : Inv X pins σ H s) (e : H a = some (SetGO X.prog X.w a ks)) : SetG (mixKind X.prog X.w) s.heap a ks := by
  have x : ObjOk X.prog X.w H s.heap a (.ext fun h => SetG (mixKind X.prog X.w) h a ks) := I.hok a _ e
  exact x.1
theorem put_key {E : Value → Shared → Prop} {D : Addr} {ks : List L2.Key} {k : L2.Key} {u : Value} {Q : Value → Shared → Prop} (I : Inv X pins σ H s) (e : H D = some (SetGO X.prog X.w D ks)) (ru : RelV (kV k) u) (room : ks.length + 1 < scanBound)
    (fin : ∀ s' js, (∀ j, j ∈ js ↔ j ∈ ks ∨ j = k) → js.length ≤ ks.length + 1 → js.Nodup → Inv X pins σ (upd H D (SetGO X.prog X.w D js)) s' → Q .none s') : wpAny (model X.prog X.w) X.A (call (.builtin "set.add") [.ref D, u]) Q E s := by
  have R := setGO_at I e
  have hk := kV_is (P := X.prog) (w := X.w) ru
  have ty : s.TypeIs (.ref D) "set" := by obtain ⟨o, _, _, _, ho, ex, _⟩ := R; exact ⟨o, ho, ex.1⟩
  refine wpAny_call_entry F.slot_set_add ty F.entry_set_add ?_ (F.args_set_add_2 _ _)
  unfold Builtin.«set.add» Builtin.Frozenset.oneOther; simp only [List.isEmpty_nil, bind_assoc]; unfold Builtin.Frozenset.addrOf
  refine wpAny_bind (wpAny_pure ?_); try dsimp only
  refine wpAny_bind (wpAny_pure ?_); try dsimp only
  refine wpAny_bind (setAddG hk (key_scan hk) R room fun h' js sb new hj hl => ?_)
  show wpAny _ _ (ret Value.none) _ _ _
  refine wpAny_pure ⟨_, rfl, fin _ js hj hl new.nodup (I.write (e := D) (t' := s.toks + 1) (by rw [e]; trivial) (.inl rfl) (fun b o hb ho => (sb.2 b hb).trans ho) ?_ (setGO_ok new))⟩
  obtain ⟨o, _, _, _, ho, _⟩ := new; exact ⟨o, ho⟩
/-- {elt for target in iter if ..} of keys: D the new set -/
def tScG (P : Program) (w : World) (wi : TI) (g : TG) (tt : TT) (te : TE) (vs : List Nat) : TE := fun σ H Q => wi σ H fun J H1 => ∀ D, H1 D = none → ∃ Wn : Nat → Nat → Hp → Prop, (∃ m, Wn 0 m (upd H1 D (SetGO P w D []))) ∧ ∀ i m H2, Wn i m H2 →
  (J.stop i H2 ∧ Q (.ref D) H2) ∨ (J.go i H2 ∧ ∃ Nx : Hp → Prop, (∀ H', Nx H' → ∃ m', m' < m ∧ Wn (i + 1) m' H') ∧ ∀ x H', J.yld i H2 x H' → g x (wipe σ vs) H' fun σ2 H3 => wipe σ2 vs = wipe σ vs ∧ tt σ2 H3 fun b H4 =>
    if b = true then te σ2 H4 fun y H5 => ∃ (k : L2.Key) (ks : List L2.Key), y = kV k ∧ H5 D = some (SetGO P w D ks) ∧ ks.length + 1 < scanBound ∧ ∀ js : List L2.Key, (∀ j, j ∈ js ↔ j ∈ ks ∨ j = k) → js.length ≤ ks.length + 1 → js.Nodup → Nx (upd H5 D (SetGO P w D js)) else Nx H4)
theorem comp_keysF {first : Sem Value} {Q : VK} {elt tg iter : Expr} {ifs : List Expr} {scope : Scope} {own : List (PySem.Str × Nat)} {pos pos' : Pos} {wi : TI} {g : TG} {tt : TT} {te : TE} {use : Option (Value → Sem Unit)} {Qf : Value → Shared → Prop} (calm : X.calm = true) (nodup : X.N.Nodup) (I : Inv X pins σ H s) (hi : ∀ R, wi σ H R → wpAny (model X.prog X.w) X.A first (fun v z1 => wpAny (model X.prog X.w) X.A (pyIter v) (PIE X pins σ tg R) X.xe z1) X.xe s) (ok : BlkOk X.N X.env.scope scope own)
    (hg : ∀ (z : Shared) (G : Hp) (C : Addr) (cl : List (PySem.Str × Addr)) (fp : List Addr), PG (X.blk z G scope (compEnvC scope cl C X.env) fp) tg g) (ht : ∀ (z : Shared) (G : Hp) (C : Addr) (cl : List (PySem.Str × Addr)) (fp : List Addr), PTs (X.blk z G scope (compEnvC scope cl C X.env) fp) ifs tt)
    (he : ∀ (z : Shared) (G : Hp) (C : Addr) (cl : List (PySem.Str × Addr)) (fp : List Addr), PE (X.blk z G scope (compEnvC scope cl C X.env) fp) elt te) (plain : ∀ x, foldedSetIterable iter X.env x = pure x) (h : tScG X.prog X.w wi g tt te (own.map (·.2)) σ H Q)
    (last : ∀ D C z m G, Inv X pins σ G z → Q (.ref D) G → z.heap.Ns C m → FpOk X pins G C → compPost (model X.prog X.w) X.A X.xe use Qf (.ref D) C (.ok .next) z) :
    wpAny (model X.prog X.w) X.A (comprehension (.SetComp elt [⟨tg, iter, ifs, 0⟩] scope pos) scope X.env pos' (newSet (.type "set")) false first use) Qf X.xe s := by
  have caught : ∀ y ∈ scope.names, y.2 = .free → ∃ c, X.env.cells.lookup y.1 = some c := fun y hy e => (ok.free y hy e).elim (fun k => I.ok.has _ (.inl k)) fun k => I.ok.has _ (.inr k)
  refine wpAny_comprehension_free (use := use) rfl plain (closure_ok caught) ok.kind (fun y hy e => by rw [ok.uniq y hy, e]) (thn (hi _ h) fun xv s1 hx => thn hx fun itv s2 h2 => ?_)
  obtain ⟨it, fp, tn, J, H2, e, I2, T, at2, ok2, q⟩ := h2
  subst e
  refine newSet_ok (newEnv_comp ?_)
  generalize hD : s2.heap.objs.size = D
  obtain ⟨Wn, ⟨m0, w0⟩, turn⟩ := q D (I2.hok.fresh (Nat.le_of_eq hD))
  generalize hz : ({ s2 with heap := s2.heap.push (noSet X.w) } : Shared) = z
  have zh : z.heap = s2.heap.push (noSet X.w) := by rw [← hz]
  have I3 : Inv X pins σ (upd H2 D (SetGO X.prog X.w D [])) z := by
    rw [← hz]
    refine I2.laid (t' := s2.toks) (fun b o e => Heap.get?_push_of_some _ e) (Nat.le_of_eq hD) ?_
    rw [← hD]; exact setGO_ok (setG_none (Heap.get?_push_size _ rfl))
  have old : ∀ b ∈ fp, b < s2.heap.objs.size := fun b hb => let ⟨o, e, _⟩ := T.obj _ _ at2 b hb; Heap.lt_size e
  have ok3 : ∀ b ∈ fp, FpOk X pins (upd H2 D (SetGO X.prog X.w D [])) b ∧ b < z.heap.objs.size := fun b hb => by
    refine ⟨⟨?_, (ok2 b hb).2⟩, by rw [zh, Heap.size_push]; exact Nat.lt_succ_of_lt (old b hb)⟩
    rw [upd_ne (by rw [← hD]; exact Nat.ne_of_lt (old b hb))]; exact (ok2 b hb).1
  have at3 : tn 0 z.heap := T.keep _ _ _ at2 fun b _ o e => by rw [zh]; exact Heap.get?_push_of_some _ e
  have I4 := block_start I3 ok nodup ok3
  generalize hG : upd H2 D (SetGO X.prog X.w D []) = G at I3 I4 w0 ok3
  have pg := hg z G z.heap.objs.size (cellsFrom (z.heap.objs.size + 1) scope.names (cloFrom X.env.cells scope.names [])) fp
  have pt := ht z G z.heap.objs.size (cellsFrom (z.heap.objs.size + 1) scope.names (cloFrom X.env.cells scope.names [])) fp
  have pe := he z G z.heap.objs.size (cellsFrom (z.heap.objs.size + 1) scope.names (cloFrom X.env.cells scope.names [])) fp
  show codeAny _ _ (.compStart (.SetComp elt [⟨tg, iter, ifs, 0⟩] scope pos) 0 (.ref it) (.ref D) (compEnvC scope (cellsFrom (z.heap.objs.size + 1) scope.names (cloFrom X.env.cells scope.names [])) z.heap.objs.size X.env)) (compPost (model X.prog X.w) X.A X.xe use Qf (.ref D) z.heap.objs.size) { z with heap := pushCells (z.heap.push { cls := .type "dict", data := .dict #[] }) scope.names }
  have none0 : ∀ b ∈ fp, G b = none := fun b hb => (ok3 b hb).1.1
  generalize hce : compEnvC scope (cellsFrom (z.heap.objs.size + 1) scope.names (cloFrom X.env.cells scope.names [])) z.heap.objs.size X.env = ce at I4 pg pt pe ⊢
  have cL : ce.locals = z.heap.objs.size := by subst hce; rfl
  generalize hz4 : ({ z with heap := pushCells (z.heap.push { cls := .type "dict", data := .dict #[] }) scope.names } : Shared) = z4 at I4 ⊢
  have at4 : tn 0 z4.heap := T.keep _ _ _ at3 fun b _ o e => by rw [← hz4]; exact pushCells_keeps _ _ _ _ (Heap.get?_push_of_some _ e)
  have own_ok : ∀ {τ : L2.St} {G' : Hp} {y : Shared}, Inv (X.blk z G scope ce fp) [] τ G' y → (∀ b ∈ fp, G' b = none) → ∀ b ∈ fp, FpOk (X.blk z G scope ce fp) [] G' b := fun {τ G' y} J' hn b hb => ⟨hn b hb, (J'.ok.exf b hb).1, J'.ok.exfs b hb, .inl hb, fun x c e => (J'.ok.exf b hb).2 x c e, fun p hp => absurd (show p ∈ ([] : List (Addr × Obj)) ++ [] from hp) (by simp)⟩
  have loop : codeAny (model X.prog X.w) X.A (.compLoop (.SetComp elt [⟨tg, iter, ifs, 0⟩] scope pos) 0 (.ref it) (.ref D) ce) (compPost (model X.prog X.w) X.A X.xe use Qf (.ref D) z.heap.objs.size) z4 := by
    refine compLoopS_any (fun n y => ∃ i G', Inv (X.blk z G scope ce fp) [] (wipe σ (own.map (·.2))) G' y ∧ tn i y.heap ∧ (∀ b ∈ fp, G' b = none) ∧ Wn i n G') ?_ m0 ⟨0, G, I4, at4, none0, w0⟩
    rintro n s5 ⟨i, H5, I5, at5, n5, w5⟩
    rcases turn i n H5 w5 with ⟨stop, qq⟩ | ⟨go, Nx, hNx, step⟩
    · refine thnF (T.done (X.blk z G scope ce fp) rfl rfl rfl calm i [] s5 _ H5 (fun _ _ => False) I5 (own_ok I5 n5) at5 stop) fun r s6 ⟨hr, I6⟩ => ?_
      subst hr
      have I7 : Inv X pins σ H5 s6 := I3.call' (ch := fp) I6.os I6.base I6.hok I6.bare fun b hb => let f := (ok3 b hb).1.2; ⟨f.2.2.1, f.1, f.2.2.2.1, f.2.2.2.2⟩
      have free : H5 z.heap.objs.size = none := by have q : H5 ce.locals = none := I6.free; rw [cL] at q; exact q
      obtain ⟨m, hn, _⟩ := I6.loc
      have hn : s6.heap.Ns ce.locals m := hn
      rw [cL] at hn
      exact last D z.heap.objs.size s6 m H5 I7 qq hn (I3.fpOk (Nat.le_refl _) free)
    · refine thnF (T.item (X.blk z G scope ce fp) rfl rfl rfl calm i [] s5 _ H5 (fun _ _ => False) I5 (own_ok I5 n5) at5 go) fun r s6 ⟨u, hr, h6⟩ => ?_
      subst hr
      refine thnF h6 fun _ s7 ⟨x, H7, I7, r7, y7, at7, n7⟩ => ?_
      refine thnF (pg.run _ s7 _ H7 x u _ (I7.pinned (own_ok I7 n7) (T.obj _ _ at7)) r7 (step x H7 y7)) fun _ s8 ⟨σ8, H8, I8, w8, q8⟩ => ?_
      refine thnF (pt.run _ s8 σ8 H8 _ I8 q8) fun b s9 ⟨H9, I9, q9⟩ => ?_
      have fin : ∀ {y : Shared} {G' : Hp}, Inv (X.blk z G scope ce fp) ([] ++ pinsAt fp s7.heap) σ8 G' y → Nx G' → ∃ m, m < n ∧ ∃ i G', Inv (X.blk z G scope ce fp) [] (wipe σ (own.map (·.2))) G' y ∧ tn i y.heap ∧ (∀ b ∈ fp, G' b = none) ∧ Wn i m G' := fun {y G'} J' nx => by
        obtain ⟨m', hm, w'⟩ := hNx G' nx
        have pinned : ∀ b ∈ fp, ∀ o, s7.heap.get? b = some o → y.heap.get? b = some o ∧ G' b = none := fun b hb o e => let p := J'.pin (b, o) (List.mem_append_right _ (List.mem_append_right _ (mem_pinsAt hb e))); ⟨p.1, p.2.1⟩
        refine ⟨m', hm, i + 1, G', (J'.unpinned (pins := [])).weak (by rw [← w8, wipe_length]) (fun j v e => ?_), T.keep _ _ _ at7 fun b hb o e => (pinned b hb o e).1, fun b hb => ?_, w'⟩
        · rw [← w8] at e; exact (wipe_some e).1
        · obtain ⟨o, e, _⟩ := T.obj _ _ at7 b hb; exact (pinned b hb o e).2
      cases b with
      | false => simp only [Bool.false_eq_true, if_false] at q9 ⊢; exact fin I9 q9
      | true =>
        simp only [if_true] at q9 ⊢
        refine thnF (pe.run _ s9 σ8 H9 _ I9 q9) fun v s10 ⟨yv, H10, I10, r10, k, ks, ey, hD10, room, nx⟩ => ?_
        subst ey
        exact put_key (X := X.blk z G scope ce fp) I10 hD10 r10 room fun s11 js hj hl nd I11 => fin I11 (nx js hj hl nd)
  exact codeAny_compStart_set loop (T.self X.A 0 _ _ _ at4 loop)
theorem pe_scG {elt tg iter : Expr} {ifs : List Expr} {scope : Scope} {own : List (PySem.Str × Nat)} {pos : Pos} {wi : TI} {g : TG} {tt : TT} {te : TE} (calm : X.calm = true) (nodup : X.N.Nodup) (hi : PI X tg iter wi) (ok : BlkOk X.N X.env.scope scope own)
    (hg : ∀ (z : Shared) (G : Hp) (C : Addr) (cl : List (PySem.Str × Addr)) (fp : List Addr), PG (X.blk z G scope (compEnvC scope cl C X.env) fp) tg g) (ht : ∀ (z : Shared) (G : Hp) (C : Addr) (cl : List (PySem.Str × Addr)) (fp : List Addr), PTs (X.blk z G scope (compEnvC scope cl C X.env) fp) ifs tt)
    (he : ∀ (z : Shared) (G : Hp) (C : Addr) (cl : List (PySem.Str × Addr)) (fp : List Addr), PE (X.blk z G scope (compEnvC scope cl C X.env) fp) elt te) (plain : ∀ x, foldedSetIterable iter X.env x = pure x := by intro _; rfl) : PE X (.SetComp elt [⟨tg, iter, ifs, 0⟩] scope pos) (tScG X.prog X.w wi g tt te (own.map (·.2))) := by
  refine ⟨fun pins s σ H Q I h => ?_⟩
  rw [eval_SetComp]
  refine comp_keysF calm nodup I (fun R q => hi.run pins s σ H R I q) ok hg ht he plain h fun D C z m G I' q hn f => ⟨m, hn, fun h'' sb => ?_⟩
  obtain ⟨f0, f1, f2, f3, f4, f5⟩ := f
  exact ⟨.ref D, G, I'.turned (t' := z.toks) (fun b o hb e => (sb.2 b hb).trans e) f0 f1 f3 f4 f5, rfl, q⟩
end
end Sx

end
section
set_option Elab.async false
set_option linter.all false
set_option maxRecDepth 100000
set_option maxHeartbeats 3200000
/-! SXI: sorted(set(x)), sorted({.. for ..}) over plain values -/
namespace Sx
open PySem PySem.Spec PyProof.Rows L2 Cl RZ ZN
def keyM : L2.Key → Val
  | .inl i => .int i
  | .inr x => .str x
/-- numbers, or texts, fewer than 64 different ones: ascending, each once -/
def sortKeys (ks : List L2.Key) (k : Val → Prop) : Prop :=
  (∃ ns bs : List Int, ks = ns.map Sum.inl ∧ bs.length < 64 ∧ (∀ n ∈ ns, n ∈ bs) ∧ ∀ out : List Int, out.Pairwise (· < ·) → (∀ j, j ∈ out ↔ j ∈ ns) → k (.lst (out.map .int))) ∨
  ∃ ss bs : List Str, ks = ss.map Sum.inr ∧ bs.length < 64 ∧ (∀ n ∈ ss, n ∈ bs) ∧ ∀ out : List Str, sortedS out = true → out.Nodup → (∀ j, j ∈ out ↔ j ∈ ss) → k (.lst (out.map .str))
/-- sorted(set(x)), x a list or a tuple -/
def eSortSet (m : ME) : ME := fun env h q x => m env h (fun v h1 => ∃ ks : List L2.Key, anyOf h1 v = some (ks.map keyM) ∧ ks.length ≤ 4000 ∧ sortKeys ks fun v => q v h1) x
def scGo (al : Mh → Prop) (g : MG) (t : MT) (e : ME) (env : Me) : List Val → List L2.Key → Mh → (List L2.Key → Mh → Prop) → Prop
  | [], acc, h, q => al h ∧ q acc h
  | x :: xs, acc, h, q => al h ∧ g x env h fun env2 h2 => t env2 h2 (fun b h3 => if b = true then e env2 h3 (fun y h4 => ∃ k, y = keyM k ∧ scGo al g t e env xs (acc ++ [k]) h4 q) F0 else scGo al g t e env xs acc h3 q) F0
/-- sorted({e for .. in ..}) -/
def eSortSC (i : MI) (g : MG) (t : MT) (e : ME) (vs : List Nat) : ME := fun env h q x => i env h (fun xs al h1 => xs.length ≤ 4000 ∧ scGo al g t e (wipeM env vs) xs [] h1 fun ks h2 => sortKeys ks fun v => q v h2) x
def rSetG (K : PySem.W.Frag) (P : Program) (w : World) : List V → Hp → VK → Prop := fun vs H Q => ∃ (a : Addr) (ks : List L2.Key), vs = [.ref a] ∧ (SqL K H a (ks.map kV) ∨ SqT K H a (ks.map kV)) ∧ ks.length ≤ 4000 ∧ ∀ p js, H p = none → (∀ j, j ∈ js ↔ j ∈ ks) → js.Nodup → Q (.ref p) (upd H p (SetGO P w p js))
def rSortG (P : Program) (w : World) : List V → Hp → VK → Prop := fun vs H Q => ∃ (a : Addr) (js : List L2.Key), vs = [.ref a] ∧ H a = some (SetGO P w a js) ∧ js.length < 64 ∧ ((∃ ns : List Int, js = ns.map Sum.inl ∧ ∀ (os : List Int) p, os.Pairwise (· < ·) → os.Perm ns → H p = none → Q (.ref p) (upd H p (.lst (os.map V.int)))) ∨
  ∃ ns : List Str, js = ns.map Sum.inr ∧ ∀ (os : List Str) p, sortedS os = true → os.Nodup → os.Perm ns → H p = none → Q (.ref p) (upd H p (.lst (os.map V.str))))
theorem keysAre_of {P : Program} {w : World} : ∀ {ks : List L2.Key} {us : List Value}, Vals (ks.map kV) us → KeysAre P w us ks
  | [], _, .nil => .nil
  | _ :: _, _, .cons r t => .cons (kV_is r) (keysAre_of t)
section
variable {X : Cx} {Y : Ky} {W : WX}
theorem cr_setG (hc : X.calm = true) : CallR X (.type "set") (rSetG X.K X.prog X.w) := by
  intro pins s σ H vs us Q I r h
  obtain ⟨a, ks, rfl, hq, hl, q⟩ := h
  rw [Vals.ref1 r]
  have fin : ∀ s₂, KeysIn X.prog X.w s ks s₂ → ∃ v H', L2.Inv X pins σ H' s₂ ∧ RelV v (.ref s.heap.objs.size) ∧ Q v H' := by
    rintro s₂ ⟨g, tk, js, e2, S, hj, keep⟩
    subst e2
    exact ⟨.ref s.heap.objs.size, _, I.laid keep (Nat.le_refl _) (setGO_ok S), rfl, q _ js (I.hok.fresh (Nat.le_refl _)) hj S.nodup⟩
  have big : ks.length + 1 < scanBound := by unfold scanBound; omega
  rcases hq with hq | hq
  · obtain ⟨its, rv, pl, _⟩ := I.list hq
    exact call_set_keysL (I.ok.hd hc) pl.isList (by simpa using keysAre_of rv) big fin
  · obtain ⟨its, rv, pl, _⟩ := I.tuple hq
    exact call_set_keysT (I.ok.hd hc) pl (by simpa using keysAre_of rv) big fin
theorem cr_sortG (hc : X.calm = true) : CallR X (.builtin "sorted") (rSortG X.prog X.w) := by
  intro pins s σ H vs us Q I r h
  obtain ⟨a, js, rfl, ha, h64, q⟩ := h
  have R := setGO_at I ha
  rw [Vals.ref1 r]
  have wrap : ∀ {z : Shared} {p : Addr} {out : Array Value} {c : Nat} {xs : List V}, (∀ b o, s.heap.get? b = some o → z.heap.get? b = some o) → z.gens = s.gens → z.os = s.os → s.heap.objs.size ≤ p → z.heap.get? p = some (seqObj "list" out c) → Vals xs out.toList → xs.length ≤ sizeLine → Q (.ref p) (upd H p (.lst xs)) → ∃ v H', L2.Inv X pins σ H' z ∧ RelV v (.ref p) ∧ Q v H' := by
    intro z p out c xs k g o hp hg rv hlen qq
    have hn : H p = none := I.hok.fresh hp
    have J : L2.Inv X pins σ (upd H p (.lst xs)) { s with heap := z.heap, gens := z.gens, drawn := z.drawn, toks := z.toks } := I.call (ch := []) (Un.laid k hp hn) (I.hok.laid k hp ⟨hlen, out.toList, c, rv, hg⟩) (by rw [g]; exact I.bare) (fun _ x => nomatch x)
    have e : z = { s with heap := z.heap, gens := z.gens, drawn := z.drawn, toks := z.toks } := by cases z; cases s; cases o; rfl
    rw [e]
    exact ⟨.ref p, _, J, rfl, qq⟩
  rcases q with ⟨ns, en, q⟩ | ⟨ns, en, q⟩
  · refine sorted_setI R (I.ok.hd hc) en h64 fun z p out c os k g o hp hg hi hs hperm => ?_
    have hl : os.length < 64 := by rw [hperm.length_eq]; rw [en, List.length_map] at h64; exact h64
    exact wrap k g o hp hg (vals_of_ints hi) (by rw [List.length_map, sizeLine_eq]; omega) (q os p hs hperm (I.hok.fresh hp))
  · refine sorted_setS R (I.ok.hd hc) en h64 fun z p out c os k g o hp hg hi hs hperm nd => ?_
    have hl : os.length < 64 := by rw [hperm.length_eq]; rw [en, List.length_map] at h64; exact h64
    exact wrap k g o hp hg (vals_of_strs hi) (by rw [List.length_map, sizeLine_eq]; omega) (q os p hs (hperm.nodup_iff.mpr nd) hperm (I.hok.fresh hp))
theorem vrs_keys {μ : Mp} {G : Hp} : ∀ {vs : List V} {ks : List L2.Key}, VRs Y μ G vs (ks.map keyM) → vs = ks.map kV
  | _, [], .nil => rfl
  | _, .inl i :: ks, .cons r t => by cases r; rw [vrs_keys t]; rfl
  | _, .inr x :: ks, .cons r t => by cases r; rw [vrs_keys t]; rfl
theorem vr_key {μ : Mp} {G : Hp} {v : V} {k : L2.Key} (r : VR Y μ G v (keyM k)) : v = kV k := by
  cases k <;> (cases r; rfl)
theorem vrs_int {μ : Mp} {G : Hp} : ∀ os : List Int, VRs Y μ G (os.map V.int) (os.map Val.int)
  | [] => .nil
  | o :: os => .cons (.int o) (vrs_int os)
theorem vrs_str {μ : Mp} {G : Hp} : ∀ os : List Str, VRs Y μ G (os.map V.str) (os.map Val.str)
  | [] => .nil
  | o :: os => .cons (.str o) (vrs_str os)
/-- the keys js of a set that has just the members of ks -/
theorem sort_keys {μ : Mp} {h : Mh} {H : Hp} {Q : VK} {q : Val → Prop} {a : Addr} {P : Program} {w : World} {ks js : List L2.Key} (r : Rel Y μ h H) (hk : sortKeys ks q) (hj : ∀ j, j ∈ js ↔ j ∈ ks) (nd : js.Nodup) (ha : H a = some (SetGO P w a js)) (fin : ∀ v, q v → Kq Y μ H Q v h) : rSortG P w [.ref a] H Q := by
  rcases hk with ⟨ns, bs, rfl, hb, hn, k⟩ | ⟨ns, bs, rfl, hb, hn, k⟩
  · have hm : ∃ ms : List Int, js = ms.map Sum.inl := by
      refine ⟨js.map fun | .inl i => i | .inr _ => 0, ?_⟩
      rw [List.map_map]
      symm
      refine (List.map_congr_left fun j hjm => ?_).trans (List.map_id js)
      obtain ⟨n, _, rfl⟩ := List.mem_map.mp ((hj j).mp hjm)
      rfl
    obtain ⟨ms, rfl⟩ := hm
    have hmem : ∀ j : Int, j ∈ ms ↔ j ∈ ns := fun j => by
      have := hj (.inl j)
      simpa using this
    have ndm : ms.Nodup := nodup_of_map nd
    have hlen : ms.length ≤ bs.length := nodup_le ndm fun x hx => hn x ((hmem x).mp hx)
    refine ⟨a, _, rfl, ha, by rw [List.length_map]; omega, .inl ⟨ms, rfl, fun os p h1 h2 hp => ?_⟩⟩
    exact (fin _ (k os h1 fun j => by rw [h2.mem_iff, hmem])).new r hp fun e s => .lst e (vrs_int os)
  · have hm : ∃ ms : List Str, js = ms.map Sum.inr := by
      refine ⟨js.map fun | .inr i => i | .inl _ => Str.empty, ?_⟩
      rw [List.map_map]
      symm
      refine (List.map_congr_left fun j hjm => ?_).trans (List.map_id js)
      obtain ⟨n, _, rfl⟩ := List.mem_map.mp ((hj j).mp hjm)
      rfl
    obtain ⟨ms, rfl⟩ := hm
    have hmem : ∀ j : Str, j ∈ ms ↔ j ∈ ns := fun j => by
      have := hj (.inr j)
      simpa using this
    have ndm : ms.Nodup := nodup_of_map nd
    have hlen : ms.length ≤ bs.length := nodup_le ndm fun x hx => hn x ((hmem x).mp hx)
    refine ⟨a, _, rfl, ha, by rw [List.length_map]; omega, .inr ⟨ms, rfl, fun os p h1 h0 h2 hp => ?_⟩⟩
    exact (fin _ (k os h1 h0 fun j => by rw [h2.mem_iff, hmem])).new r hp fun e s => .lst e (vrs_str os)
variable {me : ME} {e : Expr} {p p2 pos tpos : Pos}
theorem de_sortSet (hK : X.K = Y.K) (hc : X.calm = true) (hg : Gl X "sorted") (hm : X.mg "sorted" = none) (hg2 : Gl X "set") (hm2 : X.mg "set" = none) (ha : DE X Y W e me) (na : starEach [e] X.env = (false, eval e X.env) :: starEach [] X.env := by rfl)
    (nb : starEach [.Call (.Name "set" p2) [e] [] tpos] X.env = (false, eval (.Call (.Name "set" p2) [e] [] tpos) X.env) :: starEach [] X.env := by rfl) : DE X Y W (.Call (.Name "sorted" p) [.Call (.Name "set" p2) [e] [] tpos] [] pos) (eSortSet me) := by
  obtain ⟨t, a1, a2⟩ := ha
  refine ⟨_, pe_callB (id := "sorted") (cr_sortG hc) hg hm (by decide +kernel) (pa_cons (pe_callTy (T := "set") (cr_setG hc) hg2 hm2 (by decide +kernel) (pa_cons a1 pa_nil na) (by decide) (by decide) na rfl) pa_nil nb) (by decide) (by decide) nb rfl, fun μ env h σ H Q q x z hm kq kx => ?_⟩
  refine a2 μ env h σ H _ _ x z hm (fun v h1 ⟨ks, el, hl, k⟩ μ1 U H1 e1 r1 v1 => ?_) kx
  obtain ⟨a, vs, rfl, h2, t2⟩ := rd_any r1 v1 el
  obtain rfl := vrs_keys t2
  refine ⟨a, ks, rfl, ?_, hl, fun p js hp hj nd => ?_⟩
  · rw [hK]
    rcases h2 with h2 | h2
    · exact .inl (SqL.of h2)
    · exact .inr h2
  · have r2 := r1.same (same_new (o := SetGO X.prog X.w p js) hp)
    exact sort_keys r2 k hj nd upd_same fun v hv => (kq _ _ hv).after (e1.trans (.same (same_new hp)))
variable {wi : TI} {g : TG} {tt : TT} {te : TE} {mi : MI} {mg : MG} {mt : MT} {ts vs : List Nat}
theorem sc_go {P : Program} {w : World} {Q : VK} {q' : List L2.Key → Mh → Prop} (hts : ∀ j ∈ ts, j ∈ vs) (sg : SG Y ts g mg) (st : ST Y W0 tt mt) (se : SE Y W0 te me) {μ₁ : Mp} {h1 : Mh} {H1 : Hp} {σ : L2.St} {env : Me} {J : It} {xs : List Val} {al : Mh → Prop}
    (z : Ok Y μ₁ h1 H1 σ env) (wk : Wk Y μ₁ H1 J xs al) (hl : xs.length ≤ 4000) (hm : scGo al mg mt me (wipeM env vs) xs [] h1 q') (D : Addr) (hD : H1 D = none)
    (fin : ∀ (acc js : List L2.Key) (h2 : Mh) (μ₂ : Mp) (H2 : Hp), q' acc h2 → Ext μ₁ (μ₂.show μ₁.ex) H1 H2 → μ₂.ex = D :: μ₁.ex → Rel Y μ₂ h2 H2 → H2 D = some (SetGO P w D js) → (∀ j, j ∈ js ↔ j ∈ acc) → js.Nodup → Q (.ref D) H2) :
    ∃ Wn : Nat → Nat → Hp → Prop, (∃ m, Wn 0 m (upd H1 D (SetGO P w D []))) ∧ ∀ i m H2, Wn i m H2 →
      (J.stop i H2 ∧ Q (.ref D) H2) ∨ (J.go i H2 ∧ ∃ Nx : Hp → Prop, (∀ H', Nx H' → ∃ m', m' < m ∧ Wn (i + 1) m' H') ∧ ∀ x H', J.yld i H2 x H' → g x (wipe σ vs) H' fun σ2 H3 => wipe σ2 vs = wipe σ vs ∧ tt σ2 H3 fun b H4 =>
        if b = true then te σ2 H4 fun y H5 => ∃ (k : L2.Key) (ks : List L2.Key), y = kV k ∧ H5 D = some (SetGO P w D ks) ∧ ks.length + 1 < scanBound ∧ ∀ js : List L2.Key, (∀ j, j ∈ js ↔ j ∈ ks ∨ j = k) → js.length ≤ ks.length + 1 → js.Nodup → Nx (upd H5 D (SetGO P w D js)) else Nx H4) := by
  have nl : ∀ p l, μ₁.src = some (p, l) → l ≠ D := fun p l e q => (SrcOk.ne (z.r.src p l e).1).2 (by rw [q]; exact hD)
  refine ⟨fun i m H2 => m = xs.length - i ∧ i ≤ xs.length ∧ ∃ (μ₂ : Mp) (h2 : Mh) (acc js : List L2.Key), Ext μ₁ (μ₂.show μ₁.ex) H1 H2 ∧ μ₂.ex = D :: μ₁.ex ∧ Le μ₁ μ₂ (vis μ₁ H1) (vis μ₂ H2) ∧ Rel Y μ₂ h2 H2 ∧ H2 D = some (SetGO P w D js) ∧ (∀ j, j ∈ js ↔ j ∈ acc) ∧ js.Nodup ∧ js.length ≤ i ∧ scGo al mg mt me (wipeM env vs) (xs.drop i) acc h2 q',
    ⟨xs.length, by simp, Nat.zero_le _, μ₁.hide D, h1, [], [], Ext.same (same_new hD), rfl, le_hide hD, z.r.hide hD, upd_same, by simp, .nil, Nat.le_refl _, by simpa using hm⟩, ?_⟩
  rintro i m H2 ⟨rfl, hi, μ₂, h2, acc, js, ex, exD, le2, r2, eD, hjs, nd, hacc, hgo⟩
  have hDm : μ₂.m D = false := (r2.ex D (by rw [exD]; simp)).2
  by_cases hlt : i < xs.length
  · rw [List.drop_eq_getElem_cons hlt] at hgo
    obtain ⟨hal, hg⟩ := hgo
    refine .inr ⟨wk.go _ _ _ i le2 r2 hal hlt, fun H3 => ∃ (μ₂ : Mp) (h2 : Mh) (acc js : List L2.Key), Ext μ₁ (μ₂.show μ₁.ex) H1 H3 ∧ μ₂.ex = D :: μ₁.ex ∧ Le μ₁ μ₂ (vis μ₁ H1) (vis μ₂ H3) ∧ Rel Y μ₂ h2 H3 ∧ H3 D = some (SetGO P w D js) ∧ (∀ j, j ∈ js ↔ j ∈ acc) ∧ js.Nodup ∧ js.length ≤ i + 1 ∧ scGo al mg mt me (wipeM env vs) (xs.drop (i + 1)) acc h2 q', ?_, ?_⟩
    · rintro H3 q
      exact ⟨xs.length - (i + 1), by omega, rfl, by omega, q⟩
    · intro v H3 y
      obtain ⟨x, ex3, sm, rvx⟩ := wk.yld _ _ _ i v H3 le2 r2 hal y hlt
      rw [List.getElem?_eq_getElem hlt] at ex3
      cases ex3
      have e3 : Ext μ₂ μ₂ H2 H3 := .same sm
      have r3 : Rel Y μ₂ h2 H3 := r2.same sm
      have s3 : SR Y μ₂ H3 (wipe σ vs) (wipeM env vs) := by
        have s0 := z.s.wipe vs
        exact ⟨s0.len, fun i x q => let ⟨v, a, b⟩ := s0.at_ i x q; ⟨v, a, (b.mono le2).mono e3.le⟩⟩
      refine sg μ₂ (wipeM env vs) h2 (wipe σ vs) H3 v xs[i] _ _ ⟨r3, s3⟩ rvx hg fun env4 h4 k4 μ₄ σ4 H4 e4 z4 w4 => ⟨?_, ?_⟩
      · rw [w4 vs hts, wipe_wipe]
      · refine st μ₄ env4 h4 σ4 H4 _ _ F0 z4 k4 (fun b h5 k5 μ₅ H5 e5 r5 => ?_) fun _ _ z => z.elim
        have e35 := (e3.trans e4).trans e5
        have eD5 : H5 D = some (SetGO P w D js) := (e4.trans e5).keep D _ hDm (sm D _ eD)
        cases b with
        | false =>
          rw [if_neg Bool.false_ne_true] at k5 ⊢
          exact ⟨μ₅, h5, acc, js, ex.trans e35.shown, e35.ex.trans exD, le2.trans e35.le, r5, eD5, hjs, nd, by omega, k5⟩
        | true =>
          rw [if_pos rfl] at k5 ⊢
          refine se μ₅ env4 h5 σ4 H5 _ _ F0 (z4.go e5 r5) k5 (fun y h6 k6 μ₆ vy H6 e6 r6 v6 => ?_) fun _ _ z => z.elim
          obtain ⟨kk, rfl, k6⟩ := k6
          have e36 := e35.trans e6
          have hDm6 : μ₆.m D = false := ((e4.trans e5).trans e6).nm hDm (by rw [sm D _ eD]; exact fun z => nomatch z)
          have eD6 : H6 D = some (SetGO P w D js) := ((e4.trans e5).trans e6).keep D _ hDm (sm D _ eD)
          have ex6 : μ₆.ex = D :: μ₁.ex := e36.ex.trans exD
          have hDh : μ₆.h D = true := by
            unfold Mp.h Mp.k
            rw [ex6]; simp
          have src6 : μ₆.src = μ₁.src := e36.src.trans ex.src
          have x6 : Ext μ₁ (μ₆.show μ₁.ex) H1 H6 := ex.trans e36.shown
          refine ⟨kk, js, vr_key v6, eD6, by unfold scanBound; omega, fun js' hj' hl' nd' => ⟨μ₆, h6, acc ++ [kk], js', ⟨x6.cells, x6.src, x6.ex, x6.freshm, fun b u nb e => ?_, fun b q => ?_, x6.tb⟩, ex6, ?_, r6.touch hDh hDm6 fun p l e => nl p l (src6 ▸ e), upd_same, fun j => ?_, nd', by omega, k6⟩⟩
          · rw [upd_ne (ne_of_none e hD)]; exact x6.keep b u nb e
          · by_cases eb : b = D
            · subst eb; exact absurd hD q
            · rw [upd_ne eb]; exact x6.there b q
          · rw [vis_hidden hDh]; exact le2.trans e36.le
          · rw [hj', hjs]; simp
  · have e : i = xs.length := by omega
    subst e
    rw [List.drop_length] at hgo
    exact .inl ⟨wk.stop _ _ _ _ le2 r2 hgo.1 (Nat.le_refl _), fin acc js h2 μ₂ H2 hgo.2 ex exD r2 eD hjs nd⟩
variable {tg iter elt : Expr} {ifs : List Expr}
theorem de_sortSC {scope : Scope} {own : List (PySem.Str × Nat)} (hgs : Gl X "sorted") (hms : X.mg "sorted" = none) (hc : X.calm = true) (hN : X.N.Nodup) (hi : DI X Y W tg iter mi) (ok : BlkOk X.N X.env.scope scope own)
    (hg : ∀ (s : Shared) (H : Hp) (C : Addr) (cl : List (PySem.Str × Addr)) (fp : List Addr), DG (X.blk s H scope (compEnvC scope cl C X.env) fp) Y ts tg mg) (ht : ∀ (s : Shared) (H : Hp) (C : Addr) (cl : List (PySem.Str × Addr)) (fp : List Addr), DTs (X.blk s H scope (compEnvC scope cl C X.env) fp) Y ifs mt)
    (he : ∀ (s : Shared) (H : Hp) (C : Addr) (cl : List (PySem.Str × Addr)) (fp : List Addr), DE (X.blk s H scope (compEnvC scope cl C X.env) fp) Y W0 elt me) (hts : ∀ j ∈ ts, j ∈ own.map (·.2)) (hs : ∀ x, foldedSetIterable iter X.env x = pure x := by intro _; rfl)
    (nb : starEach [.SetComp elt [⟨tg, iter, ifs, 0⟩] scope tpos] X.env = (false, eval (.SetComp elt [⟨tg, iter, ifs, 0⟩] scope tpos) X.env) :: starEach [] X.env := by rfl) :
    DE X Y W (.Call (.Name "sorted" p) [.SetComp elt [⟨tg, iter, ifs, 0⟩] scope tpos] [] pos) (eSortSC mi mg mt me (own.map (·.2))) := by
  obtain ⟨wi, i1, i2⟩ := hi
  refine ⟨_, pe_callB (id := "sorted") (cr_sortG hc) hgs hms (by decide +kernel) (pa_cons (pe_scG hc hN i1 ok (fun s H C cl fp => (hg s H C cl fp).pg) (fun s H C cl fp => (ht s H C cl fp).go) (fun s H C cl fp => (he s H C cl fp).pe) hs) pa_nil nb) (by decide) (by decide) nb rfl, fun μ env h σ H Q q x z hm kq kx => ?_⟩
  refine i2 μ env h σ H _ _ x z hm (fun xs al h1 ⟨hl, k⟩ μ₁ J H1 e1 r1 wk D hD => sc_go (P := X.prog) (w := X.w) (Q := fun v H2 => rSortG X.prog X.w [v] H2 Q) hts sg_of st_of se_of (z.go e1 r1) wk hl k D hD fun acc js h2 μ₂ H2 kf ex exD r2 eD hjs nd => ?_) kx
  obtain ⟨rs, les⟩ := r2.unhide exD
  exact sort_keys rs kf hjs nd eD fun v hv => ((kq _ _ hv).after e1).after ex
end
end Sx

end
section
set_option Elab.async false
set_option linter.all false
set_option maxRecDepth 100000
set_option maxHeartbeats 3200000
/-! SXJ: list(enumerate(x)) of a list -/
namespace Sx
open PySem PySem.Spec PyProof.Rows L2 Cl RZ ZN
abbrev enumObj (f0 f1 : Value) (it : Addr) (i : Int) (old : Value) : Obj := { cls := .type "enumerate", dict := none, data := .fields #[f0, f1, .ref it, rawInt i, .none, old], slots := #[] }
/-- an enumerate object amid its turns -/
def EnAt (h : Heap) (e it : Addr) (i : Nat) : Prop := ∃ f0 f1 old, h.get? e = some (enumObj f0 f1 it i old) ∧ ((f0 = .none ∧ f1 = .bool false) ∨ ∃ (a : Nat) (b : Bool), f0 = rawInt a ∧ f1 = .bool b)
section
variable {P : Program} {w : World} {A : Around} {E : Value → Shared → Prop} {s : Shared}
theorem wp_alive {a : Addr} {Q : Option Obj → Shared → Prop} (h : Q (s.heap.get? a) s) : wpAny (model P w) A (loadIfAlive a) Q E s := fun _ _ _ => h
/-- the next pair: a new tuple -/
theorem enum_next {e it l : Addr} {i : Nat} {items : Array Value} {x : Value} {Q : Option Value → Shared → Prop} (he : EnAt s.heap e it i) (hit : s.heap.IsListIter it l i) (hl : s.heap.IsList l items) (hx : items[i]? = some x) (hne : e ≠ it)
    (fin : ∀ h' t, EnAt h' e it (i + 1) → h'.IsListIter it l (i + 1) → h'.get? s.heap.objs.size = some { cls := .type "tuple", data := .seq #[.int i t, x] } → h'.objs.size = s.heap.objs.size + 1 → (∀ b o, b ≠ e → b ≠ it → s.heap.get? b = some o → h'.get? b = some o) → Q (some (.ref s.heap.objs.size)) { s with heap := h', toks := s.toks + 1 }) :
    wpAny (model P w) A (pyNext (.ref e)) Q E s := by
  obtain ⟨f0, f1, old, he, hf⟩ := he
  rcases hf with ⟨rfl, rfl⟩ | ⟨a, b, rfl, rfl⟩
  · exact wpAny_pyNext_enum_item (l := l) (items := items) (old := old) he hit hl hx hne fun h' o1 o2 o3 o4 o5 => fin h' s.toks ⟨_, _, _, o1, .inr ⟨_, false, rfl, rfl⟩⟩ o2 o3 o4 o5
  have ty : s.TypeIs (.ref e) "enumerate" := ⟨_, he, rfl⟩
  unfold pyNext
  refine wpAny_bind (wpAny_attempt (wpAny_callSpecial?_slot (name := Str.ofString "__next__") ty F.slot_enumerate_next (wpAny_call_entry F.slot_enumerate_next ty F.entry_enumerate_next ?_ (F.args_enumerate_next_1 _))))
  obtain ⟨hp, g, d, tk, os⟩ := s
  show wpAny _ _ (field (.ref e) 2 >>= _) _ _ _
  refine wpAny_bind (wpAny_field he rfl (x := .ref it) rfl (wpAny_bind (wpAny_nextOf_list_item hit hl hx fun h1 hit1 s1 => ?_)))
  replace s1 : Heap.SameBut it hp h1 := s1
  have he1 : h1.get? e = some (enumObj (rawInt a) (.bool b) it i old) := (s1.2 e hne).trans he
  show wpAny _ _ (field (.ref e) 3 >>= _) _ _ ⟨h1, g, d, tk, os⟩
  refine wpAny_bind (wpAny_field he1 rfl (x := rawInt i) rfl ?_)
  show wpAny _ _ (field (.ref e) 4 >>= _) _ _ ⟨h1, g, d, tk, os⟩
  refine wpAny_bind (wpAny_field he1 rfl (x := .none) rfl ?_)
  show wpAny _ _ (mkInt i >>= _) _ _ ⟨h1, g, d, tk, os⟩
  refine wpAny_bind (wpAny_mkInt ?_)
  show wpAny _ _ (setField (.ref e) 3 (rawInt ((i : Int) + 1)) >>= _) _ _ ⟨h1, g, d, tk + 1, os⟩
  refine wpAny_bind (wpAny_setField_rec he1 (by simp) fun h2 he2 s2 => ?_)
  replace s2 : Heap.SameBut e h1 h2 := s2
  replace he2 : h2.get? e = some (enumObj (rawInt a) (.bool b) it ((i : Int) + 1) old) := he2
  show wpAny _ _ (setField (.ref e) 4 .none >>= _) _ _ ⟨h2, g, d, tk + 1, os⟩
  refine wpAny_bind (wpAny_setField_rec he2 (by simp) fun h3 he3 s3 => ?_)
  replace s3 : Heap.SameBut e h2 h3 := s3
  replace he3 : h3.get? e = some (enumObj (rawInt a) (.bool b) it ((i : Int) + 1) old) := he3
  show wpAny _ _ (newTuple [.int i tk, x] >>= _) _ _ ⟨h3, g, d, tk + 1, os⟩
  refine wpAny_bind (wpAny_newTuple ?_)
  have sz : h3.objs.size = hp.objs.size := by rw [s3.1, s2.1, s1.1]
  have el : e < hp.objs.size := Heap.lt_size he
  have il : it < hp.objs.size := by obtain ⟨o, ho, _⟩ := hit; exact Heap.lt_size ho
  have he4 := Heap.get?_push_of_some { cls := .type "tuple", data := .seq #[.int i tk, x] } he3
  have t4 : (h3.push { cls := .type "tuple", data := .seq #[.int i tk, x] }).get? hp.objs.size = some { cls := .type "tuple", data := .seq #[.int i tk, x] } := by rw [← sz]; exact Heap.get?_push_size _ rfl
  have z4 : (h3.push { cls := .type "tuple", data := .seq #[.int i tk, x] }).objs.size = hp.objs.size + 1 := by rw [Heap.size_push, sz]
  have k4 : ∀ b' o, b' ≠ e → b' ≠ it → hp.get? b' = some o → (h3.push { cls := .type "tuple", data := .seq #[.int i tk, x] }).get? b' = some o := fun b' o n1 n2 q => Heap.get?_push_of_some _ (s3.extBut b' o n1 (s2.extBut b' o n1 (s1.extBut b' o n2 q)))
  have it4 : (h3.push { cls := .type "tuple", data := .seq #[.int i tk, x] }).IsListIter it l (i + 1) := by obtain ⟨o, ho, r⟩ := (hit1.extBut s2.extBut (Ne.symm hne)).extBut s3.extBut (Ne.symm hne); exact ⟨o, Heap.get?_push_of_some _ ho, r⟩
  generalize h3.push { cls := .type "tuple", data := .seq #[.int i tk, x] } = h4 at he4 t4 z4 k4 it4 ⊢
  rw [sz]
  show wpAny _ _ (Builtin.SmallTypes.ownedTupleIsFree (.ref e) >>= _) _ _ ⟨h4, g, d, tk + 1, os⟩
  have out : ∀ (h' : Heap) (f0 f1 old : Value), h'.get? e = some (enumObj f0 f1 it ((i : Int) + 1) old) → (∃ (a : Nat) (b : Bool), f0 = rawInt a ∧ f1 = .bool b) → (∀ b' o, b' ≠ e → h4.get? b' = some o → h'.get? b' = some o) → h'.objs.size = h4.objs.size → Q (some (.ref hp.objs.size)) ⟨h', g, d, tk + 1, os⟩ := fun h' f0 f1 old q1 q2 q3 q4 => by
    refine fin h' tk ⟨f0, f1, old, by simpa using q1, .inr q2⟩ ?_ (q3 _ _ (Nat.ne_of_gt el) t4) (by rw [q4, z4]) fun b' o n1 n2 q => q3 b' o n1 (k4 b' o n1 n2 q)
    obtain ⟨o, ho, r⟩ := it4
    exact ⟨o, q3 it o (Ne.symm hne) ho, r⟩
  refine wpAny_bind ?_
  unfold Builtin.SmallTypes.ownedTupleIsFree
  refine wpAny_bind (wpAny_field he4 rfl (x := rawInt a) rfl ?_)
  show wpAny _ _ (loadIfAlive a >>= _) _ _ _
  refine wpAny_bind (wp_alive ?_)
  cases ha : h4.get? a with
  | none =>
    simp only [Option.isNone_none, if_true]
    refine wpAny_pure ?_
    simp only [if_true]
    refine wpAny_bind (wpAny_rule (wpAny_bind (wpAny_field he4 rfl (x := old) rfl (wpAny_bind (wpAny_setField_rec he4 (by simp) fun h5 he5 s5 => ?_)))))
    replace s5 : Heap.SameBut e h4 h5 := s5
    replace he5 : h5.get? e = some (enumObj (rawInt a) (.bool b) it ((i : Int) + 1) x) := he5
    show wpAny _ _ (Builtin.SmallTypes.ownedTupleHandOut (.ref e) (.ref hp.objs.size) >>= _) _ _ ⟨h5, g, d, tk + 1, os⟩
    refine wpAny_bind ?_
    unfold Builtin.SmallTypes.ownedTupleHandOut
    refine wpAny_bind (wpAny_setField_rec he5 (by simp) fun h6 he6 s6 => ?_)
    replace s6 : Heap.SameBut e h5 h6 := s6
    replace he6 : h6.get? e = some (enumObj (rawInt hp.objs.size) (.bool b) it ((i : Int) + 1) x) := he6
    refine wpAny_setField_rec he6 (by simp) fun h7 he7 s7 => ?_
    replace s7 : Heap.SameBut e h6 h7 := s7
    replace he7 : h7.get? e = some (enumObj (rawInt hp.objs.size) (.bool false) it ((i : Int) + 1) x) := he7
    refine wpAny_bind (wpAny_letGo (wpAny_pure ⟨_, rfl, wpAny_pure (out h7 _ _ _ he7 ⟨_, _, rfl, rfl⟩ (fun b' o n q => s7.extBut b' o n (s6.extBut b' o n (s5.extBut b' o n q))) (by rw [s7.1, s6.1, s5.1]))⟩))
  | some o =>
    simp only [Option.isNone_some, Bool.false_eq_true, if_false]
    refine wpAny_bind (wpAny_field he4 rfl (x := .bool b) rfl ?_)
    cases b with
    | true =>
      rw [if_neg (by decide)]
      refine wpAny_pure ?_
      simp only [Bool.false_eq_true, if_false]
      exact wpAny_pure ⟨_, rfl, wpAny_pure (out h4 _ _ _ he4 ⟨_, _, rfl, rfl⟩ (fun _ _ _ q => q) rfl)⟩
    | false =>
      rw [if_pos (by decide)]
      refine wpAny_bind (wpAny_setField_rec he4 (by simp) fun h5 he5 s5 => wpAny_pure ?_)
      replace s5 : Heap.SameBut e h4 h5 := s5
      replace he5 : h5.get? e = some (enumObj (rawInt a) (.bool true) it ((i : Int) + 1) old) := he5
      simp only [Bool.false_eq_true, if_false]
      exact wpAny_pure ⟨_, rfl, wpAny_pure (out h5 _ _ _ he5 ⟨_, _, rfl, rfl⟩ (fun b' o n q => s5.extBut b' o n q) s5.1)⟩
theorem enum_end {e it l : Addr} {i : Nat} {items : Array Value} {Q : Option Value → Shared → Prop} (hh : A.handled = none) (he : EnAt s.heap e it i) (hit : s.heap.IsListIter it l i) (hl : s.heap.IsList l items) (hx : items[i]? = none)
    (fin : ∀ h', Heap.ExtBut it s.heap h' → Q none { s with heap := h' }) : wpAny (model P w) A (pyNext (.ref e)) Q E s := by
  obtain ⟨f0, f1, old, he, _⟩ := he
  have ty : s.TypeIs (.ref e) "enumerate" := ⟨_, he, rfl⟩
  unfold pyNext
  refine wpAny_bind (wpAny_attempt (wpAny_callSpecial?_slot (name := Str.ofString "__next__") ty F.slot_enumerate_next (wpAny_call_entry F.slot_enumerate_next ty F.entry_enumerate_next ?_ (F.args_enumerate_next_1 _))))
  show wpAny _ _ (field (.ref e) 2 >>= _) _ _ _
  refine wpAny_bind (wpAny_field he rfl (x := .ref it) rfl (wpAny_bind (wpAny_nextOf_list_end hh hit hl hx fun h' x ext hs => ?_)))
  obtain ⟨o, ho, hc⟩ := hs
  exact wpAny_bind (wpAny_isInstance (T := "StopIteration") (b := true) ⟨o, ho, hc⟩ isSubtype_stop (wpAny_pure (fin _ ext)))
end
/-- amid the gathering: ts the pairs that have come -/
structure EnS (s0 : Shared) (S e it l : Addr) (items : Array Value) (i : Nat) (ts : List Addr) (z : Shared) : Prop where
  en : EnAt z.heap e it i
  li : z.heap.IsListIter it l i
  ls : z.heap.IsList l items
  st : ∃ c, z.heap.get? S = some { cls := .type "list", dict := none, data := .seq (ts.map Value.ref).toArray c, slots := #[] }
  ln : ts.length = i
  tu : ∀ (j : Nat) T, ts[j]? = some T → s0.heap.objs.size ≤ T ∧ T ≠ S ∧ T ≠ e ∧ T ≠ it ∧ T < z.heap.objs.size ∧ ∃ t x, items[j]? = some x ∧ z.heap.get? T = some { cls := .type "tuple", data := .seq #[.int j t, x] }
  nd : ts.Nodup
  kp : ∀ b o, s0.heap.get? b = some o → z.heap.get? b = some o
  gn : z.gens = s0.gens
  os : z.os = s0.os
section
variable {P : Program} {w : World} {A : Around} {E : Value → Shared → Prop} {s0 : Shared} {S e it l : Addr} {items : Array Value} {R : Result → Shared → Prop}
/-- all has come -/
structure EnD (s0 : Shared) (S : Addr) (items : Array Value) (ts : List Addr) (z : Shared) : Prop where
  st : ∃ c, z.heap.get? S = some { cls := .type "list", dict := none, data := .seq (ts.map Value.ref).toArray c, slots := #[] }
  ln : ts.length = items.size
  tu : ∀ (j : Nat) T, ts[j]? = some T → s0.heap.objs.size ≤ T ∧ T ≠ S ∧ ∃ t x, items[j]? = some x ∧ z.heap.get? T = some { cls := .type "tuple", data := .seq #[.int j t, x] }
  nd : ts.Nodup
  kp : ∀ b o, s0.heap.get? b = some o → z.heap.get? b = some o
  gn : z.gens = s0.gens
  os : z.os = s0.os
theorem enum_gather (hh : A.handled = none) (hS : s0.heap.objs.size ≤ S) (he : s0.heap.objs.size ≤ e) (hi0 : s0.heap.objs.size ≤ it) (hl : l < s0.heap.objs.size) (nSe : S ≠ e) (nSi : S ≠ it) (nei : e ≠ it) (big : items.size ≤ 90000) (res : Value) (fin : ∀ z ts, EnD s0 S items ts z → R (.ok (.ret res)) z) :
    ∀ (m i : Nat) (ts : List Addr) (z : Shared), items.size - i = m → i ≤ items.size → EnS s0 S e it l items i ts z → codeAny (model P w) A (.builtin "list.extend.loop" ⟨[.ref S, .ref e, res], []⟩) R z := by
  have old : ∀ {b : Addr} {o : Obj}, s0.heap.get? b = some o → b ≠ S ∧ b ≠ e ∧ b ≠ it := fun {b o} q => by
    have hb : b < s0.heap.objs.size := Heap.lt_size q
    exact ⟨Nat.ne_of_lt (Nat.lt_of_lt_of_le hb hS), Nat.ne_of_lt (Nat.lt_of_lt_of_le hb he), Nat.ne_of_lt (Nat.lt_of_lt_of_le hb hi0)⟩
  intro m
  induction m with
  | zero =>
    intro i ts z hm hi X
    obtain rfl : i = items.size := by omega
    refine codeAny_builtin F.entry_extend_loop ?_; rw [Around.under_plainId F.plain_extend_loop _]
    show wpAny _ A.in1 (pyNext (.ref e) >>= _) _ _ z
    refine wpAny_bind (enum_end (l := l) (items := items) (by simp [hh]) X.en X.li X.ls (by simp) fun h' ext => wpAny_pure (fin { z with heap := h' } ts ⟨?_, X.ln, fun j T q => ?_, X.nd, fun b o q => ext b o (old q).2.2 (X.kp b o q), X.gn, X.os⟩))
    · obtain ⟨c, q⟩ := X.st; exact ⟨c, ext S _ nSi q⟩
    · obtain ⟨a1, a2, a3, a4, a5, t, x, b1, b2⟩ := X.tu j T q
      exact ⟨a1, a2, t, x, b1, ext T _ a4 b2⟩
  | succ m ih =>
    intro i ts z hm hi X
    have lt : i < items.size := by omega
    obtain ⟨c, hSz⟩ := X.st
    refine codeAny_builtin F.entry_extend_loop ?_; rw [Around.under_plainId F.plain_extend_loop _]
    show wpAny _ A.in1 (pyNext (.ref e) >>= _) _ _ z
    refine wpAny_bind (enum_next (l := l) (items := items) (x := items[i]) X.en X.li X.ls (by simp [lt]) nei fun h' t en li tup sz keep => ?_)
    have Sz := Heap.lt_size hSz
    have hS' := keep S _ nSe nSi hSz
    show wpAny _ A.in1 (updateSeq S (·.push (.ref z.heap.objs.size)) >>= _) _ _ _
    have acs : (ts.map Value.ref).toArray.size = i := by simp [X.ln]
    refine wpAny_bind (wpAny_updateSeq hS' rfl (wpAny_pure ⟨plainId_quiet F.plain_extend_loop _, ih (i + 1) (ts ++ [z.heap.objs.size]) _ (by omega) lt ?_⟩) (by rw [acs, sizeLine_eq]; omega) (by show ((ts.map Value.ref).toArray.push _).size ≤ sizeLine + 1; rw [Array.size_push, acs, sizeLine_eq]; omega))
    have oth : ∀ b o, b ≠ S → h'.get? b = some o → (h'.update S (Obj.mapSeq (·.push (.ref z.heap.objs.size)))).get? b = some o := fun b o nb q => (Heap.get?_update_other _ _ (Ne.symm nb)).trans q
    have hse := Heap.get?_update_self (Obj.mapSeq (·.push (.ref z.heap.objs.size))) hS' rfl
    have szu : (h'.update S (Obj.mapSeq (·.push (.ref z.heap.objs.size)))).objs.size = h'.objs.size := Heap.size_update ..
    have zge : s0.heap.objs.size ≤ z.heap.objs.size := by
      obtain ⟨f0, f1, old', q, _⟩ := X.en
      exact Nat.le_of_lt (Nat.lt_of_le_of_lt he (Heap.lt_size q))
    have elt : e < z.heap.objs.size := by obtain ⟨f0, f1, old', q, _⟩ := X.en; exact Heap.lt_size q
    have ilt : it < z.heap.objs.size := by obtain ⟨o, q, _⟩ := X.li; exact Heap.lt_size q
    refine ⟨?_, ?_, ?_, ?_, by simp [X.ln], fun j T q => ?_, ?_, fun b o q => oth b o (old q).1 (keep b o (old q).2.1 (old q).2.2 (X.kp b o q)), X.gn, X.os⟩
    · obtain ⟨f0, f1, o, q, r⟩ := en; exact ⟨f0, f1, o, oth e _ (Ne.symm nSe) q, r⟩
    · obtain ⟨o, q, r⟩ := li; exact ⟨o, oth it _ (Ne.symm nSi) q, r⟩
    · obtain ⟨o, q, r⟩ := X.ls
      exact ⟨o, oth l _ (Nat.ne_of_lt (Nat.lt_of_lt_of_le hl hS)) (keep l o (Nat.ne_of_lt (Nat.lt_of_lt_of_le hl he)) (Nat.ne_of_lt (Nat.lt_of_lt_of_le hl hi0)) q), r⟩
    · have : (ts ++ [z.heap.objs.size]).map Value.ref = (ts.map Value.ref) ++ [.ref z.heap.objs.size] := by simp
      rw [this]
      exact ⟨_, by simpa [Obj.mapSeq] using hse⟩
    · by_cases hj : j < ts.length
      · rw [List.getElem?_append_left hj] at q
        obtain ⟨a1, a2, a3, a4, a5, t', x, b1, b2⟩ := X.tu j T q
        refine ⟨a1, a2, a3, a4, ?_, t', x, b1, oth T _ a2 (keep T _ a3 a4 b2)⟩
        show T < (h'.update S _).objs.size
        rw [szu, sz]; exact Nat.lt_succ_of_lt a5
      · have hj2 : j = ts.length := by
          have := (List.getElem?_eq_some_iff.mp q).1
          simp at this; omega
        subst hj2
        have : T = z.heap.objs.size := by simpa using q.symm
        subst this
        have hln := X.ln
        refine ⟨zge, Nat.ne_of_gt Sz, Nat.ne_of_gt elt, Nat.ne_of_gt ilt, ?_, t, items[i], by rw [hln]; simp [lt], ?_⟩
        · show _ < (h'.update S _).objs.size
          rw [szu, sz]; exact Nat.lt_succ_self _
        · rw [hln]; exact oth _ _ (Nat.ne_of_gt Sz) tup
    · rw [List.nodup_append]
      refine ⟨X.nd, by simp, fun a ha b hb => ?_⟩
      obtain ⟨j, hj⟩ := List.getElem?_of_mem ha
      have := (X.tu j a hj).2.2.2.2.1
      simp at hb
      rw [hb]; exact Nat.ne_of_lt this
end
end Sx

end
section
set_option Elab.async false
set_option linter.all false
set_option maxRecDepth 100000
set_option maxHeartbeats 3200000
/-! SXK: list(enumerate(x)), the rule -/
namespace Sx
open PySem PySem.Spec PyProof.Rows L2 Cl RZ ZN
theorem enum_no_len : typeLookup (.type "enumerate") "__len__" = pure none := by rw [typeLookup_type, builtinLookup_eq_fast]; kernel_rfl
theorem enum_no_hint : typeLookup (.type "enumerate") "__length_hint__" = pure none := by rw [typeLookup_type, builtinLookup_eq_fast]; kernel_rfl
section
variable {P : Program} {w : World} {A : Around} {E : Value → Shared → Prop} {s0 s : Shared} {l : Addr} {items : Array Value}
/-- list(e), e an enumerate object that has not begun -/
theorem list_enum {Q : Value → Shared → Prop} (hh : A.handled = none) (hl : s0.heap.IsList l items) (big : items.size ≤ 90000) (en : IsEnum s.heap (s0.heap.objs.size + 1) s0.heap.objs.size 0 .none) (li : s.heap.IsListIter s0.heap.objs.size l 0) (sz : s.heap.objs.size = s0.heap.objs.size + 2)
    (kp : ∀ b o, s0.heap.get? b = some o → s.heap.get? b = some o) (gn : s.gens = s0.gens) (os : s.os = s0.os) (fin : ∀ z ts, EnD s0 (s0.heap.objs.size + 2) items ts z → Q (.ref (s0.heap.objs.size + 2)) z) :
    wpAny (model P w) A (call (.type "list") [.ref (s0.heap.objs.size + 1)]) Q E s := by
  refine callType_codes (Q₁ := fun v z => v = .ref s.heap.objs.size ∧ z = { s with heap := s.heap.push { cls := .type "list", data := .seq #[] } }) F.called_list (F.typeCall_list_1 _) F.entry_list_init (code_list_new _ ⟨rfl, rfl⟩) fun obj z hz => ?_
  obtain ⟨rfl, rfl⟩ := hz
  rw [sz]
  have hS : (s.heap.push { cls := .type "list", data := .seq #[] }).get? (s0.heap.objs.size + 2) = some { cls := .type "list", data := .seq #[] } := by rw [← sz]; exact Heap.get?_push_size _ rfl
  refine ⟨⟨_, hS, rfl⟩, F.args_list_init_2 _ _, ?_⟩
  show wpAny _ _ (do let old ← Builtin.List.listItems (.ref (s0.heap.objs.size + 2)); Builtin.List.listUpdate (.ref (s0.heap.objs.size + 2)) (fun _ => #[]); letGo old.toList.reverse; Builtin.List.listExtendWith (.ref (s0.heap.objs.size + 2)) (.ref (s0.heap.objs.size + 1)) .none) _ _ _
  refine wpAny_bind ?_; unfold Builtin.List.listItems
  refine wpAny_bind (wpAny_seqItems hS rfl (wpAny_pure ?_))
  show wpAny _ _ (updateSeq (s0.heap.objs.size + 2) (fun _ => #[]) >>= fun _ => letGo (#[] : Array Value).toList.reverse >>= fun _ => Builtin.List.listExtendWith (.ref (s0.heap.objs.size + 2)) (.ref (s0.heap.objs.size + 1)) .none) _ _ _
  refine wpAny_bind (wpAny_updateSeq hS rfl (wpAny_bind (wpAny_letGo ?_)))
  have hS2 := Heap.get?_update_self (Obj.mapSeq (fun _ => (#[] : Array Value))) hS rfl
  have ne1 : s0.heap.objs.size + 2 ≠ s0.heap.objs.size + 1 := by omega
  have ne2 : s0.heap.objs.size + 2 ≠ s0.heap.objs.size := by omega
  have oth : ∀ b o, b ≠ s0.heap.objs.size + 2 → s.heap.get? b = some o → ((s.heap.push { cls := .type "list", data := .seq #[] }).update (s0.heap.objs.size + 2) (Obj.mapSeq (fun _ => (#[] : Array Value)))).get? b = some o := fun b o nb q => (Heap.get?_update_other _ _ (Ne.symm nb)).trans (Heap.get?_push_of_some _ q)
  generalize hg : (s.heap.push { cls := .type "list", data := .seq #[] }).update (s0.heap.objs.size + 2) (Obj.mapSeq (fun _ => (#[] : Array Value))) = g at hS2 oth ⊢
  have en2 : IsEnum g (s0.heap.objs.size + 1) s0.heap.objs.size 0 .none := oth _ _ (Ne.symm ne1) en
  have ty : Shared.TypeIs { s with heap := g } (.ref (s0.heap.objs.size + 1)) "enumerate" := ⟨_, en2, rfl⟩
  unfold Builtin.List.listExtendWith
  refine wpAny_bind (wpAny_typeOf ty ?_)
  have c1 : Builtin.List.listSameRef (.ref (s0.heap.objs.size + 2)) (.ref (s0.heap.objs.size + 1)) = false := by simp [Builtin.List.listSameRef]
  have c2 : (Value.type "enumerate" == Value.type "list") = false := by decide
  have c3 : (Value.type "enumerate" == Value.type "tuple") = false := by decide
  simp only [c1, c2, c3, Bool.or_false, Bool.false_eq_true, if_false]
  refine wpAny_bind (wpAny_pyIter_enum en2 (wpAny_bind (wpAny_holding ?_)))
  unfold Builtin.List.listLengthHint
  refine wpAny_bind (wpAny_specialOf ty enum_no_len ?_)
  show wpAny _ _ (specialOf (Value.ref (s0.heap.objs.size + 1)) (Str.ofString "__length_hint__") >>= _) _ _ _
  refine wpAny_bind (wpAny_specialOf ty enum_no_hint (wpAny_pure ?_))
  show wpAny _ _ (rule "list.extend.makes-room" >>= fun _ => Builtin.List.listTouch (.ref (s0.heap.objs.size + 2)) >>= fun _ => again (.builtin "list.extend.loop" ⟨[.ref (s0.heap.objs.size + 2), .ref (s0.heap.objs.size + 1), .none], []⟩)) _ _ _
  refine wpAny_bind (wpAny_rule (wpAny_bind ?_))
  show wpAny _ _ (updateSeq (s0.heap.objs.size + 2) (·.push .none) >>= fun _ => updateSeq (s0.heap.objs.size + 2) (·.pop)) _ _ _
  refine wpAny_bind (wpAny_updateSeq hS2 rfl ?_)
  have hS3 := Heap.get?_update_self (Obj.mapSeq (·.push Value.none)) hS2 rfl
  refine wpAny_updateSeq (hz := by seq_fits) hS3 rfl ?_
  have hS4 := Heap.get?_update_self (Obj.mapSeq (·.pop)) hS3 rfl
  have oth2 : ∀ b o, b ≠ s0.heap.objs.size + 2 → g.get? b = some o → ((g.update (s0.heap.objs.size + 2) (Obj.mapSeq (·.push Value.none))).update (s0.heap.objs.size + 2) (Obj.mapSeq (·.pop))).get? b = some o := fun b o nb q => (Heap.get?_update_other _ _ (Ne.symm nb)).trans ((Heap.get?_update_other _ _ (Ne.symm nb)).trans q)
  have llt : l < s0.heap.objs.size := by obtain ⟨o, q, _⟩ := hl; exact Heap.lt_size q
  refine wpAny_pure ⟨plainId_quiet F.plain_extend_loop _, enum_gather (s0 := s0) (l := l) (items := items) (by simp [hh]) (Nat.le_add_right _ 2) (Nat.le_add_right _ 1) (Nat.le_refl _) llt ne1 ne2 (Nat.succ_ne_self _) big .none (fun z ts D => ⟨rfl, fin z ts D⟩) items.size 0 [] _ rfl (Nat.zero_le _) ?_⟩
  refine ⟨⟨_, _, _, oth2 _ _ (Ne.symm ne1) en2, .inl ⟨rfl, rfl⟩⟩, ?_, ?_, ⟨_, by simpa [Obj.mapSeq] using hS4⟩, rfl, fun j T q => by simp at q, .nil, fun b o q => ?_, gn, os⟩
  · obtain ⟨o, q, r⟩ := li; exact ⟨o, oth2 _ _ (Ne.symm ne2) (oth _ _ (Ne.symm ne2) q), r⟩
  · obtain ⟨o, q, r⟩ := hl
    have nl : l ≠ s0.heap.objs.size + 2 := Nat.ne_of_lt (Nat.lt_add_right 2 llt)
    exact ⟨o, oth2 _ _ nl (oth _ _ nl (kp _ _ q)), r⟩
  · have hb : b < s0.heap.objs.size := Heap.lt_size q
    have nb : b ≠ s0.heap.objs.size + 2 := Nat.ne_of_lt (Nat.lt_add_right 2 hb)
    exact oth2 _ _ nb (oth _ _ nb (kp _ _ q))
end
/-! ### many new tuples at once -/
def lay (H : Hp) : List (Addr × List V) → Hp
  | [] => H
  | p :: ps => upd (lay H ps) p.1 (.tup p.2)
theorem lay_out {H : Hp} {b : Addr} : ∀ {ps : List (Addr × List V)}, b ∉ ps.map (·.1) → lay H ps b = H b
  | [], _ => rfl
  | p :: ps, h => by
    simp only [List.map_cons, List.mem_cons, not_or] at h
    show upd (lay H ps) p.1 _ b = _
    rw [upd_ne h.1]; exact lay_out h.2
theorem lay_in {H : Hp} : ∀ {ps : List (Addr × List V)}, (ps.map (·.1)).Nodup → ∀ p ∈ ps, lay H ps p.1 = some (.tup p.2)
  | [], _, p, h => by simp at h
  | q :: ps, nd, p, h => by
    simp only [List.map_cons, List.nodup_cons] at nd
    show upd (lay H ps) q.1 _ p.1 = _
    rcases List.mem_cons.mp h with e | h
    · rw [e, upd_same]
    · rw [upd_ne fun z => nd.1 (by rw [← z]; exact List.mem_map.mpr ⟨p, h, rfl⟩)]; exact lay_in nd.2 p h
theorem lay_same {H : Hp} {ps : List (Addr × List V)} (hn : ∀ a ∈ ps.map (·.1), H a = none) : Same H (lay H ps) := fun b o e => by
  rw [lay_out fun z => by rw [hn b z] at e; cases e]; exact e
/-- list(enumerate(x)) -/
def tLstEn (K : PySem.W.Frag) (te : TE) : TE := fun σ H Q => te σ H fun x H1 => ∃ (a : Addr) (xs : List V), x = .ref a ∧ SqL K H1 a xs ∧ xs.length ≤ 4000 ∧
  ∀ (ps : List (Addr × List V)) (S : Addr), (ps.map (·.1)).Nodup → (∀ b ∈ ps.map (·.1), H1 b = none) → S ∉ ps.map (·.1) → H1 S = none → ps.length = xs.length → (∀ (j : Nat) p, ps[j]? = some p → ∃ x, xs[j]? = some x ∧ p.2 = [.int (j : Int), x]) →
    Q (.ref S) (upd (lay H1 ps) S (.lst (ps.map fun p => .ref p.1)))
theorem vals_at {xs : List V} {us : List Value} {j : Nat} {u : Value} : Vals xs us → us[j]? = some u → ∃ x, xs[j]? = some x ∧ RelV x u := fun r => by
  induction r generalizing j with
  | nil => intro e; simp at e
  | cons a b ih =>
    intro e
    cases j with
    | zero => simp at e; subst e; exact ⟨_, rfl, a⟩
    | succ j => obtain ⟨x, h1, h2⟩ := ih (j := j) (by simpa using e); exact ⟨x, by simpa using h1, h2⟩
theorem vals_map {α : Type} {f : α → V} {g : α → Value} : ∀ {l : List α}, (∀ a ∈ l, RelV (f a) (g a)) → Vals (l.map f) (l.map g)
  | [], _ => .nil
  | a :: l, h => .cons (h a (by simp)) (vals_map fun b hb => h b (by simp [hb]))
section
variable {X : Cx} {e : Expr} {te : TE} {p p2 pos pos2 : Pos}
theorem pe_listEnum (hc : X.calm = true) (hg : Gl X "list") (hm : X.mg "list" = none) (hg2 : Gl X "enumerate") (hm2 : X.mg "enumerate" = none) (he : PE X e te) (na : starEach [e] X.env = (false, eval e X.env) :: starEach [] X.env := by rfl)
    (nb : starEach [.Call (.Name "enumerate" p2) [e] [] pos2] X.env = (false, eval (.Call (.Name "enumerate" p2) [e] [] pos2) X.env) :: starEach [] X.env := by rfl) : PE X (.Call (.Name "list" p) [.Call (.Name "enumerate" p2) [e] [] pos2] [] pos) (tLstEn X.K te) := by
  refine ⟨fun pins s σ H Q I h => ?_⟩
  refine Call_ (ld_blt I hg hm boot_list (PyProof.Rows.callWith_type1 (args_cons (thn (Q := fun u z => ∃ (s1 : Shared) (H1 : Hp) (a : Addr) (xs : List V), L2.Inv X pins σ H1 s1 ∧ SqL X.K H1 a xs ∧ xs.length ≤ 4000 ∧ u = .ref (s1.heap.objs.size + 1) ∧ (∃ h', z = { s1 with heap := h' } ∧ IsEnum h' (s1.heap.objs.size + 1) s1.heap.objs.size 0 .none ∧ h'.IsListIter s1.heap.objs.size a 0 ∧ h'.objs.size = s1.heap.objs.size + 2 ∧ ∀ b o, s1.heap.get? b = some o → h'.get? b = some o) ∧
      ∀ (ps : List (Addr × List V)) (S : Addr), (ps.map (·.1)).Nodup → (∀ b ∈ ps.map (·.1), H1 b = none) → S ∉ ps.map (·.1) → H1 S = none → ps.length = xs.length → (∀ (j : Nat) p, ps[j]? = some p → ∃ x, xs[j]? = some x ∧ p.2 = [.int (j : Int), x]) → Q (.ref S) (upd (lay H1 ps) S (.lst (ps.map fun p => .ref p.1)))) ?inner fun u z hu => args_nil ?outer) nb) nb))
  case inner =>
    refine Call_ (ld_blt I hg2 hm2 boot_enumerate (PyProof.Rows.callWith_type1 (args_cons (thn (he.run pins s σ H _ I h) fun u s1 hu => args_nil ?_) na) na))
    obtain ⟨x, H1, I1, rx, a, xs, ex, hq, hl, q⟩ := hu
    subst ex
    obtain rfl : u = Value.ref a := rx
    obtain ⟨its, rv, pl, _⟩ := I1.list hq
    exact call_enumerate_list pl.isList fun h' en li sz kp => ⟨s1, H1, a, xs, I1, hq, hl, rfl, ⟨h', rfl, en, li, sz, kp⟩, q⟩
  case outer =>
    obtain ⟨s1, H1, a, xs, I1, hq, hl, rfl, ⟨h', rfl, en, li, sz, kp⟩, q⟩ := hu
    obtain ⟨its, rv, pl, _⟩ := I1.list hq
    have ln : its.length = xs.length := (Paired.length rv).symm
    refine list_enum (s0 := s1) (I1.ok.hd hc) pl.isList (by simp [ln]; omega) en li sz kp rfl rfl fun z ts D => ?_
    have tl : ts.length = xs.length := by rw [D.ln]; simp [ln]
    -- the pairs
    have ex : ∃ ps : List (Addr × List V), ps.map (·.1) = ts ∧ ∀ (j : Nat) p, ps[j]? = some p → ∃ x, xs[j]? = some x ∧ p.2 = [.int (j : Int), x] := by
      refine ⟨ts.zip ((List.range xs.length).map fun (j : Nat) => [V.int (j : Int), xs.getD j .non]), ?_, fun j p hp => ?_⟩
      · rw [List.map_fst_zip]; simp [tl]
      · obtain ⟨h1, h2⟩ := List.getElem?_eq_some_iff.mp hp
        have hj : j < xs.length := by simp [tl] at h1; exact h1
        refine ⟨xs[j], List.getElem?_eq_getElem hj, ?_⟩
        rw [← h2]
        simp [hj]
    obtain ⟨ps, hps, hat⟩ := ex
    have fr : ∀ b ∈ ps.map (·.1), H1 b = none := fun b hb => by
      rw [hps] at hb
      obtain ⟨j, hj⟩ := List.getElem?_of_mem hb
      exact I1.hok.fresh (D.tu j b hj).1
    have nS : s1.heap.objs.size + 2 ∉ ps.map (·.1) := fun hb => by
      rw [hps] at hb
      obtain ⟨j, hj⟩ := List.getElem?_of_mem hb
      exact (D.tu j _ hj).2.1 rfl
    have hSn : H1 (s1.heap.objs.size + 2) = none := I1.hok.fresh (Nat.le_add_right _ 2)
    have nd : (ps.map (·.1)).Nodup := by rw [hps]; exact D.nd
    have pl2 : ps.length = xs.length := by rw [← tl, ← hps, List.length_map]
    have qq := q ps (s1.heap.objs.size + 2) nd fr nS hSn pl2 hat
    have sm : Same H1 (upd (lay H1 ps) (s1.heap.objs.size + 2) (.lst (ps.map fun p => .ref p.1))) := (lay_same fr).trans (same_new (by rw [lay_out nS]; exact hSn))
    have oldn : ∀ {b : Addr} {o : Obj}, s1.heap.get? b = some o → H1 b = none → upd (lay H1 ps) (s1.heap.objs.size + 2) (.lst (ps.map fun p => .ref p.1)) b = none := fun {b o} hb hn => by
      have hlt : b < s1.heap.objs.size := Heap.lt_size hb
      rw [upd_ne (Nat.ne_of_lt (Nat.lt_add_right 2 hlt)), lay_out fun hm => ?_]
      · exact hn
      · rw [hps] at hm
        obtain ⟨j, hj⟩ := List.getElem?_of_mem hm
        exact absurd hlt (Nat.not_lt_of_le (D.tu j b hj).1)
    have J : L2.Inv X pins σ (upd (lay H1 ps) (s1.heap.objs.size + 2) (.lst (ps.map fun p => .ref p.1))) z := by
      refine I1.call' (ch := []) D.os ⟨fun b o hb _ _ _ => D.kp b o hb, fun b o hb _ _ _ => ⟨o.slots, D.kp b o hb⟩, fun b o hb hn _ => oldn hb hn, fun b o hb _ => ⟨o, D.kp b o hb⟩, fun b xs e => sm _ _ e, fun b o u e => sm _ _ e, fun b qs e => ⟨#[], by rw [sm _ _ e]; simp⟩⟩ (fun b o ho => ?_) (by rw [D.gn]; exact I1.bare) (fun b hb => by simp at hb)
      by_cases hbS : b = s1.heap.objs.size + 2
      · rw [hbS, upd_same] at ho
        cases ho
        obtain ⟨c, hc'⟩ := D.st
        rw [hbS]
        refine ⟨?_, ts.map Value.ref, c, ?_, hc'⟩
        · rw [List.length_map, pl2, sizeLine_eq]; omega
        · rw [← hps, List.map_map]
          exact vals_map fun a _ => rfl
      · rw [upd_ne hbS] at ho
        by_cases hm : b ∈ ps.map (·.1)
        · obtain ⟨pr, hpr, rfl⟩ := List.mem_map.mp hm
          rw [lay_in nd pr hpr] at ho
          cases ho
          obtain ⟨j, hj⟩ := List.getElem?_of_mem hpr
          obtain ⟨x, hx, e2⟩ := hat j pr hj
          have htj : ts[j]? = some pr.1 := by rw [← hps, List.getElem?_map, hj]; rfl
          obtain ⟨_, _, t, v, hv, hT⟩ := D.tu j _ htj
          obtain ⟨x', hx', rx⟩ := vals_at rv (show its[j]? = some v by simpa using hv)
          rw [hx] at hx'
          cases hx'
          refine ⟨by rw [e2, sizeLine_eq]; simp, [.int (j : Int) t, v], ?_, ⟨_, hT, rfl, 0, rfl⟩⟩
          rw [e2]
          exact .cons ⟨t, rfl⟩ (.cons rx .nil)
        · rw [lay_out hm] at ho
          exact (I1.hok b o ho).stay (fun c u _ hu => D.kp c u hu) (fun c hc' => sm _ _ hc') fun c ys hc' => sm _ _ hc'
    exact ⟨.ref (s1.heap.objs.size + 2), _, J, rfl, qq⟩
end
/-! ### over plain values -/
def enumM (xs : List Val) : List Val := (List.range xs.length).map fun (j : Nat) => .tup [.int (j : Int), xs.getD j .non]
def eListEn (m : ME) : ME := fun env h q x => m env h (fun v h1 => ∃ xs, lstOf h1 v = some xs ∧ xs.length ≤ 4000 ∧ q (.lst (enumM xs)) h1) x
section
variable {X : Cx} {Y : Ky} {W : WX} {me : ME} {e : Expr} {p p2 pos pos2 : Pos}
theorem de_listEn (hK : X.K = Y.K) (hc : X.calm = true) (hg : Gl X "list") (hm : X.mg "list" = none) (hg2 : Gl X "enumerate") (hm2 : X.mg "enumerate" = none) (ha : DE X Y W e me) (na : starEach [e] X.env = (false, eval e X.env) :: starEach [] X.env := by rfl)
    (nb : starEach [.Call (.Name "enumerate" p2) [e] [] pos2] X.env = (false, eval (.Call (.Name "enumerate" p2) [e] [] pos2) X.env) :: starEach [] X.env := by rfl) : DE X Y W (.Call (.Name "list" p) [.Call (.Name "enumerate" p2) [e] [] pos2] [] pos) (eListEn me) := by
  obtain ⟨t, a1, a2⟩ := ha
  refine ⟨_, pe_listEnum hc hg hm hg2 hm2 a1 na nb, fun μ env h σ H Q q x z hm kq kx => ?_⟩
  refine a2 μ env h σ H _ _ x z hm (fun v h1 ⟨xs, el, hl, k⟩ μ1 U H1 e1 r1 v1 => ?_) kx
  obtain ⟨a, vs, rfl, h2, t2⟩ := rd_lst r1 v1 el
  have ln := t2.length
  refine ⟨a, vs, rfl, SqL.of h2, by omega, fun ps S nd fr nS hS pl hat => ?_⟩
  have sm1 : Same H1 (lay H1 ps) := lay_same fr
  have hS' : lay H1 ps S = none := by rw [lay_out nS]; exact hS
  have r2 := r1.same sm1
  refine ((kq _ _ k).after (e1.trans (.same sm1))).new r2 hS' fun e s => .lst e ?_
  refine vrs_get (by simp [enumM]; omega) fun j v d hv hd => ?_
  rw [List.getElem?_map] at hv
  cases hp : ps[j]? with
  | none => rw [hp] at hv; cases hv
  | some pr =>
    rw [hp] at hv
    cases hv
    obtain ⟨u, hu, e2⟩ := hat j pr hp
    obtain ⟨w', hw, rw'⟩ := t2.get hu
    have hj : j < xs.length := (List.getElem?_eq_some_iff.mp hw).1
    have ed : d = .tup [.int (j : Int), w'] := by
      have : (enumM xs)[j]? = some (.tup [.int (j : Int), xs.getD j .non]) := by simp [enumM, hj]
      rw [this] at hd
      cases hd
      rw [List.getD_eq_getElem?_getD, hw]; rfl
    rw [ed]
    have atp : lay H1 ps pr.1 = some (.tup pr.2) := lay_in nd pr (List.mem_of_getElem? hp)
    have vsp : vis μ1 (lay H1 ps) pr.1 = some (.tup pr.2) := by
      refine hid_of ?_ atp
      cases q : μ1.h pr.1 with
      | false => rfl
      | true => exact absurd (fr pr.1 (List.mem_map.mpr ⟨pr, List.mem_of_getElem? hp, rfl⟩)) (r1.good pr.1 q)
    rw [e2] at vsp
    exact .tup (SqT.of (s _ _ vsp)) (.cons (.int _) (.one ((rw'.mono (Ext.same sm1).le).sm s)))
end
end Sx

end
section
set_option Elab.async false
set_option linter.all false
set_option maxRecDepth 100000
set_option maxHeartbeats 3200000
/-! SXL: split, f-strings, int(text), x += e, insert, clear -/
namespace Sx
open PySem PySem.Spec PyProof.Rows L2 Cl RZ ZN
section
variable {X : Cx} {Y : Ky} {W : WX} {to te : TE} {mo me : ME} {o e : Expr} {pos apos : Pos}
def eSplit (mo me : ME) : ME := fun env h q x => mo env h (fun v h1 => match v with
  | .str a => me env h1 (fun y h2 => match y with
    | .str b => (b.length == 0) = false ∧ a.length ≤ 100000 ∧ q (.lst ((Txt.split a b).map .str)) h2
    | _ => False) x
  | _ => False) x
theorem de_split (ho : DE X Y W o mo) (he : DE X Y W e me) (hs : starEach [e] X.env = [(false, eval e X.env)] := by rfl) (hbase : attributeBase o "split" X.env (eval o X.env) = eval o X.env := by rfl) (hline : (apos.endLine == pos.line) = true := by rfl) : DE X Y W (.Call (.Attribute o "split" apos) [e] [] pos) (eSplit mo me) := by
  obtain ⟨to, a1, a2⟩ := ho; obtain ⟨te, b1, b2⟩ := he
  refine ⟨_, pe_split a1 b1 hs hbase hline, fun μ env h σ H Q q x z hm kq kx => a2 μ env h σ H _ _ x z hm (fun v h1 k μ1 U H1 e1 r1 v1 => ?_) kx⟩
  cases v with
  | str w =>
    cases v1
    refine ⟨⟨w, rfl⟩, b2 μ1 env h1 σ H1 _ _ x (z.go e1 r1) k (fun y h2 k2 μ2 Uy H2 e2 r2 v2 => ?_) fun e h' k => (kx e h' k).after e1⟩
    cases y with
    | str w2 =>
      cases v2
      obtain ⟨c1, c2, k2⟩ := k2
      exact ⟨w, w2, rfl, rfl, c1, by rw [sizeLine_eq]; omega, fun p hp => ((kq _ _ k2).after (e1.trans e2)).new r2 hp fun e s => .lst e (vrs_str _)⟩
    | _ => exact k2.elim
  | _ => exact k.elim
/-! f-strings -/
def eFmt (m : ME) : ME := fun env h q x => m env h (fun v h1 => match v with
  | .str y => y.length ≤ 100000 ∧ q (.str y) h1
  | .int i => i.natAbs.log2 < 1920 ∧ q (.str (toString i)) h1
  | _ => False) x
theorem de_fmt (he : DE X Y W e me) : DE X Y W (.FormattedValue e (-1) none pos) (eFmt me) := by
  obtain ⟨te, a1, a2⟩ := he
  refine ⟨_, pe_fmt a1, fun μ env h σ H Q q x z hm kq kx => a2 μ env h σ H _ _ x z hm (fun v h1 k μ1 U H1 e1 r1 v1 => ?_) kx⟩
  cases v with
  | str w => cases v1; exact .inl ⟨w, rfl, by rw [sizeLine_eq]; have := k.1; omega, kq _ _ k.2 μ1 _ H1 e1 r1 (.str _)⟩
  | int i => cases v1; exact .inr ⟨i, rfl, k.1, kq _ _ k.2 μ1 _ H1 e1 r1 (.str _)⟩
  | _ => exact k.elim
def fsGo : List ME → Str → Me → Mh → VQ → XQ → Prop
  | [], acc, _, h, q, _ => q (.str acc) h
  | m :: ms, acc, env, h, q, x => m env h (fun v h1 => match v with
    | .str y => (acc ++ y).length ≤ 100000 ∧ fsGo ms (acc ++ y) env h1 q x
    | _ => False) x
def eFs (ms : List ME) : ME := fun env h q x => fsGo ms Str.empty env h q x
structure DJ (X : Cx) (Y : Ky) (W : WX) (es : List Expr) (ms : List ME) : Prop where
  go : ∃ ts, PJ X es ts ∧ ∀ (acc : Str) (μ : Mp) (env : Me) (h : Mh) (σ : L2.St) (H : Hp) (Q : Str → Hp → Prop) (q : VQ) (x : XQ), Ok Y μ h H σ env → fsGo ms acc env h q x → (∀ y h', q (.str y) h' → ∀ μ' H', Ext μ μ' H H' → Rel Y μ' h' H' → Q y H') → (∀ e h', x e h' → Kx Y μ H (fun c d H' => W c d σ H') e h') → tJs ts acc σ H Q
theorem dj_nil : DJ X Y W [] [] := ⟨[], .nil, fun acc μ env h σ H Q q x z hm kq kx => kq _ _ hm μ H .refl z.r⟩
theorem dj_cons {es : List Expr} {ms : List ME} (he : DE X Y W e me) (hr : DJ X Y W es ms) : DJ X Y W (e :: es) (me :: ms) := by
  obtain ⟨te, a1, a2⟩ := he; obtain ⟨ts, b1, b2⟩ := hr
  refine ⟨te :: ts, .cons a1 b1, fun acc μ env h σ H Q q x z hm kq kx => a2 μ env h σ H _ _ x z hm (fun v h1 k μ1 U H1 e1 r1 v1 => ?_) kx⟩
  cases v with
  | str y =>
    cases v1
    obtain ⟨hl, k⟩ := k
    exact ⟨y, rfl, by rw [sizeLine_eq]; omega, b2 _ μ1 env h1 σ H1 Q q x (z.go e1 r1) k (fun w h' k μ' H' e r => kq w h' k μ' H' (e1.trans e) r) fun e h' k => (kx e h' k).after e1⟩
  | _ => exact k.elim
theorem de_fs {v1 v2 : Expr} {rest : List Expr} {ms : List ME} (hj : DJ X Y W (v1 :: v2 :: rest) ms) : DE X Y W (.JoinedStr (v1 :: v2 :: rest) pos) (eFs ms) := by
  obtain ⟨ts, a1, a2⟩ := hj
  exact ⟨_, pe_joined a1, fun μ env h σ H Q q x z hm kq kx => a2 _ μ env h σ H _ q x z hm (fun y h' k μ' H' e r => kq _ _ k μ' _ H' e r (.str _)) kx⟩
/-! int(text) -/
abbrev fInt : MC := f1 fun v h q => match v with
  | .str a => ∃ n, intText? a = some n ∧ a.length ≤ 640 ∧ q (.int n) h
  | .int i => q (.int i) h
  | _ => False
theorem cd_int : CaD X Y (.type "int") fInt := by
  refine ⟨fun vs H Q => ((∃ i, vs = [.int i] ∧ Q (.int i) H) ∨ ∃ k, vs = [.bl k] ∧ Q (.int (if k then 1 else 0)) H) ∨ ∃ a n, vs = [.str a] ∧ PySem.intText? a = some n ∧ a.length ≤ 640 ∧ Q (.int n) H, ?_, sc_f1 fun μ h H U u Q q r a hf kq => ?_⟩
  · intro pins s σ H vs us Q I r h
    rcases h with h | h
    · exact call_int1 pins s σ H vs us Q I r h
    · exact call_int_str pins s σ H vs us Q I r h
  · cases u with
    | str w => cases a; obtain ⟨n, e1, e2, k⟩ := hf; exact .inr ⟨w, n, rfl, e1, e2, (kq _ _ k).here r (.int _)⟩
    | int i => cases a; exact .inl (.inl ⟨i, rfl, (kq _ _ hf).here r (.int _)⟩)
    | _ => exact hf.elim
/-! x += e -/
def sAug (i : Nat) (m : ME) : MS := fun env h d => match env[i]? with
  | some (some (.int a)) => m env h (fun v h1 => match v with
    | .int b => d.nx (env.set i (some (.int (a + b)))) h1
    | _ => False) (fun e h' => d.xc e env h')
  | _ => False
theorem ds_aug {i : Nat} {x : Str} {pos' : Pos} (hN : X.N.Nodup) (hi : X.N[i]? = some x) (hx : Loc X.env.scope x) (he : DE X Y W e me) (hf : X.fn x = true ∨ X.env.scope.names.lookup x = some .local := by first | exact .inl rfl | exact .inr rfl | assumption) : DS X Y W (.AugAssign (.Name x pos') .Add e pos) (sAug i me) := by
  obtain ⟨te, a1, a2⟩ := he
  refine ⟨_, ps_aug hN hi hx a1 ip_add hf, fun μ env h σ H D d z hm sd => ?_⟩
  unfold sAug at hm
  cases e0 : env[i]? with
  | none => rw [e0] at hm; exact hm.elim
  | some u =>
    rw [e0] at hm
    cases u with
    | none => exact hm.elim
    | some u =>
      cases u with
      | int a =>
        obtain ⟨v, e1, rv⟩ := z.s.at_ i _ e0
        cases rv
        refine ⟨_, e1, a2 μ env h σ H _ _ _ z hm (fun v h1 k μ1 U H1 x1 r1 v1 => ?_) (sd.kx z)⟩
        cases v with
        | int b => cases v1; exact ⟨a, b, rfl, rfl, sd.nx _ _ k μ1 _ H1 x1 ⟨r1, (z.go x1 r1).s.set i (.int _)⟩⟩
        | _ => exact k.elim
      | _ => exact hm.elim
/-! o.insert(i, e), o.clear() -/
def eIns (mo mi me : ME) : ME := fun env h q x => mo env h (fun v h1 => match v with
  | .ref n => (∃ xs, h1[n]? = some (.lst xs)) ∧ mi env h1 (fun u h2 => me env h2 (fun y h3 => match u with
    | .int i => ∃ xs, h3[n]? = some (.lst xs) ∧ xs.length < 90000 ∧ 0 ≤ i ∧ i < 100000 ∧ q .non (h3.set n (.lst (xs.take i.toNat ++ [y] ++ xs.drop i.toNat)))
    | _ => False) x) x
  | _ => False) x
end
section
variable {X : Cx} {Y : Ky} {W : WX} {mo mi me : ME} {o i e : Expr} {pos apos : Pos}
theorem de_ins (hK : X.K = Y.K) (ho : DE X Y W o mo) (hi : DE X Y W i mi) (he : DE X Y W e me) (hbase : attributeBase o "insert" X.env (eval o X.env) = eval o X.env := by rfl)
    (hfew : ((backTo pos (starEach [i, e] X.env)).all (fun x => !x.1) && (backToKw pos (keywordEach [] X.env)).all (fun x => x.1.isSome) && decide ([i, e].length + ([] : List Keyword).length + (if ([] : List Keyword).isEmpty then 0 else 1) < 30)) = true := by rfl)
    (hline : (apos.endLine == pos.line) = true := by rfl) (hs : starEach [i, e] X.env = (false, eval i X.env) :: starEach [e] X.env := by rfl) (hs2 : starEach [e] X.env = (false, eval e X.env) :: starEach [] X.env := by rfl) (hplain : (backTo pos (starEach [e] X.env)).any (·.1) = false := by rfl) :
    DE X Y W (.Call (.Attribute o "insert" apos) [i, e] [] pos) (eIns mo mi me) := by
  obtain ⟨to, a1, a2⟩ := ho; obtain ⟨ti, b1, b2⟩ := hi; obtain ⟨te, c1, c2⟩ := he
  refine ⟨_, hK ▸ pe_bm PySem.F.plainAttrs_list PySem.F.slot_list_insert PySem.F.type_list_insert mt_insert a1 (pa_cons b1 (pa_cons c1 pa_nil hs2) hs) hbase hfew hline hs hplain, fun μ env h σ H Q q x z hm kq kx => a2 μ env h σ H _ _ x z hm (fun v h1 k μ1 U H1 e1 r1 v1 => ?_) kx⟩
  cases v with
  | ref n =>
    obtain ⟨⟨xs0, e0⟩, k⟩ := k
    obtain ⟨a0, vs0, rfl, c0, q0, _⟩ := rd_cell r1 v1 e0
    refine ⟨.inl ⟨rfl, vs0, SqL.of q0⟩, b2 μ1 env h1 σ H1 _ _ x (z.go e1 r1) k (fun u h2 k2 μ2 Uu H2 e2 r2 v2 => c2 μ2 env h2 σ H2 _ _ x (z.go (e1.trans e2) r2) k2 (fun y h3 k3 μ3 Uy H3 e3 r3 v3 => ?_) fun e h' k => (kx e h' k).after (e1.trans e2)) fun e h' k => (kx e h' k).after e1⟩
    cases u with
    | int j =>
      cases v2
      obtain ⟨xs, ex, hl, j0, j1, k3⟩ := k3
      obtain ⟨a', vs, ea, c', q', t'⟩ := rd_cell r3 (v1.mono (e2.trans e3).le) ex
      cases ea
      refine ⟨a0, vs, j, Uy, rfl, rfl, q', by rw [t'.length]; exact Nat.lt_of_lt_of_le hl (by decide), j0, by omega, ?_⟩
      exact kq _ _ k3 μ3 _ _ (((e1.trans e2).trans e3).trans (.put c')) (r3.put c' fun ev => .lst upd_same (by rw [ev]; exact ((t'.take _).append (.one v3)).append (t'.drop _))) .non
    | _ => exact k3.elim
  | _ => exact k.elim
end
end Sx

end
section
set_option Elab.async false
set_option linter.all false
set_option maxRecDepth 100000
set_option maxHeartbeats 2000000
/-! SXM: properties of own classes -/
namespace Sx
open PySem PySem.Spec PyProof.Rows L2 Cl
/-- a property of the class named c -/
def MpA (P : Program) (w : World) (Y : Ky) (mg : Str → Option Value) (base : Heap) (c m : Str) (k : Nat) (sp : Sp) : Prop := ∃ C, Y.cm c = some C ∧ Cls Y.K C ∧ ∃ p g, PropOf Y.K C m p g ∧ FnA P w Y.K mg base k g [] sp
def TmP (Y : Ky) (c m qual : Str) (st : Stmt) : Prop := ∃ C, Y.cm c = some C ∧ Cls Y.K C ∧ ∃ p f fd, Fun Y.K m qual st f fd ∧ PropOf Y.K C m p f
def eProp (c : Str) (f : MF) (o : ME) : ME := fun env h q x => o env h (fun v h1 => ∃ fs, insOf h1 v = some (c, fs) ∧ f [v] h1 q F0) x
def tPA (C : Addr) (sp : Sp) (ta : TE) : TE := fun σ H Q => ta σ H fun x H1 => ∃ a dx fs, x = .ref a ∧ H1 a = some (.ins C dx fs) ∧ sp [.ref a] H1 Q (fun _ _ _ => False)
section
variable {X : Cx} {Y : Ky} {W : WX} {k : Nat} {C p g : Addr} {f c : Str} {sp : Sp} {e : Expr} {pos : Pos} {ta : TE} {F : MF} {mo : ME}
theorem pe_pa (he : PE X e ta) (c : Cls X.K C) (hp : PropOf X.K C f p g) (F : FnA X.prog X.w X.K X.mg X.base k g [] sp) (hr : Room (k + 1) X.A)
    (hab : attributeBase e f X.env (eval e X.env) = eval e X.env) : PE X (.Attribute e f pos) (tPA C sp ta) := by
  refine ⟨fun pins s0 σ H0 Q I0 h0 => ?_⟩
  refine attr_of hab (thn (he.run pins s0 σ H0 _ I0 h0) fun u s ⟨x, H, I, rx, a, dx, fs, ex, ea, h⟩ => ?_)
  subst ex
  obtain rfl : u = Value.ref a := rx
  obtain ⟨mA, O, _, _, _, _⟩ := ins_get I.hok ea
  obtain ⟨od, J, _⟩ := O.look
  obtain ⟨rest, hrec⟩ := hp.rec_
  have I1 := I.tok (s.toks + 1)
  have hc : (PySem.W.clsIn X.K C).isSome = true := by
    obtain ⟨cd, hc, _⟩ := PySem.W.any_some c.hd
    rw [hc]
    rfl
  refine PySem.W.get_bind I.kIn J (PySem.W.plainGet_of (c.get f)).1 (PySem.W.findObj_data hc hp.at_ hp.get hp.tak) (PySem.W.plainGet_of (c.get f)).2 (wpAny_call (PySem.W.prop_get (s := { s with toks := s.toks + 1 }) I.kIn hrec ?_))
  refine codeAny_mono (F X.A.in1 X.stack { s with toks := s.toks + 1 } H [.ref a] [] [.ref a] [] Q (fun _ _ _ => False) hr.in1 I1.env0.in1 (.cons rfl .nil) .nil rfl (by rw [List.append_nil]; exact h)) fun r s' hq => ?_
  cases r with
  | error er =>
    obtain ⟨_, _, _, _, _, _, _, _, _, _, _, _, z⟩ := hq
    exact z.elim
  | ok fl =>
    cases fl with
    | ret u =>
      obtain ⟨v, H', I3, rv, q3⟩ := I1.after hq
      show wpAny _ _ (handedOut u) _ _ _
      rw [PySem.W.handedOut_of (handed_of rv)]
      exact wpAny_pure ⟨v, H', I3, rv, q3⟩
    | next => exact False.elim hq
    | brk => exact False.elim hq
    | cont => exact False.elim hq
theorem se_pa (hc : Y.cm c = some C) (s : SE Y W ta mo) : SE Y W (tPA C (spA Y F) ta) (eProp c F mo) := fun μ env h σ H Q q x z hm kq kx =>
  s μ env h σ H _ _ x z hm (fun v h1 ⟨gs, ei, k⟩ μ1 U H1 e1 r1 v1 => by
    obtain ⟨a', C', dx, fs, rfl, cm, ea, k1, t1⟩ := rd_ins r1 v1 ei
    rw [hc] at cm; cases cm
    exact ⟨a', dx, fs, rfl, ea, sp_of (W := W0) (σ := σ) r1 (.cons v1 .nil) k (fun v h' k => (kq v h' k).after e1) fun e h' k => k.elim⟩) kx
theorem de_pa (hK : X.K = Y.K) (D : MpA X.prog X.w Y X.mg X.base c f k (spA Y F)) (hr : Room (k + 1) X.A) (ho : DE X Y W e mo)
    (hb : attributeBase e f X.env (eval e X.env) = eval e X.env := by rfl) : DE X Y W (.Attribute e f pos) (eProp c F mo) := by
  obtain ⟨C, hc, cl, p, g, hp, F⟩ := D; obtain ⟨t, a1, a2⟩ := ho
  rw [← hK] at cl F hp
  exact ⟨_, pe_pa a1 cl hp F hr hb, se_pa hc a2⟩
end
end Sx

end
section
set_option Elab.async false
set_option linter.all false
set_option maxRecDepth 100000
set_option maxHeartbeats 4000000
/-! SXN: own exception classes over any of the built-in ones whose stores are object's: made by their own __init__ (after HandS.ExcInit, which serves ValueError alone) -/
namespace PySem
namespace Sxn
open PySem.W PySem.Calls PyProof.Rows PySem.HandSPX
/-- own classes, then the base's mro -/
theorem refsT_cases {tail : List Value} : ∀ l : List Value, refsT tail l = true → (∃ c r, l = .ref c :: r ∧ refsT tail r = true) ∨ l = tail
  | [], e => .inr (beq_iff_eq.mp e)
  | .ref c :: r, e => .inl ⟨c, r, rfl, e⟩
  | .none :: _, e => .inr (beq_iff_eq.mp e)
  | .ellipsis :: _, e => .inr (beq_iff_eq.mp e)
  | .notImplemented :: _, e => .inr (beq_iff_eq.mp e)
  | .bool _ :: _, e => .inr (beq_iff_eq.mp e)
  | .int _ _ :: _, e => .inr (beq_iff_eq.mp e)
  | .float _ _ :: _, e => .inr (beq_iff_eq.mp e)
  | .str _ _ :: _, e => .inr (beq_iff_eq.mp e)
  | .bytes _ _ :: _, e => .inr (beq_iff_eq.mp e)
  | .type _ :: _, e => .inr (beq_iff_eq.mp e)
  | .builtin _ :: _, e => .inr (beq_iff_eq.mp e)
section
open Builtin Builtin.ObjectAttr
/-- what is asked of the base -/
structure XB (B newId initId : String) (tail : List Value) : Prop where
  facts : ExcBaseFacts B newId initId tail
  pass : ∀ self : Value, refuseLoop self "__setattr__" tail = pure ()
  ob : tail.contains (.type "object") = true
  ne : tail.isEmpty = false
  typ : typeOf (.type B) = pure (.type "type")
variable {B newId initId : String} {tail : List Value}
theorem refsT_pass (x : XB B newId initId tail) (self : Value) : ∀ l : List Value, refsT tail l = true → refuseLoop self "__setattr__" l = pure () := by
  intro l
  induction l with
  | nil =>
    intro e
    rcases refsT_cases [] e with ⟨c, r, q, _⟩ | q
    · cases q
    · have := x.ne; rw [← q] at this; cases this
  | cons a r ih =>
    intro e
    rcases refsT_cases (a :: r) e with ⟨c, r', q, h⟩ | q
    · obtain ⟨rfl, rfl⟩ := List.cons.inj q
      rw [refuseLoop_ref]; exact ih h
    · rw [q]; exact x.pass self
theorem refsT_contains (Z : String) : ∀ l : List Value, refsT tail l = true → l.contains (.type Z) = tail.contains (.type Z) := by
  intro l
  induction l with
  | nil =>
    intro e
    rcases refsT_cases [] e with ⟨c, r, q, _⟩ | q
    · cases q
    · rw [q]
  | cons a r ih =>
    intro e
    rcases refsT_cases (a :: r) e with ⟨c, r', q, h⟩ | q
    · obtain ⟨rfl, rfl⟩ := List.cons.inj q
      rw [List.contains_cons, ih h]; rfl
    · rw [q]
variable {prog : Program} {w : World} {A : Around} {E : Value → Shared → Prop} {R : Result → Shared → Prop} {hp : Heap} {g : Array GenState} {d : Drawn} {t : Nat} {os : OsState}
/-- the first field -/
theorem put_first {K : W.Frag} {name : Str} {tk : Tok} {v : Value} {x C : Addr} {fv : Array Value} {cd : ClassData}
    (X : K.In hp) (hx : hp.get? x = some { cls := .ref C, data := .fields fv }) (hcd : W.clsIn K C = some cd) (hpass : refuseLoop (.ref x) "__setattr__" cd.mro = pure ()) (hob : cd.mro.contains (.type "object") = true) (ne : cd.mro.isEmpty = false) (hh : cd.hasDict = true) (ha : W.findIn K (.ref C) name = some none)
    (hq : ∀ h' tk' dx, (∀ b o, b ≠ x → hp.get? b = some o → h'.get? b = some o) → hp.objs.size ≤ dx → dx ≠ x → h'.get? x = some { cls := .ref C, dict := some dx, data := .fields fv } →
      h'.Ns1 dx (fun y => if y = name then some v else none) → R (.ok (.ret .none)) ⟨h', g, d, tk', os⟩) :
    codeAny (model prog w) A (.call (.builtin "object.__setattr__") ⟨[.ref x, .str name tk, v], []⟩) R ⟨hp, g, d, t, os⟩ := by
  have I : W.InstAt hp x { cls := .ref C, data := .fields fv } C none := ⟨hx, rfl, rfl, trivial⟩
  have SF := F.store_object
  have hxs : x ≠ hp.objs.size := Nat.ne_of_lt (Heap.lt_size hx)
  have sub : W.Looks (model prog w) hp (isInstance (.ref x) (.type "object")) true := I.type.andThen (W.looks_mroIn X (by unfold W.mroIn; rw [hcd, Option.bind_some, if_neg (by rw [ne]; decide), hob]))
  refine codeAny_call_builtin SF.slot.plain SF.entry (@W.check_slot (model prog w) _ _ ⟨hp, g, d, t, os⟩ "object.__setattr__" "object" "__setattr__" (.ref x) [.str name tk, v] [] _ SF.kind SF.split sub (SF.args (.ref x) (.str name tk) v) ?_)
  have hmr : W.Looks (model prog w) hp (mroOf (.ref C)) cd.mro := (W.looks_clsIn X hcd).andThen .now
  have L3 : W.Looks (model prog w) hp (storeTaker? none) none := .now
  have hcls : W.Looks (model prog w) hp (classData C) cd := W.looks_clsIn X hcd
  rw [W.osa_eq, refuse_eq]
  refine wpAny_bind (wpAny_bind (I.type.at (wpAny_bind (hmr.at ?_))))
  rw [hpass]
  refine wpAny_pure (wpAny_bind (I.type.at (wpAny_bind ((W.looks_findIn X ha).at (wpAny_bind (L3.at ?_))))))
  show wpAny _ _ (storeInOwnDict (.ref x) (.ref C) (.str name tk) name v false) _ _ _
  obtain ⟨nm, bs, mro, ns, qn, hd, sn, sb, ab, col, del⟩ := cd
  dsimp only at hh
  subst hh
  unfold storeInOwnDict ownDictForStores
  repeat (first | with_reducible refine store_in_new ?_ ?_ | with_reducible refine wpAny_loadPart_at hx ?_ | with_reducible refine hcls.at ?_ | wp_step)
  · exact ⟨_, #[], _, (Heap.get?_update_ne _ _ _ _ hxs.symm).trans (Heap.get?_push_at rfl rfl), rfl, fun e he => absurd he (by simp), fun _ => rfl⟩
  · intro h' tk' hn' hs
    have hx₁ : (hp.push { cls := .type "dict", data := .dict #[] }).get? x = some { cls := .ref C, data := .fields fv } := Heap.get?_push_of_some _ hx
    refine hq h' tk' hp.objs.size (fun b o hb ho => ?_) (Nat.le_refl _) hxs.symm ?_ hn'
    · exact (hs.2 b (Nat.ne_of_lt (Heap.lt_size ho))).trans ((Heap.get?_update_ne _ _ _ _ hb).trans (Heap.get?_push_of_some _ ho))
    · exact (hs.2 x hxs).trans (Heap.get?_update_self _ hx₁ rfl)
/-- a further field -/
theorem put_more {K : W.Frag} {name : Str} {tk : Tok} {v : Value} {x C dx : Addr} {fv : Array Value} {cd : ClassData} {m0 : Str → Option Value} {nl : List Str}
    (X : K.In hp) (hx : hp.get? x = some { cls := .ref C, dict := some dx, data := .fields fv }) (hns : hp.Ns1 dx m0) (hw : Within m0 nl) (hz : nl.length ≤ 1000) (hcd : W.clsIn K C = some cd) (hpass : refuseLoop (.ref x) "__setattr__" cd.mro = pure ()) (hob : cd.mro.contains (.type "object") = true) (ne : cd.mro.isEmpty = false) (hh : cd.hasDict = true)
    (ha : W.findIn K (.ref C) name = some none)
    (hq : ∀ h' tk', (∀ b o, b ≠ dx → hp.get? b = some o → h'.get? b = some o) → h'.Ns1 dx (fun y => if y = name then some v else m0 y) → R (.ok (.ret .none)) ⟨h', g, d, tk', os⟩) :
    codeAny (model prog w) A (.call (.builtin "object.__setattr__") ⟨[.ref x, .str name tk, v], []⟩) R ⟨hp, g, d, t, os⟩ := by
  obtain ⟨oD, esD, epD, hoD, hdD, _⟩ := hns.count hw
  have I : W.InstAt hp x { cls := .ref C, dict := some dx, data := .fields fv } C (some oD) := ⟨hx, rfl, rfl, hoD⟩
  have SF := F.store_object
  have sub : W.Looks (model prog w) hp (isInstance (.ref x) (.type "object")) true := I.type.andThen (W.looks_mroIn X (by unfold W.mroIn; rw [hcd, Option.bind_some, if_neg (by rw [ne]; decide), hob]))
  refine codeAny_call_builtin SF.slot.plain SF.entry (@W.check_slot (model prog w) _ _ ⟨hp, g, d, t, os⟩ "object.__setattr__" "object" "__setattr__" (.ref x) [.str name tk, v] [] _ SF.kind SF.split sub (SF.args (.ref x) (.str name tk) v) ?_)
  have hmr : W.Looks (model prog w) hp (mroOf (.ref C)) cd.mro := (W.looks_clsIn X hcd).andThen .now
  have L3 : W.Looks (model prog w) hp (storeTaker? none) none := .now
  have hcls : W.Looks (model prog w) hp (classData C) cd := W.looks_clsIn X hcd
  rw [W.osa_eq, refuse_eq]
  refine wpAny_bind (wpAny_bind (I.type.at (wpAny_bind (hmr.at ?_))))
  rw [hpass]
  refine wpAny_pure (wpAny_bind (I.type.at (wpAny_bind ((W.looks_findIn X ha).at (wpAny_bind (L3.at ?_))))))
  show wpAny _ _ (storeInOwnDict (.ref x) (.ref C) (.str name tk) name v false) _ _ _
  obtain ⟨nm, bs, mro, ns, qn, hd, sn, sb, ab, col, del⟩ := cd
  dsimp only at hh
  subst hh
  unfold storeInOwnDict ownDictForStores
  repeat (first | with_reducible refine PySem.OEX.store_in_old hns hw hz ?_ | with_reducible refine wpAny_loadPart_at hx ?_ | with_reducible refine hcls.at ?_ | wp_step)
  intro h' tk' hn' hs
  exact hq h' tk' (fun b o hb ho => (hs.2 b hb).trans ho) hn'
end
theorem xb_VE : XB "ValueError" "ValueError.__new__" "ValueError.__init__" veTail := ⟨F.excBase_ValueError, F.store_ValueError.passes, by decide +kernel, by decide +kernel, PySem.OEX.typ_VE⟩
theorem xb_LE : XB "LookupError" "LookupError.__new__" "LookupError.__init__" [.type "LookupError", .type "Exception", .type "BaseException", .type "object"] := ⟨F.excBase_LookupError, F.store_LookupError.passes, by decide +kernel, by decide +kernel, by kernel_rfl⟩
end Sxn
end PySem

end
section
set_option Elab.async false
set_option linter.all false
set_option maxRecDepth 100000
set_option maxHeartbeats 4000000
/-! SXO: own exception classes in the hand layer: their __init__, raise C(..) -/
namespace Sx
open PySem PySem.Spec PyProof.Rows L2 Cl PySem.Sxn
/-- what the written part says of the class -/
structure OexB (K : PySem.W.Frag) (C : Addr) (newId : String) (tail : List Value) : Prop where
  cls : ∃ nm q N bs bm sn sub ab col dd k0 k1 k2 k3 k5, K.lookup C = some (excClassObj nm q C N bs bm true sn sub ab col dd k0 k1 k2 k3 k5 newId) ∧ refsT tail bm = true
  sa : PySem.W.findIn K (.ref C) "__setattr__" = some (some (.builtin "object.__setattr__"))
  exC : PySem.W.subIn K (.ref C) (.type "BaseException") = some true
  tyC : PySem.W.typeIn K (.ref C) = some (.type "type")
  kC : PySem.W.keepIn K (.ref C) = true
section
variable {X : Cx} {pins : List (Addr × Obj)} {σ : L2.St} {H : Hp} {s : Shared} {a C dx : Addr} {f : Str} {y : V} {u : Value} {fs : List (Str × V)} {Q : Unit → Shared → Prop} {E : Value → Shared → Prop} {A : Around} {B newId initId : String} {tail : List Value}
theorem put1 (xb : XB B newId initId tail) (T : OexB X.K C newId tail) (I : Inv X pins σ H s) (e : H a = some (exo a C none)) (hno : PySem.W.findIn X.K (.ref C) f = some none) (ry : RelV y u)
    (h : ∀ dx s', H dx = none → dx ≠ a → Inv X pins σ (upd (upd H dx (exd dx [(f, y)])) a (exo a C (some dx))) s' → Q () s') : wpAny (model X.prog X.w) A (setAttr (.ref a) f u) Q E s := by
  obtain ⟨nm, q, N, bs, bm, sn, sub, ab, col, dd, k0, k1, k2, k3, k5, hC, hbm⟩ := T.cls
  have hcl : PySem.W.clsIn X.K C = some { name := nm, bases := bs, mro := .ref C :: bm, ns := N, qualname := q, hasDict := true, slotNames := sn, subclasses := sub, abstract := ab, collection := col, hasDel := false } := by unfold PySem.W.clsIn; rw [hC] <;> rfl
  have hbm' : refsT tail (.ref C :: bm) = true := hbm
  obtain ⟨t1, ho⟩ := exo_at I.hok e
  obtain ⟨hp, g, d, t, os⟩ := s
  refine PySem.W.set_plain I.kIn (ox := { cls := .ref C, dict := none, data := .fields #[.ref t1, .none, .none, .none, .bool false, .none] }) (od := none) ⟨ho, rfl, rfl, trivial⟩ T.sa ?_
  refine put_first I.kIn ho hcl (refsT_pass xb _ _ hbm') ((refsT_contains "object" _ hbm').trans xb.ob) rfl rfl hno (fun h' tk' dx k dn dne hx hn => ?_)
  have hnd : H dx = none := I.hok.fresh dn
  have nd : ∀ {b : Addr} {o : Obj}, hp.get? b = some o → b ≠ dx := fun {b o} q => Nat.ne_of_lt (Nat.lt_of_lt_of_le (Heap.lt_size q) dn)
  have na : ∀ {b : Addr}, H b = none → b ≠ a := fun {b} n z => by
    rw [z, e] at n
    cases n
  have Un1 : Un X.fs [] H (upd (upd H dx (exd dx [(f, y)])) a (exo a C (some dx))) hp h' := {
    keep := fun b o q n _ _ => k b o (na n) q
    slot := fun b o q n _ _ => ⟨o.slots, k b o (na n) q⟩
    free := fun b o q n _ => by rw [upd_ne (na n), upd_ne (nd q)]; exact n
    there := fun b o q _ => by
      by_cases hb : b = a
      · exact ⟨_, by rw [hb]; exact hx⟩
      · exact ⟨o, k b o hb q⟩
    tups := fun b xs q => by rw [upd_ne (at_ne e q exo_tup), upd_ne (ne_of_none q hnd)]; exact q
    frzs := fun b o v q => by rw [upd_ne (at_ne e q exo_frz), upd_ne (ne_of_none q hnd)]; exact q
    tbls := fun b ps q => ⟨#[], by rw [upd_ne (at_ne e q exo_tbl), upd_ne (ne_of_none q hnd), q]; simp⟩ }
  refine h dx _ hnd dne (I.un (t' := tk') Un1 fun b o q => ?_)
  by_cases hb : b = a
  · subst hb
    rw [upd_same] at q
    cases q
    exact exo_ok hx
  · rw [upd_ne hb] at q
    by_cases hd : b = dx
    · subst hd
      rw [upd_same] at q
      cases q
      exact exd_ok hn (relO_put (fs := []) ry fun g => True.intro)
    · rw [upd_ne hd] at q
      exact (I.hok b o q).stay (fun c v hc z => k c v (by
          rcases hc with hc | hc
          · rw [hc]
            exact hb
          · exact at_ne e hc exo_own) z)
        (fun c hc => by rw [upd_ne (at_ne e hc exo_own), upd_ne (ne_of_none hc hnd)]; exact hc) (fun c xs hc => by rw [upd_ne (at_ne e hc exo_tup), upd_ne (ne_of_none hc hnd)]; exact hc)
theorem put2 (xb : XB B newId initId tail) (T : OexB X.K C newId tail) (I : Inv X pins σ H s) (e : H a = some (exo a C (some dx))) (ed : H dx = some (exd dx fs)) (hl : fs.length ≤ 900) (hno : PySem.W.findIn X.K (.ref C) f = some none) (ry : RelV y u)
    (h : ∀ s', Inv X pins σ (upd H dx (exd dx ((f, y) :: fs))) s' → Q () s') : wpAny (model X.prog X.w) A (setAttr (.ref a) f u) Q E s := by
  obtain ⟨nm, q, N, bs, bm, sn, sub, ab, col, dd, k0, k1, k2, k3, k5, hC, hbm⟩ := T.cls
  have hcl : PySem.W.clsIn X.K C = some { name := nm, bases := bs, mro := .ref C :: bm, ns := N, qualname := q, hasDict := true, slotNames := sn, subclasses := sub, abstract := ab, collection := col, hasDel := false } := by unfold PySem.W.clsIn; rw [hC] <;> rfl
  have hbm' : refsT tail (.ref C :: bm) = true := hbm
  obtain ⟨t1, ho⟩ := exo_at I.hok e
  obtain ⟨mA, hns, rel⟩ := exd_at I.hok ed
  have hw := within_of rel
  obtain ⟨hp, g, d, t, os⟩ := s
  obtain ⟨oD, _, _, hoD, _, _⟩ := hns.count hw
  refine PySem.W.set_plain I.kIn (ox := { cls := .ref C, dict := some dx, data := .fields #[.ref t1, .none, .none, .none, .bool false, .none] }) (od := some oD) ⟨ho, rfl, rfl, hoD⟩ T.sa ?_
  refine put_more I.kIn ho hns hw (by rw [List.length_map]; omega) hcl (refsT_pass xb _ _ hbm') ((refsT_contains "object" _ hbm').trans xb.ob) rfl rfl hno (fun h' tk' k hn => ?_)
  have hd : ∃ o, h'.get? dx = some o := by
    obtain ⟨o, _, _, e', _⟩ := hn
    exact ⟨o, e'⟩
  exact h _ (I.write (t' := tk') (x := dx) (e := dx) (o := exd dx ((f, y) :: fs)) (by rw [ed]; exact True.intro) (.inl rfl) k hd (exd_ok hn (relO_put ry rel)))
theorem binit_ok {us : List Value} {Q : Value → Shared → Prop} (xb : XB B newId initId tail) (T : OexB X.K C newId tail) (I : Inv X pins σ H s) (e : H a = some (exo a C none)) (hl : us.length ≤ sizeLine) (h : ∀ s', Inv X pins σ H s' → Q .none s') :
    wpAny (model X.prog X.w) A (call (.builtin initId) (.ref a :: us)) Q E s := by
  obtain ⟨nm, q, N, bs, bm, sn, sub, ab, col, dd, k0, k1, k2, k3, k5, hC, hbm⟩ := T.cls
  obtain ⟨t1, ho⟩ := exo_at I.hok e
  obtain ⟨hp, g, d, t, os⟩ := s
  refine wpAny_call (PySem.HandSPX.init_base xb.facts (fun Y => refsT_contains Y bm hbm) (I.kIn _ _ hC) ho hl fun h' t2 k hx => ?_)
  have J := I.write (t' := t) (x := a) (e := a) (o := exo a C none) (by rw [e]; exact True.intro) (.inl rfl) k ⟨_, hx⟩ (exo_ok hx)
  have eu : upd H a (exo a C none) = H := by
    funext b
    by_cases hb : b = a
    · rw [hb, upd_same, e]
    · rw [upd_ne hb]
  rw [eu] at J
  exact h _ J
end
/-! ### readings and rules -/
def tBI (K : PySem.W.Frag) (newId : String) (tail : List Value) (ta : TA) : TE := fun σ H Q => ta σ H fun vs H1 => ∃ (a C : Addr) (ws : List V), vs = .ref a :: ws ∧ ws.length ≤ 1000 ∧ OexB K C newId tail ∧ H1 a = some (exo a C none) ∧ Q .non H1
def tPut (K : PySem.W.Frag) (newId : String) (tail : List Value) (f : Str) (to te : TE) : TS := fun D σ H => te σ H fun y H1 => to σ H1 fun x H2 => ∃ a C : Addr, x = .ref a ∧ OexB K C newId tail ∧ PySem.W.findIn K (.ref C) f = some none ∧
  ((H2 a = some (exo a C none) ∧ ∀ dx, H2 dx = none → dx ≠ a → D.nx σ (upd (upd H2 dx (exd dx [(f, y)])) a (exo a C (some dx)))) ∨
    ∃ (dx : Addr) (fs : List (Str × V)), H2 a = some (exo a C (some dx)) ∧ H2 dx = some (exd dx fs) ∧ fs.length ≤ 900 ∧ D.nx σ (upd H2 dx (exd dx ((f, y) :: fs))))
section
variable {X : Cx} {o e : Expr} {es : List Expr} {to te : TE} {ta : TA} {f x : Str} {p p' p1 p2 pos : Pos} {B newId initId : String} {tail : List Value}
theorem pe_binit {pl : Sem Bool} (xb : XB B newId initId tail) (hg : Gl X x) (hm : X.mg x = none) (hb : bootBuiltins x = some (.type B)) (hn : x ≠ "__name__") (hdb : (x == ("__debug__" : Str)) = false) (hst : Manifest.isStub B = false) (hh : PySem.W.handedIn (.builtin initId) = true)
    (vV : PySem.W.findCls X.K (.type B) (.type "type") "__init__" = some (.val (.builtin initId))) (ha : PA X (e :: es) ta)
    (hc : eval (.Call (.Attribute (.Name x p1) "__init__" p2) (e :: es) [] pos) X.env = (do
      let ov ← eval (.Name x p1) X.env
      standAt p2.atName
      let (f, first) ← holding [ov] (getMethod ov "__init__" pl)
      callWith pos f first (backTo pos (starEach (e :: es) X.env)) (backToKw pos (keywordEach [] X.env))) := by rfl)
    (he : starEach (e :: es) X.env = (false, eval e X.env) :: starEach es X.env := by rfl) (hpl : (backTo pos (starEach es X.env)).any (·.1) = false := by rfl) :
    PE X (.Call (.Attribute (.Name x p1) "__init__" p2) (e :: es) [] pos) (tBI X.K newId tail ta) := by
  refine ⟨fun pins s σ H Q I h => ?_⟩
  refine PySem.W.methodCall_KW (ld_blt I hg hm hb ?_ hn hdb) hc
  obtain ⟨m, fr⟩ := I.fr
  refine PySem.W.method_type fr I.ok.mod.kin xb.typ hst vV hh ?_
  show wpAny _ _ (callWith pos (Value.builtin initId) [] (backTo pos (starEach (e :: es) X.env)) []) _ _ _
  refine PyProof.Rows.callWith_method1 (thn (ha.run pos pins _ σ H _ (I.tok _) h) fun us s1 ⟨vs, H1, I1, r1, a, C, ws, ev, hl, T, ea, q⟩ => ?_) he hpl
  subst ev
  cases r1 with
  | @cons _ u0 _ ur ra rw' =>
    obtain rfl : u0 = Value.ref a := ra
    have hlen : ur.length ≤ sizeLine := by
      rw [← Paired.length rw', sizeLine_eq]
      omega
    exact binit_ok xb T I1 ea hlen fun s' J => ⟨.non, H1, J, rfl, q⟩
theorem ps_put (xb : XB B newId initId tail) (ho : PE X o to) (he : PE X e te) (hs : swapsWith e (some (.Attribute o f p')) pos.line X.env = pure false := by rfl) : PS X (.Assign [.Attribute o f p'] e pos) (tPut X.K newId tail f to te) := by
  refine ⟨fun pins s σ H D I h => ?_⟩
  refine plainObj_wpAny_Assign_Attribute (thn (he.run pins s σ H _ I h) fun v s1 ⟨y, H1, I1, r1, q1⟩ => thn (ho.run pins s1 σ H1 _ I1 q1) fun u s2 ⟨x, H2, I2, r2, a, C, ex, T, hno, q⟩ => ?_) hs
  subst ex
  obtain rfl : u = Value.ref a := r2
  rcases q with ⟨ea, q⟩ | ⟨dx, fs, ea, ed, hl, q⟩
  · exact put1 xb T I2 ea hno r1 fun dx s' n ne J => ⟨σ, _, J, q dx n ne⟩
  · exact put2 xb T I2 ea ed hl hno r1 fun s' J => ⟨σ, _, J, q⟩
/-- Base.__init__(e, ..), an own class's -/
theorem pe_cinit {pl : Sem Bool} {W : WX} {C fI : Addr} {k : Nat} {sp : Sp} (hg : Gl X x) (hm : X.mg x = some (.ref C)) (hdb : (x == ("__debug__" : Str)) = false) (hga : PySem.W.specialIn X.K (.ref C) "__getattribute__" = some (some (.builtin "type.__getattribute__"))) (hrd : PySem.W.readsIn X.K C (.type "type") = true)
    (hf : PySem.W.findCls X.K (.ref C) (.type "type") "__init__" = some (.val (.ref fI))) (hk : PySem.W.keepIn X.K (.ref fI) = true) (F : FnA X.prog X.w X.K X.mg X.base k fI [] sp) (hr : Room k X.A) (tk : Takes X W) (ha : PA X (e :: es) ta)
    (hc : eval (.Call (.Attribute (.Name x p1) "__init__" p2) (e :: es) [] pos) X.env = (do
      let ov ← eval (.Name x p1) X.env
      standAt p2.atName
      let (f, first) ← holding [ov] (getMethod ov "__init__" pl)
      callWith pos f first (backTo pos (starEach (e :: es) X.env)) (backToKw pos (keywordEach [] X.env))) := by rfl)
    (he : starEach (e :: es) X.env = (false, eval e X.env) :: starEach es X.env := by rfl) (hpl : (backTo pos (starEach es X.env)).any (·.1) = false := by rfl) :
    PE X (.Call (.Attribute (.Name x p1) "__init__" p2) (e :: es) [] pos) (tCA sp W ta) := by
  refine ⟨fun pins s σ H Q I h => ?_⟩
  refine PySem.W.methodCall_KW (ld_glob I hg hm ?_ hdb) hc
  refine PySem.W.method_cls I.kIn hga (PySem.W.cls_value I.kIn hrd hf rfl ?_)
  refine PySem.W.callWith_K (first := []) (h₀ := X.base) I.ok.mod.kin hk (thn (ha.run pos pins _ σ H _ (I.tok _) h) fun us s1 ⟨vs, H1, I1, r, q⟩ => ⟨I1.kIn, ?_⟩) he hpl
  exact run_fna (ws := []) (zs := []) F hr tk I1 r .nil rfl (by rw [List.append_nil]; exact q)
end
end Sx

end
section
set_option Elab.async false
set_option linter.all false
set_option maxRecDepth 100000
set_option maxHeartbeats 4000000
/-! SXQ: raise C(..) over plain values -/
namespace Sx
open PySem PySem.Spec PyProof.Rows L2 Cl PySem.Sxn
theorem upd_swap {H : Hp} {d a : Addr} {A A' B : HO} (ne : d ≠ a) : upd (upd (upd H d A) a B) d A' = upd (upd H d A') a B := by
  funext b
  by_cases hb : b = a
  · subst hb; rw [upd_ne (Ne.symm ne), upd_same, upd_same]
  · by_cases hd : b = d
    · subst hd; rw [upd_same, upd_ne hb, upd_same]
    · rw [upd_ne hd, upd_ne hb, upd_ne hd, upd_ne hb, upd_ne hd]
/-- the __init__ of a class straight over the built-in one -/
def sp1 (K : PySem.W.Frag) (newId : String) (tail : List Value) : Sp := fun vs H Q _ => ∃ (a C : Addr) (u : V), vs = [.ref a, u] ∧ OexB K C newId tail ∧ PySem.W.findIn K (.ref C) "code" = some none ∧ H a = some (exo a C none) ∧
  ∀ dx, H dx = none → dx ≠ a → Q .non (upd (upd H dx (exd dx [("code", u)])) a (exo a C (some dx)))
/-- .. of a class over that, with one field, or none -/
def sp2 (C : Addr) (code f : Str) : Sp := fun vs H Q _ => ∃ (a : Addr) (u : V), vs = [.ref a, u] ∧ H a = some (exo a C none) ∧ ∀ dx, H dx = none → dx ≠ a → Q .non (upd (upd H dx (exd dx [(f, u), ("code", .str code)])) a (exo a C (some dx)))
def sp0 (C : Addr) (code : Str) : Sp := fun vs H Q _ => ∃ (a : Addr), vs = [.ref a] ∧ H a = some (exo a C none) ∧ ∀ dx, H dx = none → dx ≠ a → Q .non (upd (upd H dx (exd dx [("code", .str code)])) a (exo a C (some dx)))
section
variable {P : Program} {w : World} {K : PySem.W.Frag} {mg : Str → Option Value} {base : Heap} {k : Nat} {f : Addr} {fd : FuncData} {qual x : Str} {st : Stmt} {N ps : List Str} {B newId initId : String} {tail : List Value} {p1 p2 p3 p4 p5 p6 p7 p8 p9 p0 : Pos} {C CB fB : Addr} {code fl : Str} {jv : Option Str}
theorem fna_ok {sp : Sp} (F : FnOk P w K mg base (L2.CX P w) k f fd ps sp) (hb : Binds K fd ps []) : FnA P w K mg base k f [] sp := by
  rintro A outer s H us ws vs zs Q E hr e0 r rz l h
  have : ws = [] := List.length_eq_zero_iff.mp l
  subst this
  cases rz
  rw [List.append_nil] at h
  have hl := F.len _ _ _ _ h
  have b := hb s us (e0.mod.kin.keeps fun b o e => (e0.bs b o e).1) (by rw [List.append_nil, ← r.length]; exact hl)
  rw [List.append_nil] at b
  exact F.run A outer s H _ us vs Q E hr e0 b r h
theorem fn_xbase (xb : XB B newId initId tail) (F : Fun K "__init__" qual st f fd) (S : FnScope N ["self", "code"] (defScope st))
    (hps : ∀ (cdv : Value) (A : Around) (outer : List Env) (s : Shared) (H : Hp) (E : XK), PSs (cxOf (L2.CX P w) P w K mg base N qual (defScope st) f cdv A outer s H E) (defBody st) (tSeq (tDrop (tBI K newId tail (tCons (tVar 0) (tCons (tVar 1) tNil)))) (tPut K newId tail "code" (tVar 0) (tVar 1))))
    (hN : ∀ u v : V, (start N [u, v])[0]? = some (some u) ∧ (start N [u, v])[1]? = some (some v)) : FnOk P w K mg base (L2.CX P w) (k + 1) f fd ["self", "code"] (sp1 K newId tail) := by
  refine F.okX S (fun vs H Q E ⟨a, C, u, e, _⟩ => by rw [e]; rfl) fun cdv A outer s H vs Q E hr ⟨a, C, u, e, T, hno, ea, q⟩ => ?_
  subst e
  obtain ⟨h0, h1⟩ := hN (.ref a) u
  refine ⟨_, hps cdv A outer s H E, ?_⟩
  refine ⟨_, h0, _, h1, a, C, [u], rfl, by simp, T, ea, ?_⟩
  exact ⟨_, h1, _, h0, a, C, rfl, T, hno, .inl ⟨ea, q⟩⟩
theorem fn_xsub (xb : XB B newId initId tail) (T : OexB K C newId tail) (hc : PySem.W.findIn K (.ref C) "code" = some none) (hf : PySem.W.findIn K (.ref C) fl = some none) (F : Fun K "__init__" qual st f fd) (S : FnScope N ["self", fl] (defScope st))
    (hps : ∀ (cdv : Value) (A : Around) (outer : List Env) (s : Shared) (H : Hp) (E : XK), Room k (A.deeper (envOfC qual (defScope st) s.heap.objs.size f cdv)) → PSs (cxOf (L2.CX P w) P w K mg base N qual (defScope st) f cdv A outer s H E) (defBody st) (tSeq (tDrop (tCA (sp1 K newId tail) (WO E) (tCons (tVar 0) (tCons (tC (.str code)) tNil)))) (tPut K newId tail fl (tVar 0) (tVar 1))))
    (hN : ∀ u v : V, (start N [u, v])[0]? = some (some u) ∧ (start N [u, v])[1]? = some (some v)) : FnOk P w K mg base (L2.CX P w) (k + 1) f fd ["self", fl] (sp2 C code fl) := by
  refine F.okX S (fun vs H Q E ⟨a, u, e, _⟩ => by rw [e]; rfl) fun cdv A outer s H vs Q E hr ⟨a, u, e, ea, q⟩ => ?_
  subst e
  obtain ⟨h0, h1⟩ := hN (.ref a) u
  refine ⟨_, hps cdv A outer s H E hr, ?_⟩
  refine ⟨_, h0, a, C, .str code, rfl, T, hc, ea, fun dx hn hd => ?_⟩
  refine ⟨_, h1, _, h0, a, C, rfl, T, hf, .inr ⟨dx, [("code", .str code)], upd_same, by rw [upd_ne hd, upd_same], by simp, ?_⟩⟩
  rw [upd_swap hd]
  exact q dx hn hd
theorem fn_xsub0 (T : OexB K C newId tail) (hc : PySem.W.findIn K (.ref C) "code" = some none) (F : Fun K "__init__" qual st f fd) (S : FnScope N ["self"] (defScope st))
    (hps : ∀ (cdv : Value) (A : Around) (outer : List Env) (s : Shared) (H : Hp) (E : XK), Room k (A.deeper (envOfC qual (defScope st) s.heap.objs.size f cdv)) → PSs (cxOf (L2.CX P w) P w K mg base N qual (defScope st) f cdv A outer s H E) (defBody st) (tDrop (tCA (sp1 K newId tail) (WO E) (tCons (tVar 0) (tCons (tC (.str code)) tNil)))))
    (hN : ∀ u : V, (start N [u])[0]? = some (some u)) : FnOk P w K mg base (L2.CX P w) (k + 1) f fd ["self"] (sp0 C code) := by
  refine F.okX S (fun vs H Q E ⟨a, e, _⟩ => by rw [e]; rfl) fun cdv A outer s H vs Q E hr ⟨a, e, ea, q⟩ => ?_
  subst e
  refine ⟨_, hps cdv A outer s H E hr, ?_⟩
  exact ⟨_, hN (.ref a), a, C, .str code, rfl, T, hc, ea, fun dx hn hd => q dx hn hd⟩
end
/-! ### C(..) -/
section
variable {X : Cx} {e : Expr} {es : List Expr} {ta : TA} {x : Str} {p pos : Pos} {B newId initId : String} {tail : List Value} {C fI : Addr} {k : Nat} {sp : Sp}
theorem mk_run {pins : List (Addr × Obj)} {σ : L2.St} {H1 : Hp} {s1 : Shared} {us : List Value} {vs : List V} {Q : XK} (xb : XB B newId initId tail) (T : OexB X.K C newId tail) (iC : PySem.W.findIn X.K (.ref C) "__init__" = some (some (.ref fI))) (tI : PySem.W.typeIn X.K (.ref fI) = some (.type "function"))
    (F1 : FnA X.prog X.w X.K X.mg X.base k fI [] sp) (hr : Room (k + 1) X.A) (I1 : Inv X pins σ H1 s1) (r1 : Vals vs us) (hz : vs.length ≤ 1000)
    (q1 : ∀ a, H1 a = none → sp (.ref a :: (vs ++ [])) (upd H1 a (exo a C none)) (fun v H2 => v = .non ∧ ∃ (d : Addr) (fs : List (Str × V)), H2 a = some (exo a C (some d)) ∧ H2 d = some (exd d fs) ∧ H1 d = none ∧ Q (.ref C) (some d) (upd (del H2 a) d (.xd fs))) (fun _ _ _ => False)) :
    wpAny (model X.prog X.w) X.A (call (.ref C) us) (MkP X pins σ Q) X.xe s1 := by
  obtain ⟨nm, q, N, bs, bm, sn, sub, ab, col, dd, k0, k1, k2, k3, k5, hC, hbm⟩ := T.cls
  obtain ⟨hp, g, dr, tk, os⟩ := s1
  have hsz : hp.objs.size ≤ hp.objs.size + 1 := Nat.le_succ _
  have hn : H1 (hp.objs.size + 1) = none := I1.hok.fresh hsz
  have hq := q1 (hp.objs.size + 1) hn
  have kk : ∀ b o, hp.get? b = some o → ((hp.push (PySem.W.kdv_tup us)).push (PySem.HandSPX.excO C hp.objs.size)).get? b = some o := fun b o e => Heap.get?_push_of_some _ (Heap.get?_push_of_some _ e)
  have hget : ((hp.push (PySem.W.kdv_tup us)).push (PySem.HandSPX.excO C hp.objs.size)).get? (hp.objs.size + 1) = some (PySem.HandSPX.excO C hp.objs.size) := by heap_get
  have I2 : Inv X pins σ (upd H1 (hp.objs.size + 1) (exo (hp.objs.size + 1) C none)) ⟨(hp.push (PySem.W.kdv_tup us)).push (PySem.HandSPX.excO C hp.objs.size), g, dr, tk, os⟩ :=
    I1.laid (t' := tk) (a := hp.objs.size + 1) (o := exo (hp.objs.size + 1) C none) (h' := (hp.push (PySem.W.kdv_tup us)).push (PySem.HandSPX.excO C hp.objs.size)) kk hsz (exo_ok hget)
  have r2 : Vals (V.ref (hp.objs.size + 1) :: vs) (Value.ref (hp.objs.size + 1) :: us) := .cons rfl r1
  have hus : us.length ≤ sizeLine := by
    rw [← Paired.length r1, sizeLine_eq]
    omega
  rw [List.append_nil] at hq
  refine wpAny_call (PySem.HandSPX.call_own xb.facts (fun Y => refsT_contains Y bm hbm) (I1.kIn _ _ hC) (PySem.W.looks_findIn I1.kIn iC) (fun self => PySem.W.bind_fn I1.kIn self tI) hus
    (codeAny_mono (F1 _ X.stack _ _ (Value.ref (hp.objs.size + 1) :: us) [] (V.ref (hp.objs.size + 1) :: vs) [] _ (fun _ _ _ => False) (hr.make C us []) (I2.env0.make C us []) r2 .nil rfl (by rw [List.append_nil]; exact hq)) fun r s' hq' => ?_))
  cases r with
  | error er =>
    obtain ⟨_, _, _, _, _, _, _, _, _, _, _, _, z⟩ := hq'
    exact z.elim
  | ok fl =>
    cases fl with
    | ret u =>
      obtain ⟨v, H2, os2, bare2, un2, hok2, rv, ev, d, fs, ea, ed, hd1, q2⟩ := hq'
      subst ev
      obtain ⟨h2, g2, d2, t2, os'⟩ := s'
      exact ⟨rv, mk_end (raises_own T.exC T.tyC) I1 hsz kk un2 hok2 os2 bare2 ea ed hd1 q2⟩
    | next => exact False.elim hq'
    | brk => exact False.elim hq'
    | cont => exact False.elim hq'
theorem pmk_b (xb : XB B newId initId tail) (T : OexB X.K C newId tail) (iC : PySem.W.findIn X.K (.ref C) "__init__" = some (some (.ref fI))) (tI : PySem.W.typeIn X.K (.ref fI) = some (.type "function"))
    (F1 : FnA X.prog X.w X.K X.mg X.base k fI [] sp) (hr : Room (k + 1) X.A) (hg : Gl X x) (hm : X.mg x = some (.ref C)) (ha : PA X (e :: es) ta)
    (hdb : (x == ("__debug__" : Str)) = false := by decide) (he : starEach (e :: es) X.env = (false, eval e X.env) :: starEach es X.env := by rfl) (hpl : (backTo pos (starEach es X.env)).any (·.1) = false := by rfl) :
    PMk X (.Call (.Name x p) (e :: es) [] pos) (tMkO C sp [] ta) := by
  intro pins s σ H Q I h
  refine wpAny_Call_Name_kw (ld_glob I hg hm ?_ hdb)
  refine PySem.W.callWith_K (h₀ := X.base) I.ok.mod.kin T.kC (thn (ha.run pos pins s σ H _ I h) fun us s1 ⟨vs, H1, I1, r1, hz, q1⟩ => ⟨I1.kIn, ?_⟩) he hpl
  exact mk_run xb T iC tI F1 hr I1 r1 hz q1
theorem pmk_b0 (xb : XB B newId initId tail) (T : OexB X.K C newId tail) (iC : PySem.W.findIn X.K (.ref C) "__init__" = some (some (.ref fI))) (tI : PySem.W.typeIn X.K (.ref fI) = some (.type "function"))
    (F1 : FnA X.prog X.w X.K X.mg X.base k fI [] sp) (hr : Room (k + 1) X.A) (hg : Gl X x) (hm : X.mg x = some (.ref C))
    (hdb : (x == ("__debug__" : Str)) = false := by decide) :
    PMk X (.Call (.Name x p) [] [] pos) (tMkO C sp [] tNil) := by
  intro pins s σ H Q I h
  refine wpAny_Call_Name_kw (ld_glob I hg hm ?_ hdb)
  obtain ⟨hz, q1⟩ := h
  exact PySem.W.callWith_K0 I.kIn T.kC (mk_run (us := []) (vs := []) xb T iC tI F1 hr I .nil hz q1)
end
end Sx

end
section
set_option Elab.async false
set_option linter.all false
set_option maxRecDepth 100000
set_option maxHeartbeats 4000000
/-! SXR: raise, over plain values -/
namespace Sx
open PySem PySem.Spec PyProof.Rows L2 Cl PySem.Sxn
def sRz1 (c f code : Str) (m : ME) : MS := fun env h d => m env h (fun v h1 => d.xc ⟨c, [f, "code"], [v, .str code]⟩ env h1) (fun e h' => d.xc e env h')
def sRz0 (c code : Str) : MS := fun env h d => d.xc ⟨c, ["code"], [.str code]⟩ env h
/-- an own exception class, made by its own __init__ -/
def XmA (P : Program) (w : World) (Y : Ky) (mg : Str → Option Value) (base : Heap) (x c : Str) (k : Nat) (sp : Addr → Sp) : Prop := ∃ C, Y.cm c = some C ∧ mg x = some (.ref C) ∧ ∃ B newId initId tail, XB B newId initId tail ∧ OexB Y.K C newId tail ∧
  ∃ fI, PySem.W.findIn Y.K (.ref C) "__init__" = some (some (.ref fI)) ∧ PySem.W.typeIn Y.K (.ref fI) = some (.type "function") ∧ FnA P w Y.K mg base k fI [] (sp C)
section
variable {X : Cx} {Y : Ky} {W : WX} {k : Nat} {x c f code : Str} {p pos pos' : Pos} {e : Expr} {me : ME}
/-- the exception is let go -/
theorem rz_end {μ μ1 : Mp} {env : Me} {h1 : Mh} {σ : L2.St} {H H1 : Hp} {D : Ends} {d : MD} {C a dx : Addr} {FS : List (Str × V)} {xs : List Val} (sd : SD Y W μ H D d) (e1 : Ext μ μ1 H H1) (z1 : Ok Y μ1 h1 H1 σ env) (hc : Y.cm c = some C) (v1 : VRs Y μ1 (vis μ1 H1) (FS.map (·.2)) xs)
    (na : H1 a = none) (n : upd H1 a (exo a C none) dx = none) (ne : dx ≠ a) (k : d.xc ⟨c, FS.map (·.1), xs⟩ env h1) :
    ∃ (d' : Addr) (fs : List (Str × V)), upd (upd (upd H1 a (exo a C none)) dx (exd dx FS)) a (exo a C (some dx)) a = some (exo a C (some d')) ∧ upd (upd (upd H1 a (exo a C none)) dx (exd dx FS)) a (exo a C (some dx)) d' = some (exd d' fs) ∧ H1 d' = none ∧
      W (.ref C) (some d') σ (upd (del (upd (upd (upd H1 a (exo a C none)) dx (exd dx FS)) a (exo a C (some dx))) a) d' (.xd fs)) := by
  have n1 : H1 dx = none := by rw [upd_ne ne] at n; exact n
  refine ⟨dx, FS, upd_same, by rw [upd_ne ne, upd_same], n1, ?_⟩
  have eq : upd (del (upd (upd (upd H1 a (exo a C none)) dx (exd dx FS)) a (exo a C (some dx))) a) dx (.xd FS) = upd H1 dx (.xd FS) := by
    funext b
    by_cases hb : b = dx
    · subst hb; rw [upd_same, upd_same]
    · rw [upd_ne hb, upd_ne hb]
      by_cases ha : b = a
      · subst ha; rw [del_same, na]
      · rw [del_ne ha, upd_ne ha, upd_ne hb, upd_ne ha]
  rw [eq]
  have es : Ext μ1 μ1 H1 (upd H1 dx (.xd FS)) := .same (same_new n1)
  have nv := new_vis (o := .xd FS) z1.r n1
  refine sd.xc _ env h1 k μ1 σ _ (.ref C) (some dx) (e1.trans es) (z1.go es (z1.r.same (same_new n1))) ⟨C, dx, FS, hc, rfl, rfl, nv.1, rfl, v1.sm nv.2⟩
theorem ds_rz1 (hK : X.K = Y.K) (hcm : X.calm = true) (D : XmA X.prog X.w Y X.mg X.base x c k (fun C => sp2 C code f)) (hr : Room (k + 1) X.A) (tk : Takes X W) (hg : Gl X x) (he : DE X Y W e me)
    (hdb : (x == ("__debug__" : Str)) = false := by decide) (hst : starEach [e] X.env = (false, eval e X.env) :: starEach [] X.env := by rfl) : DS X Y W (.Raise (some (.Call (.Name x p) [e] [] pos)) none pos') (sRz1 c f code me) := by
  obtain ⟨C, hc, hm, B, newId, initId, tail, xb, T, fI, iC, tI, F⟩ := D; obtain ⟨t, a1, a2⟩ := he
  rw [← hK] at T iC tI F
  refine ⟨_, ps_raise hcm tk (pmk_b xb T iC tI F hr hg hm (pa_cons a1 pa_nil hst) hdb hst rfl), fun μ env h σ H D d z hm sd => a2 μ env h σ H _ _ _ z hm (fun v h1 k μ1 U H1 e1 r1 v1 => ?_) (sd.kx z)⟩
  refine ⟨by simp, fun a na => ⟨a, U, rfl, upd_same, fun dx n ne => ⟨rfl, ?_⟩⟩⟩
  exact rz_end (FS := [(f, U), ("code", .str code)]) sd e1 (z.go e1 r1) hc (.cons v1 (.cons (.str _) .nil)) na n ne k
theorem ds_rz0 (hK : X.K = Y.K) (hcm : X.calm = true) (D : XmA X.prog X.w Y X.mg X.base x c k (fun C => sp0 C code)) (hr : Room (k + 1) X.A) (tk : Takes X W) (hg : Gl X x)
    (hdb : (x == ("__debug__" : Str)) = false := by decide) : DS X Y W (.Raise (some (.Call (.Name x p) [] [] pos)) none pos') (sRz0 c code) := by
  obtain ⟨C, hc, hm, B, newId, initId, tail, xb, T, fI, iC, tI, F⟩ := D
  rw [← hK] at T iC tI F
  refine ⟨_, ps_raise hcm tk (pmk_b0 xb T iC tI F hr hg hm hdb), fun μ env h σ H D d z hm sd => ?_⟩
  refine ⟨by simp, fun a na => ⟨a, rfl, upd_same, fun dx n ne => ⟨rfl, ?_⟩⟩⟩
  exact rz_end (FS := [("code", .str code)]) sd .refl z hc (.cons (.str _) .nil) na n ne hm
end
end Sx

end
section
set_option Elab.async false
set_option linter.all false
set_option maxRecDepth 100000
set_option maxHeartbeats 4000000
/-! SXS: a lambda is made: what becomes of the table of code objects, told exactly (after HandS.Lambda) -/
namespace Sx
open PySem PySem.Spec PyProof.Rows L2 Cl
/-- the table at P behind the making of a lambda at pos whose code object is at c -/
def Made (H H1 : Hp) (P : Addr) (ps : Array Value) (pos : Pos) (c : Addr) (q : Str) : Prop :=
  H1 = H ∨ (H c = none ∧ codeAmong pos ps.toList = none ∧ H1 = upd (upd H P (.tbl (ps ++ #[rawInt pos.line, rawInt pos.col, .ref c]))) c (LamX.CodeO c q))
section
variable {X : Cx} {pins : List (Addr × Obj)} {σ : L2.St} {H : Hp} {s : Shared}
theorem lam_made {c P : Addr} {ps : Array Value} {params : Arguments} {body : Expr} {scope : Scope} {pos : Pos} {E : Value → Shared → Prop} {Q : Value → Shared → Prop} (I : Inv X pins σ H s) (TB : LamX.TabB X.base X.mg c P) (hcode : X.env.code = .ref c)
    (hP : H P = some (.tbl ps)) (ht : TriplesOk ps.toList) (ha : ∀ (pos : Pos) (cv : Value), codeAmong pos ps.toList = some cv → ∃ c, cv = .ref c ∧ H c = some (LamX.CodeO c (X.env.qual ++ "<lambda>")))
    (hdef : defaultsOf params X.env = ([], [])) (hfree : ∀ y ∈ scope.names, y.2 = .free → ∃ c, X.env.cells.lookup y.1 = some c)
    (h : ∀ (f c' : Addr) (pm ctv : Value) (H1 : Hp) (s' : Shared), Inv X pins σ H1 s' → Made H H1 P ps pos c' (X.env.qual ++ "<lambda>") →
      s'.heap.get? f = some (PySem.W.kla_obj "<lambda>" (X.env.qual ++ "<lambda>") params body scope (cloFrom X.env.cells scope.names []) pm c' ctv) → H1 f = none → f ∉ frs X.stack → H1 c' = some (LamX.CodeO c' (X.env.qual ++ "<lambda>")) → Q (.ref f) s') :
    wpAny (model X.prog X.w) X.A (eval (.Lambda params body scope pos) X.env) Q E s := by
  refine PySem.W.kla_eval hdef ?_
  have bP : s.heap.BuiltinsAt X.mg P := TB.bm.keeps I.bk
  have hP' : s.heap.get? P = some { cls := .none, data := .fields ps } := I.hok P _ hP
  have nofr : ∀ f, s.heap.objs.size ≤ f → f ∉ frs X.stack := fun f hf z => by
    rcases List.mem_cons.mp (I.stkSub _ z) with e | e
    · have h1 := I.lt
      rw [← e] at h1
      exact Nat.lt_irrefl _ (Nat.lt_of_lt_of_le h1 hf)
    · exact I.nofs hf e
  cases hc : codeAmong pos ps.toList with
  | none =>
    refine PySem.W.kla_makeFunction (mg := X.mg) (c := c) (P := P) (ps := ps) (closure_ok hfree) I.ok.glob (I.mod.glob.keeps I.bk) hcode (TB.code.keeps I.bk) hP' ht hc TB.gP bP fun c' ctv h' tk hx hge hlt hrec htb => ?_
    obtain ⟨c2, oc, vs, t, e2, hoc, hd, hv⟩ := hrec
    cases e2
    have hsz : s.heap.objs.size ≤ h'.objs.size := Nat.le_trans hge (Nat.le_of_lt hlt)
    have nC : H c' = none := I.hok.fresh hge
    have I1 := LamX.inv_table (t' := tk) (more := #[rawInt pos.line, rawInt pos.col, .ref c']) (h' := h'.push (PySem.W.kla_obj "<lambda>" (X.env.qual ++ "<lambda>") params body scope (cloFrom X.env.cells scope.names []) ((X.mg "__name__").getD .none) c' ctv)) I hP
      (fun b o hb e => Heap.get?_push_of_some _ (hx b o hb e)) (Heap.get?_push_of_some _ htb) hge ⟨oc, vs, t, Heap.get?_push_of_some _ hoc, hd, hv⟩
    refine h h'.objs.size c' ((X.mg "__name__").getD .none) ctv _ _ I1 (.inr ⟨nC, hc, rfl⟩) (Heap.get?_push_size _ rfl) ?_ (nofr _ hsz) upd_same
    have n1 : h'.objs.size ≠ c' := Nat.ne_of_gt hlt
    have n2 : h'.objs.size ≠ P := Nat.ne_of_gt (Nat.lt_of_lt_of_le (Heap.lt_size hP') hsz)
    rw [upd_ne n1, upd_ne n2]
    exact I.hok.fresh hsz
  | some cv =>
    obtain ⟨c', e, hco⟩ := ha pos cv hc
    subst e
    refine PySem.W.kla_makeFunctionHit (mg := X.mg) (c := c) (P := P) (ps := ps) (closure_ok hfree) I.ok.glob (I.mod.glob.keeps I.bk) hcode (TB.code.keeps I.bk) hP' ht hc bP fun ctv h' tk hx hsz => ?_
    have I1 : Inv X pins σ H { s with heap := h'.push (PySem.W.kla_obj "<lambda>" (X.env.qual ++ "<lambda>") params body scope (cloFrom X.env.cells scope.names []) ((X.mg "__name__").getD .none) c' ctv), toks := tk } := I.kept fun b o e => Heap.get?_push_of_some _ (hx b o e)
    exact h h'.objs.size c' ((X.mg "__name__").getD .none) ctv H _ I1 (.inl rfl) (Heap.get?_push_size _ rfl) (I.hok.fresh hsz) (nofr _ hsz) hco
end
/-- .. over plain values nothing has happened -/
theorem made_rel {Y : Ky} {μ : Mp} {h : Mh} {H H1 : Hp} {P c : Addr} {q : Str} {ps : Array Value} {pos : Pos} (r : Rel Y μ h H) (hm : (P, q) ∈ Y.T) (hu : ∀ p ∈ Y.T, p.1 = P → p.2 = q) (hP : H P = some (.tbl ps)) (m : Made H H1 P ps pos c q) : Ext μ μ H H1 ∧ Rel Y μ h H1 := by
  rcases m with rfl | ⟨nC, hc, rfl⟩
  · exact ⟨.refl, r⟩
  have hPm : μ.m P = true := Mp.m_tb (by rw [r.tbm]; exact List.mem_map.mpr ⟨_, hm, rfl⟩)
  have hPc : P ≠ c := ne_of_none hP nC
  have at_ : ∀ b, b ≠ P → b ≠ c → upd (upd H P (.tbl (ps ++ #[rawInt pos.line, rawInt pos.col, .ref c]))) c (LamX.CodeO c q) b = H b := fun b h1 h2 => by rw [upd_ne h2, upd_ne h1]
  have ex : Ext μ μ H (upd (upd H P (.tbl (ps ++ #[rawInt pos.line, rawInt pos.col, .ref c]))) c (LamX.CodeO c q)) := by
    refine ⟨fun _ _ e => e, rfl, rfl, fun _ q => .inl q, fun b o nb e => ?_, fun b nb => ?_, rfl⟩
    · rw [at_ b (fun z => by rw [z, hPm] at nb; cases nb) (ne_of_none e nC)]; exact e
    · by_cases h1 : b = c
      · rw [h1, upd_same]; exact fun z => nomatch z
      · by_cases h2 : b = P
        · rw [h2, upd_ne hPc, upd_same]; exact fun z => nomatch z
        · rw [at_ b h2 h1]; exact nb
  refine ⟨ex, ⟨r.len, r.nd, fun i a c' e1 e2 => ?_, fun p l e => ?_, fun a qa => ⟨ex.there a (r.ex a qa).1, (r.ex a qa).2⟩, r.tbm, fun z hz => ?_⟩⟩
  · have c0 := r.at_ i a c' e1 e2
    exact c0.mono ex.le (at_ a (fun eq => c0.ntbl ps (by rw [eq]; exact hP)) (fun eq => c0.some (by rw [eq]; exact nC)))
  · obtain ⟨so, n1, n2⟩ := r.src p l e
    refine ⟨?_, n1, n2⟩
    obtain ⟨ns, k, r', x, g1, g2, z⟩ := so
    refine ⟨ns, k, r', x, ?_, ?_, z⟩
    · rw [at_ p (fun eq => by rw [eq, hP] at g1; cases g1) (ne_of_none g1 nC)]; exact g1
    · rw [at_ l (fun eq => by rw [eq, hP] at g2; cases g2) (ne_of_none g2 nC)]; exact g2
  · have vc : vis μ (upd (upd H P (.tbl (ps ++ #[rawInt pos.line, rawInt pos.col, .ref c]))) c (LamX.CodeO c q)) c = some (LamX.CodeO c q) := by
      refine hid_of ?_ upd_same
      cases y : μ.h c with
      | false => rfl
      | true => exact absurd nC (r.good c y)
    obtain ⟨qs, h1, h2, h3⟩ := r.tb z hz
    by_cases hb : z.1 = P
    · rw [hb, hP] at h1
      cases h1
      have eL : (ps ++ #[rawInt pos.line, rawInt pos.col, .ref c]).toList = ps.toList ++ [rawInt pos.line, rawInt pos.col, .ref c] := by simp
      refine ⟨ps ++ #[rawInt pos.line, rawInt pos.col, .ref c], by rw [hb, upd_ne hPc, upd_same], by rw [eL]; exact PySem.TriplesOk_snoc _ _ _ _ h2, fun p' cv hcv => ?_⟩
      rw [eL] at hcv
      rcases LamX.among_app _ h2 hcv with y | y
      · obtain ⟨c0, e1, e2⟩ := h3 p' cv y
        exact ⟨c0, e1, ex.vis _ _ e2⟩
      · rw [hu z hz hb]
        exact ⟨c, y, vc⟩
    · refine ⟨qs, by rw [at_ z.1 hb (ne_of_none h1 nC)]; exact h1, h2, fun p' cv hcv => ?_⟩
      obtain ⟨c0, e1, e2⟩ := h3 p' cv hcv
      exact ⟨c0, e1, ex.vis _ _ e2⟩
end Sx

end
section
set_option Elab.async false
set_option linter.all false
set_option maxRecDepth 100000
set_option maxHeartbeats 4000000
/-! SXT: lambdas with and without a default: made and called (after HandS.Lambda, which serves none with a default) -/
namespace Sx
open PySem PySem.Spec PyProof.Rows L2 Cl
/-- the lambda's object stands at f, its code object at c'; what it binds when it is called without arguments -/
structure LamAt (X : Cx) (s : Shared) (H : Hp) (params : Arguments) (body : Expr) (scope : Scope) (f c' : Addr) : Prop where
  obj : ∃ (dV doc pm ctv : Value), s.heap.get? f = some (PySem.W.kdv_obj "<lambda>" (X.env.qual ++ "<lambda>") params (.expr body) scope (cloFrom X.env.cells scope.names []) dV doc pm c' ctv) ∧
    ∀ s1 : Shared, (∀ b o, s.heap.get? b = some o → H b = none → b ∉ frs X.stack → s1.heap.get? b = some o) →
      ∃ binds, BindsTo s1 (PySem.W.kdv_fn "<lambda>" (X.env.qual ++ "<lambda>") params (.expr body) scope (cloFrom X.env.cells scope.names []) dV doc pm (.ref c') ctv) ⟨[], []⟩ binds ∧ ∀ y ∈ binds, scope.names.lookup y.1 = some .local
  no : H f = none
  nofr : f ∉ frs X.stack
/-- how a lambda binds: no default, or one -/
def LamB (params : Arguments) (body : Expr) (scope : Scope) : Prop :=
  (params.defaults = [] ∧ params.kw_defaults = [] ∧ ∀ (q : Str) (cl : List (Str × Addr)) (doc pm cv ctv : Value), bindArgs (PySem.W.kdv_fn "<lambda>" q params (.expr body) scope cl .none doc pm cv ctv) ⟨[], []⟩ = pure []) ∨
  ∃ (a : Str) (n : Int) (j : Nat) (p : Pos), params.defaults = [.Constant (.int n) j p] ∧ params.kw_defaults = [] ∧ scope.names.lookup a = some .local ∧ ∀ (q : Str) (cl : List (Str × Addr)) (doc pm cv ctv : Value) (t : Addr),
    ∃ k, bindArgs (PySem.W.kdv_fn "<lambda>" q params (.expr body) scope cl (.ref t) doc pm cv ctv) ⟨[], []⟩ = (seqItems? (.ref t) >>= k) ∧ ∀ u : Value, k (some #[u]) = pure [(a, u)]
structure LamS2 (N : List Str) (sc scope : Scope) : Prop where
  kind : scope.kind = .function
  co : scope.isCoroutine = false
  gen : scope.isGenerator = false
  own : ∀ y ∈ scope.names, (y.2 = .local → y.1 ∉ N) ∧ y.2 ≠ .cell
  free : ∀ y ∈ scope.names, y.2 = .free → sc.names.lookup y.1 = some .cell ∨ sc.names.lookup y.1 = some .free
def lamSB2 (N : List Str) (sc scope : Scope) : Bool :=
  decide (scope.kind = .function) && !scope.isCoroutine && !scope.isGenerator && scope.names.all fun y => (!decide (y.2 = .local) || !decide (y.1 ∈ N)) && !decide (y.2 = .cell) && (!decide (y.2 = .free) || decide (sc.names.lookup y.1 = some .cell) || decide (sc.names.lookup y.1 = some .free))
theorem lamS2_by {N : List Str} {sc scope : Scope} (h : lamSB2 N sc scope = true) : LamS2 N sc scope := by
  unfold lamSB2 at h
  simp only [Bool.and_eq_true, Bool.or_eq_true, Bool.not_eq_true', decide_eq_true_eq, decide_eq_false_iff_not, List.all_eq_true] at h
  obtain ⟨⟨⟨h1, h2⟩, h3⟩, h4⟩ := h
  refine ⟨h1, h2, h3, fun y hy => ⟨fun e => ?_, (h4 y hy).1.2⟩, fun y hy e => ?_⟩
  · rcases (h4 y hy).1.1 with z | z
    · exact absurd e z
    · exact z
  · rcases (h4 y hy).2 with (z | z) | z
    · exact absurd e z
    · exact .inl z
    · exact .inr z
section
variable {X : Cx} {pins : List (Addr × Obj)} {σ : L2.St} {H HZ : Hp} {s s1 : Shared}
theorem LamS2.has {scope : Scope} (L : LamS2 X.N X.env.scope scope) (ok : X.Ok) : ∀ y ∈ scope.names, y.2 = .free → ∃ c, X.env.cells.lookup y.1 = some c := fun y hy e => by
  rcases L.free y hy e with k | k
  · exact ok.has _ (.inl k)
  · exact ok.has _ (.inr k)
/-- the tail of the making: the heap has grown to s already -/
theorem lam_tail {c P : Addr} {ps : Array Value} {params : Arguments} {body : Expr} {scope : Scope} {pos : Pos} {dV : Value} {firstLine : Nat} {E : Value → Shared → Prop} {Q : Value → Shared → Prop} (I : Inv X pins σ H s) (TB : LamX.TabB X.base X.mg c P) (hcode : X.env.code = .ref c)
    (hP : H P = some (.tbl ps)) (ht : TriplesOk ps.toList) (ha : ∀ (pos : Pos) (cv : Value), codeAmong pos ps.toList = some cv → ∃ c, cv = .ref c ∧ H c = some (LamX.CodeO c (X.env.qual ++ "<lambda>")))
    (hfree : ∀ y ∈ scope.names, y.2 = .free → ∃ c, X.env.cells.lookup y.1 = some c)
    (h : ∀ (f c' : Addr) (doc pm ctv : Value) (H1 : Hp) (s' : Shared), Inv X pins σ H1 s' → Made H H1 P ps pos c' (X.env.qual ++ "<lambda>") →
      s'.heap.get? f = some (PySem.W.kdv_obj "<lambda>" (X.env.qual ++ "<lambda>") params (.expr body) scope (cloFrom X.env.cells scope.names []) dV doc pm c' ctv) → H1 f = none → f ∉ frs X.stack → H1 c' = some (LamX.CodeO c' (X.env.qual ++ "<lambda>")) →
      (∀ b o, b ≠ P → s.heap.get? b = some o → s'.heap.get? b = some o) → Q (.ref f) s') :
    wpAny (model X.prog X.w) X.A (makeTail "<lambda>" (X.env.qual ++ "<lambda>") params (.expr body) scope X.env dV .none none pos firstLine) Q E s := by
  have bP : s.heap.BuiltinsAt X.mg P := TB.bm.keeps I.bk
  have hP' : s.heap.get? P = some { cls := .none, data := .fields ps } := I.hok P _ hP
  have nofr : ∀ f, s.heap.objs.size ≤ f → f ∉ frs X.stack := fun f hf z => by
    rcases List.mem_cons.mp (I.stkSub _ z) with e | e
    · have h1 := I.lt
      rw [← e] at h1
      exact Nat.lt_irrefl _ (Nat.lt_of_lt_of_le h1 hf)
    · exact I.nofs hf e
  cases hc : codeAmong pos ps.toList with
  | none =>
    refine PySem.W.kdv_makeTail (mg := X.mg) (c := c) (P := P) (ps := ps) (closure_ok hfree) I.ok.glob (I.mod.glob.keeps I.bk) hcode (TB.code.keeps I.bk) hP' ht hc TB.gP bP fun c' ctv doc h' tk hx hge hlt hrec htb => ?_
    obtain ⟨c2, oc, vs, t, e2, hoc, hd, hv⟩ := hrec
    cases e2
    have hsz : s.heap.objs.size ≤ h'.objs.size := Nat.le_trans hge (Nat.le_of_lt hlt)
    have nC : H c' = none := I.hok.fresh hge
    have I1 := LamX.inv_table (t' := tk) (more := #[rawInt pos.line, rawInt pos.col, .ref c']) (h' := h'.push (PySem.W.kdv_obj "<lambda>" (X.env.qual ++ "<lambda>") params (.expr body) scope (cloFrom X.env.cells scope.names []) dV doc ((X.mg "__name__").getD .none) c' ctv)) I hP
      (fun b o hb e => Heap.get?_push_of_some _ (hx b o hb e)) (Heap.get?_push_of_some _ htb) hge ⟨oc, vs, t, Heap.get?_push_of_some _ hoc, hd, hv⟩
    refine h h'.objs.size c' doc ((X.mg "__name__").getD .none) ctv _ _ I1 (.inr ⟨nC, hc, rfl⟩) (Heap.get?_push_size _ rfl) ?_ (nofr _ hsz) upd_same fun b o hb e => Heap.get?_push_of_some _ (hx b o hb e)
    have n1 : h'.objs.size ≠ c' := Nat.ne_of_gt hlt
    have n2 : h'.objs.size ≠ P := Nat.ne_of_gt (Nat.lt_of_lt_of_le (Heap.lt_size hP') hsz)
    rw [upd_ne n1, upd_ne n2]
    exact I.hok.fresh hsz
  | some cv =>
    obtain ⟨c', e, hco⟩ := ha pos cv hc
    subst e
    refine PySem.W.kdv_makeTailHit (mg := X.mg) (c := c) (P := P) (ps := ps) (closure_ok hfree) I.ok.glob (I.mod.glob.keeps I.bk) hcode (TB.code.keeps I.bk) hP' ht hc bP fun ctv doc h' tk hx hsz => ?_
    have I1 : Inv X pins σ H { s with heap := h'.push (PySem.W.kdv_obj "<lambda>" (X.env.qual ++ "<lambda>") params (.expr body) scope (cloFrom X.env.cells scope.names []) dV doc ((X.mg "__name__").getD .none) c' ctv), toks := tk } := I.kept fun b o e => Heap.get?_push_of_some _ (hx b o e)
    exact h h'.objs.size c' doc ((X.mg "__name__").getD .none) ctv H _ I1 (.inl rfl) (Heap.get?_push_size _ rfl) (I.hok.fresh hsz) (nofr _ hsz) hco fun b o _ e => Heap.get?_push_of_some _ (hx b o e)
theorem lam_made2 {c P : Addr} {ps : Array Value} {params : Arguments} {body : Expr} {scope : Scope} {pos : Pos} {E : Value → Shared → Prop} {Q : Value → Shared → Prop} (I : Inv X pins σ H s) (TB : LamX.TabB X.base X.mg c P) (hcode : X.env.code = .ref c)
    (hP : H P = some (.tbl ps)) (ht : TriplesOk ps.toList) (ha : ∀ (pos : Pos) (cv : Value), codeAmong pos ps.toList = some cv → ∃ c, cv = .ref c ∧ H c = some (LamX.CodeO c (X.env.qual ++ "<lambda>")))
    (hb : LamB params body scope) (hfree : ∀ y ∈ scope.names, y.2 = .free → ∃ c, X.env.cells.lookup y.1 = some c)
    (h : ∀ (f c' : Addr) (H1 : Hp) (s' : Shared), Inv X pins σ H1 s' → Made H H1 P ps pos c' (X.env.qual ++ "<lambda>") → LamAt X s' H1 params body scope f c' → H1 c' = some (LamX.CodeO c' (X.env.qual ++ "<lambda>")) → Q (.ref f) s') :
    wpAny (model X.prog X.w) X.A (eval (.Lambda params body scope pos) X.env) Q E s := by
  rcases hb with ⟨hd, hk, hbd⟩ | ⟨a, n, j, p, hd, hk, hloc, hbd⟩
  · have hdef : defaultsOf params X.env = ([], []) := by rw [PySem.defaultsOf_eq, hd, hk]; rfl
    refine PySem.W.kla_eval hdef ?_
    rw [makeFunction_eq]
    simp only [List.zip_nil_right, List.filterMap_nil, List.isEmpty_nil, if_true, pure_bind]
    refine lam_tail I TB hcode hP ht ha hfree fun f c' doc pm ctv H1 s' I1 m ho hn hfr hc hkp => h f c' H1 s' I1 m ⟨⟨.none, doc, pm, ctv, ho, fun s1 _ => ⟨[], .of_eq (hbd _ _ _ _ _ _), fun y hy => by cases hy⟩⟩, hn, hfr⟩ hc
  · refine PySem.W.kdv_lam (by rw [hd]; rfl) hk ?_
    rw [hd]
    refine PySem.W.kdv_all1 (wpAny_Constant_int (PySem.W.kdv_all0 ?_))
    rw [makeFunction_eq]
    simp only [List.zip_nil_right, List.filterMap_nil, List.isEmpty_nil, List.isEmpty_cons, if_true, if_false, Bool.false_eq_true, pure_bind]
    refine wpAny_bind (wpAny_newTextTuple ?_)
    have I0 := (I.tok (s.toks + 1))
    have I1 := I0.kept (h' := s.heap.push (PySem.W.kdv_tup [.int n s.toks])) (t' := s.toks + 1) fun b o e => Heap.get?_push_of_some _ e
    have hT : (s.heap.push (PySem.W.kdv_tup [.int n s.toks])).get? s.heap.objs.size = some (PySem.W.kdv_tup [.int n s.toks]) := Heap.get?_push_size _ rfl
    refine lam_tail I1 TB hcode hP ht ha hfree fun f c' doc pm ctv H1 s' I2 m ho hn hfr hc hkp => h f c' H1 s' I2 m ⟨⟨.ref s.heap.objs.size, doc, pm, ctv, ho, fun s1 hs1 => ?_⟩, hn, hfr⟩ hc
    have nT : H s.heap.objs.size = none := I.hok.fresh (Nat.le_refl _)
    have hPT : s.heap.objs.size ≠ P := fun e => by rw [← e, nT] at hP; cases hP
    have hT' := hkp _ _ hPT hT
    have hn1 : H1 s.heap.objs.size = none := by
      rcases m with rfl | ⟨nC, hcc, rfl⟩
      · exact nT
      · rw [upd_ne (fun e => ?_), upd_ne hPT]
        · exact nT
        · have := I2.hok c' _ hc
          obtain ⟨⟨oc, vs, t, e1, e2, e3⟩, _, _⟩ := this
          rw [← e, hT'] at e1
          cases e1
          cases e2
    have nfr : s.heap.objs.size ∉ frs X.stack := fun z => by
      rcases List.mem_cons.mp (I.stkSub _ z) with e | e
      · have h1 := I.lt
        rw [← e] at h1
        exact Nat.lt_irrefl _ h1
      · exact I.nofs (Nat.le_refl _) e
    obtain ⟨k, k1, k2⟩ := hbd (X.env.qual ++ "<lambda>") (cloFrom X.env.cells scope.names []) doc pm (.ref c') ctv s.heap.objs.size
    exact ⟨[(a, .int n s.toks)], BindsTo.of_defaults rfl (hs1 _ _ hT' hn1 nfr) rfl k1 (k2 _), fun y hy => by
      have := List.mem_singleton.mp hy
      subst this
      exact hloc⟩
theorem lam_start3 {A : Around} {outer : List Env} {E : XK} {scope : Scope} {f c' : Addr} {h₁ : Heap} {tk : Nat} {binds : List (Str × Value)} (I : Inv X pins σ H s) (L : LamS2 X.N X.env.scope scope) (e0 : Env0 X.prog X.w X.K X.mg X.base A outer s1 HZ) (hd : A.handled = none)
    (un : Un (frs X.stack) [] H HZ s.heap s1.heap) (hns : h₁.Ns s1.heap.objs.size fun y => binds.reverse.lookup y) (kp : ∀ b o, s1.heap.get? b = some o → h₁.get? b = some o) :
    Inv (LamX.lamCx X A outer s1 HZ E scope f c') [] σ HZ { s1 with heap := h₁, toks := tk } := by
  have hfree := L.has I.ok
  have cm : ∀ {y c}, (cloFrom X.env.cells scope.names []).lookup y = some c → X.env.cells.lookup y = some c := fun {y c} e => by
    rcases cloFrom_mem (PySem.mem_of_lookup e) with hm | ⟨h1, h2⟩
    · cases hm
    · obtain ⟨c1, hc⟩ := hfree _ h1 rfl
      have hc : X.env.cells.lookup y = some c1 := hc
      have e2 : c = c1 := by
        rw [h2, hc] <;> rfl
      rw [e2]
      exact hc
  have look : ∀ {y}, scope.names.lookup y = some .free → ∃ c, (cloFrom X.env.cells scope.names []).lookup y = some c := fun {y} hl => by
    have hy : (y, NameKind.free) ∈ scope.names := PySem.mem_of_lookup hl
    exact mem_lookup (cloFrom_has (cells := X.env.cells) (acc := []) hy)
  have cellK : ∀ {c : Addr} {v : Option Value}, H c = none → s.heap.IsCell c v → h₁.IsCell c v := fun {c v} n ⟨o, ho, hd⟩ => by
    obtain ⟨sl, q⟩ := un.any ho n (by simp)
    exact ⟨_, kp _ _ q, hd⟩
  have noA : ∀ b : Addr, b ∉ (LamX.lamCx X A outer s1 HZ E scope f c').ex := fun b z => absurd (show b ∈ ([] : List Addr) from z) (by simp)
  refine ⟨⟨e0.mod, L.kind, rfl, rfl, Nat.le_refl _, fun y z c e1 e2 => I.ok.inj y z c (cm e1) (cm e2), fun y hy => ?_, fun y c z _ => ?_, fun _ => hd, Around.frames_deeper e0.frames, .inr ⟨rfl, rfl⟩, fun b z => absurd z (noA b), e0.bs, e0.bsz, fun b _ _ => noA b,
      fun b z => absurd z (noA b), e0.funs, e0.frf⟩,
    rfl, e0.bare, Un.kept kp, ⟨_, hns, fun i y v e1 e2 e3 => ?_⟩, fun y c e => ?_, e0.hok.fresh (Nat.le_refl _), fun y c e => ?_, fun q hq => absurd (show q ∈ ([] : List (Addr × Obj)) ++ [] from hq) (by simp), e0.hok.kept kp, I.len⟩
  · have hy : scope.names.lookup y = some .cell ∨ scope.names.lookup y = some .free := hy
    rcases hy with hy | hy
    · exact absurd rfl (L.own _ (PySem.mem_of_lookup hy)).2
    · exact look hy
  · have z : false = true := z
    cases z
  · have e3 : Vis scope y := e3
    rcases e3 with k | k | k
    · exact absurd (List.mem_of_getElem? (show X.N[i]? = some y from e1)) ((L.own _ (PySem.mem_of_lookup k)).1 rfl)
    · exact absurd rfl (L.own _ (PySem.mem_of_lookup k)).2
    · obtain ⟨m, hn, hl⟩ := I.loc
      have hvis : Vis X.env.scope y := (L.free _ (PySem.mem_of_lookup k) rfl).elim (fun k => .inr (.inl k)) (fun k => .inr (.inr k))
      obtain ⟨w', r, q⟩ := hl i y v e1 e2 hvis
      obtain ⟨c2, h2⟩ := look k
      refine ⟨w', r, .inr ⟨.inr k, c2, h2, ?_⟩⟩
      have c1 := cm h2
      rcases q with ⟨k', _⟩ | ⟨_, c3, e', z⟩
      · have k' : X.env.scope.names.lookup y = some .local := k'
        rcases L.free _ (PySem.mem_of_lookup k) rfl with k2 | k2 <;> rw [show X.env.scope.names.lookup y = _ from k2] at k' <;> cases k'
      · rw [c1] at e'
        cases e'
        exact cellK (I.freeC y _ c1) z
  · obtain ⟨w', z⟩ := I.cell y c (cm e)
    exact ⟨w', cellK (I.freeC y c (cm e)) z⟩
  · obtain ⟨v, o, ho, hd⟩ := I.cell y c (cm e)
    exact un.free c o ho (I.freeC y c (cm e)) (by simp)
/-- x(), in the def that got the lambda: Z is that def's context, entered at s -/
theorem pe_act2 {CXg : CXT} {Eg : XK} {Ng : List Str} {qg : Str} {sg : Scope} {g f c' : Addr} {cdg : Value} {params : Arguments} {body : Expr} {scope : Scope} {k i : Nat} {a : Str} {pn : List (Addr × Obj)} {xe : Value → Shared → Prop} {W : WX} {E : XK} {tb : TE} {p1 p2 : Pos}
    (I : Inv X pins σ H s) (L : LamS2 X.N X.env.scope scope) (hf : LamAt X s H params body scope f c')
    (tk : Takes ((cxOf CXg X.prog X.w X.K X.mg X.base Ng qg sg g cdg X.A X.stack s H Eg).tr pn xe) W) (hr : Room (k + 1) (X.A.deeper (envOfC qg sg s.heap.objs.size g cdg)))
    (hbody : ∀ (A : Around) (outer : List Env) (s : Shared) (H : Hp), Room k (A.deeper (LamX.lamEnv X scope s.heap.objs.size f c')) → PE (LamX.lamCx X A outer s H E scope f c') body tb)
    (hN : Ng[i]? = some a) (hv : Vis sg a) (hd : (a == ("__debug__" : Str)) = false := by decide) (hcd : (a == ("__classdict__" : Str)) = false := by decide) :
    PE ((cxOf CXg X.prog X.w X.K X.mg X.base Ng qg sg g cdg X.A X.stack s H Eg).tr pn xe) (.Call (.Name a p1) [] [] p2)
      (fun σZ HZ Q => σZ[i]? = some (some (.ref f)) ∧ HZ c' = some (LamX.CodeO c' (X.env.qual ++ "<lambda>")) ∧ (∀ cls d H', E cls d H' → W cls d σZ H') ∧ tb σ HZ Q) := by
  refine ⟨fun pinsZ sZ σZ HZ Q IZ h => ?_⟩
  obtain ⟨hs, hc, hW, ht⟩ := h
  refine wpAny_Call_Name_kw (thn ((pe_var (pos := p1) (i := i) hN hv hd hcd).run pinsZ sZ σZ HZ (fun v H1 => v = .ref f ∧ H1 = HZ) IZ ⟨.ref f, hs, rfl, rfl⟩) fun u s1 ⟨v, H1, I1, r1, q1⟩ => ?_)
  obtain ⟨ev, eH⟩ := q1
  subst ev
  rw [eH] at I1
  obtain rfl : u = Value.ref f := r1
  obtain ⟨⟨dV, doc, pm, ctv, ho, hbs⟩, hfn, hfr⟩ := hf
  have keep : ∀ b o, s.heap.get? b = some o → H b = none → b ∉ frs X.stack → s1.heap.get? b = some o := fun b o e n nf => I1.base.keep b o e n nf (fun z => nomatch (show b ∈ ([] : List Addr) from z))
  have of1 := keep f _ ho hfn hfr
  obtain ⟨binds, hb1, hb2⟩ := hbs s1 keep
  refine PySem.W.callWith_F0 ⟨_, _, _, _, of1⟩ ?_
  have un : Un (frs X.stack) [] H HZ s.heap s1.heap := I1.base
  obtain ⟨⟨oc, vs, t, hoc, hdc, hvc⟩, _, _⟩ := I1.hok c' _ hc
  have rc : codeAny (model X.prog X.w) (X.A.deeper (envOfC qg sg s.heap.objs.size g cdg)) (.call (.ref f) ⟨[], []⟩) (CR (L2.CX X.prog X.w) (envOfC qg sg s.heap.objs.size g cdg :: X.stack) X.prog X.w HZ s1 Q E) s1 := by
    refine PySem.W.kla_callFunE hr.depth of1 rfl L.co L.gen rfl ⟨c', oc, vs, t, rfl, hoc, hdc, hvc⟩ (hb1 _ _ _ _ ?_)
    refine wpAny_newFunctionEnv (fun y hy => (L.own y hy).2) hb2 (fun h₁ hns hsb => ⟨I1.nolimit.fresh _ hsb, ?_⟩) L.kind
    show codeAny _ _ (.expr body (LamX.lamEnv X scope s1.heap.objs.size f c')) _ _
    have kp : ∀ b o, s1.heap.get? b = some o → h₁.get? b = some o := fun b o e => hsb.extBut b o (Nat.ne_of_lt (Heap.lt_size e)) (Heap.get?_push_of_some _ e)
    have J : Inv (LamX.lamCx X (X.A.deeper (envOfC qg sg s.heap.objs.size g cdg)) (envOfC qg sg s.heap.objs.size g cdg :: X.stack) s1 HZ E scope f c') [] σ HZ { s1 with heap := h₁, toks := s1.toks + binds.length } :=
      lam_start3 I L I1.env0 hr.hd un hns kp
    refine PySem.W.kla_codeExpr (wpAny_mono ((hbody _ _ s1 HZ (hr.deeper _)).run [] _ _ HZ Q J ht) (fun v s' hq => ?_) fun e s' hq => hq)
    obtain ⟨w', H', J', rv, q⟩ := hq
    exact ⟨w', H', J'.os, J'.bare, J'.base, J'.hok, rv, q⟩
  refine wpAny_call (codeAny_mono rc fun r s' hq => ?_)
  cases r with
  | error e => exact tk e s' (XE.of_call I1 hW hq)
  | ok fl =>
    cases fl with
    | ret u => exact I1.after hq
    | next => exact False.elim hq
    | brk => exact False.elim hq
    | cont => exact False.elim hq
end
end Sx

end
section
set_option Elab.async false
set_option linter.all false
set_option maxRecDepth 100000
set_option maxHeartbeats 4000000
/-! SXU: try: .. except (A, B) as n: ..; the fields of what was caught; a def called there -/
namespace Sx
open PySem PySem.Spec PyProof.Rows L2 Cl L2H
/-! ### try .. except (x1, x2) as n -/
def wAs2 (K : PySem.W.Frag) (c1 c2 : Value) (i : Nat) (ts : Addr → Value → Option Addr → TS) (Wout : WX) (D : Ends) : WX := fun cls d σ H =>
  ∃ b, PySem.W.exmAny K cls [c1, c2] = some b ∧ (b = true → ∀ a, H a = none → ts a cls d { nx := fun σ' H' => D.nx (σ'.set i none) H', rt := D.rt, bk := fun σ' H' => D.bk (σ'.set i none) H', ct := fun σ' H' => D.ct (σ'.set i none) H' } (σ.set i (some (.ref a))) H) ∧
    (b = false → Wout cls d σ H)
theorem flying_push {B : Heap} {l : List Env} {a : Addr} {Z : Obj → Prop} {h : Heap} {o : Obj} (fl : HandSPX.FlyingZ B l a Z h) : HandSPX.FlyingZ B l a Z (h.push o) := by
  obtain ⟨k1, k2, k3, oe, vs, T, oT, ts', he, hz, hd, h1, hn, hne, hT, hdT, h3⟩ := fl
  exact ⟨fun b o e => Heap.get?_push_of_some _ (k1 b o e), k2, Heap.FunFrames.of_keeps (fun b o e _ => ⟨o, Heap.get?_push_of_some _ e, rfl⟩) k3, oe, vs, T, oT, ts', Heap.get?_push_of_some _ he, hz, hd, h1, hn, hne, Heap.get?_push_of_some _ hT, hdT, h3⟩
section
variable {X : Cx} {x1 x2 n : Str} {c1 c2 : Value} {i kk : Nat} {body suite : List Stmt} {b₀ : Stmt} {np1 np2 np pos pos' : Pos} {tb : WX → TS} {ts : Addr → Value → Option Addr → TS} {Wout : WX}
theorem ps_try_as2 (hs : X.stack = X.env :: X.outer) (hf : X.env.frame = some X.env.locals) (hN : X.N.Nodup) (hi : X.N[i]? = some n) (hln : X.env.kindOf n = some .local) (hc1 : Names X x1 c1) (hc2 : Names X x2 c2) (tk : Takes X Wout)
    (hb : ∀ (W : WX) (pn : List (Addr × Obj)) (xe : Value → Shared → Prop), Takes (X.tr pn xe) W → PassesOwn (model X.prog X.w) X.A X.env xe → PSs (X.tr pn xe) body (tb W))
    (hsu : ∀ (a : Addr) (oe : Obj) (cls : Value) (d : Option Addr) (pn : List (Addr × Obj)), Zc cls d oe → (∃ vs, oe.data = .fields vs) → PSs (X.suite a ((a, oe) :: pn)) (b₀ :: suite) (ts a cls d)) :
    PS X (.Try body [.ExceptHandler (some (.Tuple [.Name x1 np1, .Name x2 np2] kk np)) (some n) (b₀ :: suite) pos'] [] [] pos) (fun D σ H => tb (wAs2 X.K c1 c2 i ts Wout D) D σ H) := by
  refine ⟨fun pins s σ H D I h => ?_⟩
  have ok := I.ok
  have hfr : X.A.frames = some (X.env :: X.outer) := by rw [ok.frames, hs]
  have hloc : Loc X.env.scope n := .inl hln
  refine wpAny_Try_except ?_
  refine wpAny_mono ((hb (wAs2 X.K c1 c2 i ts Wout D) (X.pn ++ pins) (fun e s₁ => wpAny (model X.prog X.w) X.A (noteFrame e X.env) (fun _ s₂ => wpAny (model X.prog X.w) X.A (setFlight e none) (fun _ s₃ =>
    wpAny (model X.prog X.w) X.A (handleBy e X.env [.ExceptHandler (some (.Tuple [.Name x1 np1, .Name x2 np2] kk np)) (some n) (b₀ :: suite) pos']) (SP X pins D) X.xe s₃) X.xe s₂) X.xe s₁) (fun u s' xx => ?_) PassesOwn.looking).run [] s σ H D (I.toTry _) h) (fun f s1 hsp => ?_) (fun e s1 he => he)
  · -- the catch
    obtain ⟨a, B, sI, pins', σ', H', cls, d, rfl, J', nb, up, sky, na, os, ag, b, hb1, hyes, hno⟩ := xx
    have J : Inv X pins σ' H' sI := J'.ofTry ok
    have sky' : Sky B (X.env :: X.outer) a (Zc cls d) X.env.locals s'.heap := by rw [← hs]; exact sky
    show wpAny (model X.prog X.w) X.A (noteFrame (.ref a) X.env) _ _ _
    refine Sky.land Zc.steady hfr hf sky' fun h3' fl3' up3' => ?_
    have J3' : Inv X pins σ' H' { s' with heap := h3' } := J.landed nb fl3'.1 (up.trans up3') os ag
    obtain ⟨oe3', vs3', he3', hz3', hd3'⟩ := fl3'.there
    have notFr : ∀ {h : Heap} {o : Obj} {vs : Array Value}, h.FunFrames B (X.env :: X.outer) → h.get? a = some o → o.data = .fields vs → a ∉ frs (X.env :: X.outer) := fun {h o vs} ff e dd hm => by
      obtain ⟨_, o', e', hnf⟩ := ff.mem hm
      rw [e] at e'; cases e'
      exact hnf _ dd
    have nfr := notFr fl3'.2.2.1 he3' hd3'
    have nL : a ≠ X.env.locals := fun z => nfr (List.mem_filterMap.mpr ⟨X.env, List.mem_cons_self, by rw [hf, z]⟩)
    have nF : a ∉ X.fs := fun hm => by
      obtain ⟨e, he, q⟩ := List.mem_filterMap.mp hm
      exact nfr (List.mem_filterMap.mpr ⟨e, List.mem_cons_of_mem _ he, q⟩)
    have S3' := J3'.suite he3' hd3' na nL nF
    refine wpAny_handleBy_cons (codeAny_handlers_test ?_) (by intro q; cases q)
    have test : ∀ {x : Str} {np : Pos} {c : Value} {Q : Value → Shared → Prop} {E : Value → Shared → Prop}, Names X x c → Q c { s' with heap := h3' } → wpAny (model X.prog X.w) (X.A.mark (some (.ref a))) (eval (.Name x np) X.env) Q E { s' with heap := h3' } := fun {x np c Q E} hc q => by
      obtain ⟨hg, hdbg, hm | ⟨hm, hv, hnn⟩⟩ := hc
      · exact ld_glob (X := X.suite a ((a, oe3') :: (X.pn ++ pins))) S3' hg hm q hdbg
      · exact ld_blt (X := X.suite a ((a, oe3') :: (X.pn ++ pins))) S3' hg hm hv q hnn hdbg
    refine wpAny_Tuple ?_
    refine wpAny_items_cons (test hc1 ?_)
    refine wpAny_items_cons (test hc2 ?_)
    refine wpAny_items_nil ⟨by size_fits, ?_⟩
    have kp : ∀ q o, h3'.get? q = some o → (h3'.push { cls := .type "tuple", data := .seq [c1, c2].toArray }).get? q = some o := fun _ _ z => Heap.get?_push_of_some _ z
    have fl3 := flying_push (o := { cls := .type "tuple", data := .seq [c1, c2].toArray }) fl3'
    have up3 : s'.heap.UpToSlots (h3'.push { cls := .type "tuple", data := .seq [c1, c2].toArray }) := up3'.trans (Heap.UpToSlots.of_keeps kp)
    have hT : (h3'.push { cls := .type "tuple", data := .seq [c1, c2].toArray }).get? h3'.objs.size = some { cls := .type "tuple", data := .seq [c1, c2].toArray } := Heap.get?_push_size _ rfl
    have J3 : Inv X pins σ' H' { s' with heap := h3'.push { cls := .type "tuple", data := .seq [c1, c2].toArray } } := J.landed nb fl3.1 (up.trans up3) os ag
    obtain ⟨oe3, vs3, he3, hz3, hd3⟩ := fl3.there
    have S3 := J3.suite he3 hd3 na nL nF
    have LT : PySem.W.Looks (model X.prog X.w) (h3'.push { cls := .type "tuple", data := .seq [c1, c2].toArray }) (typeOf (.ref a)) cls := fun A Q E s k q => wpAny_typeOf_ref (k _ _ he3) (by rw [hz3.1]; exact q)
    have LM := PySem.W.exm_tup2 (M := model X.prog X.w) (J3.kIn) LT hT hb1
    refine LM.here ?_
    generalize hh3 : h3'.push { cls := .type "tuple", data := .seq [c1, c2].toArray } = h3 at *
    cases b with
    | true =>
      refine codeAny_handlers_suite_as ?_
      refine HandSPX.lands_againZ fl3 fun h4 fl4 up4 => ?_
      have J4 : Inv X pins σ' H' { s' with heap := h4 } := J.landed nb fl4.1 ((up.trans up3).trans up4) os ag
      obtain ⟨oe4, vs4, he4, hz4, hd4⟩ := fl4.there
      have S4 := J4.suite he4 hd4 na nL nF
      refine store_ok (X := X.suite a ((a, oe4) :: (X.pn ++ pins))) (v := .ref a) S4 hN hi hloc rfl (fun s5 S5 => ?_) (.inr hln)
      refine wpAny_mono ((hsu a oe4 cls d (X.pn ++ pins) hz4 ⟨_, hd4⟩).run [] s5 _ H' _ S5 (hyes rfl a na)) (fun f s6 hsp => ?_) (fun _ _ z => False.elim z)
      have end_ : ∀ {σ6 : L2.St} {H6 : Hp} {Q : Shared → Prop}, Inv (X.suite a ((a, oe4) :: (X.pn ++ pins))) [] σ6 H6 s6 → (∀ s7, Inv X pins (σ6.set i none) H6 s7 → Q s7) →
          wpAny (model X.prog X.w) X.A (do bindName X.env n .none; unbindBehindTheSuite X.env n pos') (fun _ s7 => Q s7) X.xe s6 := fun {σ6 H6 Q} S6 hq => gone_ok (S6.unsuite ok) hN hi hln hq
      cases f with
      | next =>
        obtain ⟨σ6, H6, S6, q6⟩ := hsp
        exact end_ S6 fun s7 J7 => ⟨_, _, J7, q6⟩
      | brk =>
        obtain ⟨σ6, H6, S6, q6⟩ := hsp
        exact end_ S6 fun s7 J7 => ⟨_, _, J7, q6⟩
      | cont =>
        obtain ⟨σ6, H6, S6, q6⟩ := hsp
        exact end_ S6 fun s7 J7 => ⟨_, _, J7, q6⟩
      | ret u =>
        obtain ⟨v6, σ6, H6, S6, r6, q6⟩ := hsp
        exact end_ S6 fun s7 J7 => ⟨_, _, _, J7, r6, q6⟩
    | false =>
      show wpAny _ X.A (handleBy (.ref a) X.env []) _ _ _
      refine wpAny_handleBy_nil ?_
      obtain ⟨k1, k2, k3, oe, vs, T, oT, ts', he, hz, hd, h1, hr⟩ := id fl3
      unfold PySem.passOn
      refine wpAny_bind (wpAny_field he hd h1 ?_)
      rw [if_neg (show ¬ ((Value.ref T == Value.none) = true) from by simp)]
      have fin : wpAny (model X.prog X.w) X.A (setFlight (.ref a) X.env.frame) (fun _ s4 => wpAny (model X.prog X.w) X.A (throw (.ref a) : Sem Flow) (SP X pins D) X.xe s4) X.xe { s' with heap := h3 } := by
        rw [hf]
        refine HandSPX.setFlight_upZ fl3 fun h4 hh4 up4 => wpAny_throw (tk _ _ ?_)
        exact ⟨a, B, sI, pins, σ', H', cls, d, rfl, J, nb, (up.trans up3).trans up4, .inr (.inr (by rw [hs]; exact hh4)), na, os, ag, hno rfl⟩
      first
        | exact wpAny_bind (wpAny_pure (wpAny_bind fin))
        | exact wpAny_bind fin
  · cases f with
    | next =>
      obtain ⟨σ', H', J', q⟩ := hsp
      exact wpAny_execs_nil ⟨σ', H', J'.ofTry ok, q⟩
    | brk =>
      obtain ⟨σ', H', J', q⟩ := hsp
      exact ⟨σ', H', J'.ofTry ok, q⟩
    | cont =>
      obtain ⟨σ', H', J', q⟩ := hsp
      exact ⟨σ', H', J'.ofTry ok, q⟩
    | ret u =>
      obtain ⟨v, σ', H', J', r, q⟩ := hsp
      exact ⟨v, σ', H', J'.ofTry ok, r, q⟩
end
/-! ### a def called where an exception is handled: p, its object, is pinned -/
theorem run_hot {CX : CXT} {P : Program} {w : World} {K : PySem.W.Frag} {mg : Str → Option Value} {base : Heap} {k : Nat} {f : Addr} {name qual : Str} {params : Arguments} {body : List Stmt} {scope : Scope} {dV kV doc pm cdv ct oc : Value} {an od : Option Addr}
    {osl : Array (Option Value)} {N ps : List Str} (lk : K.lookup f = some ⟨oc, od, .func (PySem.W.fnOf name qual params body scope dV kV doc pm an cdv ct), osl⟩) (hcd : PySem.W.codeIn K cdv qual = true) (S : FnScope N ps scope)
    {A : Around} {outer : List Env} {s : Shared} {H : Hp} {args : Args} {us : List Value} {vs : List V} {Q : VK} {E : XK} {p : Addr × Obj} (hr : RoomH (k + 1) A) (hpin : PinOk outer H s p) (e0 : Env0 P w K mg base A outer s H) (hb : BindsTo s (PySem.W.fnOf name qual params body scope dV kV doc pm an cdv ct) args (ps.zip us)) (r : Vals vs us) (hl : vs.length = ps.length)
    (hbody : RoomH k (A.deeper (envOfC qual scope s.heap.objs.size f cdv)) → ∃ t, PSs (cxH CX P w K mg base N qual scope f cdv A outer s H E p) body t ∧ t { nx := fun _ H' => Q .non H', rt := Q } (L2.start N vs) H) :
    codeAny (model P w) A (.call (.ref f) args) (CR CX outer P w H s Q E) s := by
  have KX : K.In s.heap := e0.mod.kin.keeps fun b o e => (e0.bs b o e).1
  have lim : s.heap.NoLimit := e0.mod.nolimit.keeps fun b o e => (e0.bs b o e).1
  have hkind : ∀ y ∈ ps.zip us, scope.names.lookup y.1 = some .local ∨ (scope.names.lookup y.1 = some .cell ∧ ((cellsFrom (s.heap.objs.size + 1) scope.names []).lookup y.1).isSome = true) := fun ⟨n, v⟩ hy => by
    rcases S.par n (List.of_mem_zip hy).1 with q | q
    · exact .inl q
    · exact .inr ⟨q, PySem.W.cellsFrom_some _ _ _ (.inl q)⟩
  refine codeAny_call_function hr.depth (KX _ _ lk) rfl S.co S.gen rfl (PySem.W.codeRec_of KX hcd) (hb _ _ _ _ ?_)
  refine wpAny_newFunctionEnv_cells S.kind hkind fun env he s1 x => ?_
  subst he
  refine ⟨lim.keeps x.toInCall.keep, codeAny_func ?_⟩
  obtain ⟨t, ht, hq⟩ := hbody (hr.deeper _)
  have I : Inv (cxH CX P w K mg base N qual scope f cdv A outer s H E p) [] (L2.start N vs) H s1 := inv_startH S hpin e0 hl r x
  refine wpAny_mono (ht.run [] s1 (L2.start N vs) H _ I hq) (fun fl s' hs => ?_) fun e s' hs => hs
  have fin : ∀ {σ' : L2.St} {H' : Hp} {v : V} {u : Value}, Inv (cxH CX P w K mg base N qual scope f cdv A outer s H E p) [] σ' H' s' → RelV v u → Q v H' → CE outer P w H s Q u s' :=
    fun {σ' H' v u} J rv q => ⟨v, H', J.os, J.bare, J.base, J.hok, rv, q⟩
  cases fl with
  | ret u =>
    obtain ⟨v, σ', H', J, rv, q⟩ := hs
    exact fin J rv q
  | next =>
    obtain ⟨σ', H', J, q⟩ := hs
    exact fin (v := V.non) (u := Value.none) J rfl q
  | brk =>
    obtain ⟨_, _, _, q⟩ := hs
    exact False.elim q
  | cont =>
    obtain ⟨_, _, _, q⟩ := hs
    exact False.elim q
/-! ### the fields of what was caught -/
theorem PE.weak {X : Cx} {e : Expr} {t t' : TE} (h : PE X e t) (i : ∀ σ H Q, t' σ H Q → t σ H Q) : PE X e t' := ⟨fun pins s σ H Q I q => h.run pins s σ H Q I (i _ _ _ q)⟩
theorem PT.weak {X : Cx} {e : Expr} {t t' : TT} (h : PT X e t) (i : ∀ σ H Q, t' σ H Q → t σ H Q) : PT X e t' := ⟨fun pins s σ H Q I q => h.run pins s σ H Q I (i _ _ _ q)⟩
theorem PSs.weak {X : Cx} {e : List Stmt} {t t' : TS} (h : PSs X e t) (i : ∀ D σ H, t' D σ H → t D σ H) : PSs X e t' := ⟨fun pins s σ H D I q => h.run pins s σ H D I (i _ _ _ q)⟩
/-- what is known of the exception at a in slot i: its class, its dict, its fields -/
structure XZ (X : Cx) (a C dd : Addr) (fs : List (Str × V)) (i : Nat) (n : Str) : Prop where
  pin : ∃ oe, (a, oe) ∈ X.pn ∧ Zc (.ref C) (some dd) oe ∧ ∃ vs, oe.data = .fields vs
  T : XfC X.K C
  no : ∀ p ∈ fs, PySem.W.findIn X.K (.ref C) p.1 = some none
  hN : X.N[i]? = some n
  hv : Vis X.env.scope n
  hd : (n == ("__debug__" : Str)) = false
  hcd : (n == ("__classdict__" : Str)) = false
def xB (a dd : Addr) (fs : List (Str × V)) (i : Nat) (σ : L2.St) (H : Hp) : Prop := σ[i]? = some (some (.ref a)) ∧ H dd = some (.xd fs)
theorem xB.go {a dd : Addr} {fs : List (Str × V)} {i : Nat} {σ : L2.St} {H H' : Hp} (b : xB a dd fs i σ H) (s : Same H H') : xB a dd fs i σ H' := ⟨b.1, s _ _ b.2⟩
theorem look_mem {α : Type} {f : Str} {v : α} : ∀ {fs : List (Str × α)}, fs.lookup f = some v → (f, v) ∈ fs
  | [], e => by cases e
  | (g, x) :: fs, e => by
    rw [List.lookup_cons] at e
    cases hq : (f == g) with
    | true => rw [hq] at e; cases e; rw [beq_iff_eq.mp hq]; exact List.mem_cons_self
    | false => rw [hq] at e; exact List.mem_cons_of_mem _ (look_mem e)
section
variable {X : Cx} {a C dd : Addr} {fs : List (Str × V)} {i : Nat} {n f : Str} {v : V} {p1 p2 p3 p4 p5 p6 p7 p8 : Pos} {code : Str}
theorem pe_xv (z : XZ X a C dd fs i n) (hl : fs.lookup f = some v) : PE X (.Attribute (.Name n p1) f p2) (fun σ H Q => xB a dd fs i σ H ∧ Q v H) := by
  refine ⟨fun pins s σ H Q I h => ?_⟩
  obtain ⟨⟨hs, ea⟩, q⟩ := h
  refine attr_of rfl (thn ((pe_var (pos := p1) (i := i) z.hN z.hv z.hd z.hcd).run pins s σ H (fun v H1 => v = .ref a ∧ H1 = H) I ⟨.ref a, hs, rfl, rfl⟩) fun u s1 ⟨x, H1, I1, rx, ex, eH⟩ => ?_)
  subst ex
  rw [eH] at I1
  obtain rfl : u = Value.ref a := rx
  obtain ⟨oe, hp, hz, vs, hd⟩ := z.pin
  obtain ⟨ha, _⟩ := I1.pin (a, oe) (List.mem_append_left _ hp)
  have hx : ObjOk X.prog X.w H s1.heap dd (.xd fs) := I1.hok dd _ ea
  obtain ⟨mA, hns, hr⟩ := hx
  obtain ⟨od, ho, hl'⟩ := lookIn_ns hns
  obtain ⟨u, hu, ru⟩ := RelO.some_of (v := v) (o := mA f) (by rw [← hl]; exact hr f)
  have J : PySem.W.InstAt s1.heap a oe C (some od) := ⟨ha, hz.1, by unfold PySem.W.notCls; rw [hd] <;> rfl, by rw [hz.2]; exact ho⟩
  exact HandSPX.exc_get I1.kIn J z.T.ga z.T.gg z.T.exC (PySem.W.findObj_own z.T.hdC (z.no _ (look_mem hl)) rfl (by rw [hl', hu])) (handed_of ru) ⟨v, H, I1.tok _, ru, q⟩
/-- constants -/
inductive StrL : List Expr → List Str → Prop
  | nil : StrL [] []
  | cons {x : Str} {j : Nat} {p : Pos} {es : List Expr} {xs : List Str} : StrL es xs → StrL (.Constant (.str x) j p :: es) (x :: xs)
theorem pa_strs : ∀ {es : List Expr} {xs : List Str}, StrL es xs → PA X es (fun _ H Q => Q (xs.map V.str) H)
  | _, _, .nil => ⟨fun pos pins s σ H Q I h => pa_nil.run pos pins s σ H Q I h⟩
  | _, _, .cons r => ⟨fun pos pins s σ H Q I h => (pa_cons pe_str (pa_strs r) rfl).run pos pins s σ H Q I h⟩
def xTest (a dd : Addr) (fs : List (Str × V)) (i : Nat) (b : Bool) : TT := fun σ H Q => xB a dd fs i σ H ∧ ∀ H', Same H H' → Q b H'
theorem flat_strs : ∀ xs : List Str, (xs.map V.str).all flatV = true
  | [] => rfl
  | _ :: xs => by simp [flat_strs xs, flatV]
theorem pt_xin {es : List Expr} {xs : List Str} {kk : Nat} (z : XZ X a C dd fs i n) (hc : fs.lookup ("code" : Str) = some (.str code)) (hs : StrL es xs) (hlen : xs.length ≤ 1000 := by decide) (hm : behindInMarks .In (.Tuple es kk p3) = false := by rfl) :
    PT X (.Compare (.Attribute (.Name n p1) "code" p2) [.In] [.Tuple es kk p3] p4) (xTest a dd fs i (inV (.str code) (xs.map V.str))) := by
  refine PT.weak (pt_cmpR (kop_in rfl) (pe_xv z hc) (pe_tup (pa_strs hs)) hm) fun σ H Q ⟨b, q⟩ => ⟨b, ?_, fun p hp => .inr ⟨p, xs.map V.str, rfl, .inr (SqT.of upd_same), rfl, flat_strs xs, ?_⟩⟩
  · rw [List.length_map]; exact Nat.le_trans hlen (by decide)
  · exact ⟨_, rfl, q _ (same_new hp)⟩
theorem pt_xeq {x : Str} {j : Nat} (z : XZ X a C dd fs i n) (hc : fs.lookup ("code" : Str) = some (.str code)) :
    PT X (.Compare (.Attribute (.Name n p1) "code" p2) [.Eq] [.Constant (.str x) j p3] p4) (xTest a dd fs i (decide (V.str code = V.str x))) := by
  refine PT.weak (pt_cmpR op_eq (pe_xv z hc) pe_str (nomark _)) fun σ H Q ⟨b, q⟩ => ⟨b, rfl, _, rfl, q _ (Same.refl _)⟩
def xT (a dd : Addr) (fs : List (Str × V)) (i : Nat) (v : V) : TS := fun D σ H => xB a dd fs i σ H ∧ ∀ H', Same H H' → D.rt v H'
theorem xs_if {test : Expr} {b : Bool} {rest : List Stmt} (z : XZ X a C dd fs i n) (ht : PT X test (xTest a dd fs i b)) (hy : b = true → fs.lookup f = some v) (hn : b = false → PSs X rest (xT a dd fs i v)) :
    PSs X (.If test [.Return (some (.Attribute (.Name n p5) f p6)) p7] [] p8 :: rest) (xT a dd fs i v) := by
  cases b with
  | true =>
    refine PSs.weak (pss_cons (ps_if ht (pss_one (ps_ret (pe_xv z (hy rfl)))) pss_nil) pss_never) fun D σ H ⟨b, q⟩ => ⟨b, fun H' s => ?_⟩
    dsimp only
    rw [if_pos rfl]
    exact ⟨b.go s, q H' s⟩
  | false =>
    refine PSs.weak (pss_cons (ps_if ht pss_never pss_nil) (hn rfl)) fun D σ H ⟨b, q⟩ => ⟨b, fun H' s => ?_⟩
    dsimp only
    rw [if_neg Bool.false_ne_true]
    exact ⟨b.go s, fun H'' s' => q H'' (s.trans s')⟩
theorem xs_last {test : Expr} {b : Bool} {j : Nat} (z : XZ X a C dd fs i n) (ht : PT X test (xTest a dd fs i b)) (h : (if b = true then fs.lookup f else some .non) = some v) :
    PSs X [.Return (some (.IfExp test (.Attribute (.Name n p5) f p6) (.Constant .none j p7) p8)) p4] (xT a dd fs i v) := by
  cases b with
  | true =>
    rw [if_pos rfl] at h
    refine PSs.weak (pss_one (ps_ret (pe_ifExp ht (pe_xv z h) pe_non))) fun D σ H ⟨b, q⟩ => ⟨b, fun H' s => ?_⟩
    dsimp only
    rw [if_pos rfl]
    exact ⟨b.go s, q H' s⟩
  | false =>
    rw [if_neg Bool.false_ne_true] at h
    cases h
    refine PSs.weak (pss_one (ps_ret (pe_ifExp (ta := fun _ _ _ => False) ht ⟨fun _ _ _ _ _ _ z => z.elim⟩ pe_non))) fun D σ H ⟨b, q⟩ => ⟨b, fun H' s => ?_⟩
    dsimp only
    rw [if_neg Bool.false_ne_true]
    exact q H' s
end
/-- the law's own reading of an exception's field, by its code -/
def fldG {α : Type} (code : Str) (non : α) (look : Str → Option α) : Option α :=
  if inV (.str code) ((["NotSend", "AlreadyReceived", "NoEvent"] : List Str).map V.str) = true then look "event" else
  if inV (.str code) ((["SameProcess", "NoProcess"] : List Str).map V.str) = true then look "process" else
  if inV (.str code) ((["TooManyEvents", "TooDeep", "TooManyParts", "TooManyGaps", "TooManyCuts", "CapacityReached"] : List Str).map V.str) = true then look "limit" else
  if inV (.str code) ((["CircularName", "InvalidName", "UnknownName"] : List Str).map V.str) = true then look "name" else
  if inV (.str code) ((["InvalidWord", "InvalidCommand"] : List Str).map V.str) = true then look "word" else
  if decide (V.str code = V.str "InvalidSize") = true then look "size" else
  if decide (V.str code = V.str "NameInUse") = true then look "user" else
  if decide (V.str code = V.str "InvalidDocument") = true then look "line" else some non
def FldP (b : List Stmt) : Prop := ∀ {X : Cx} {a C dd : Addr} {fs : List (Str × V)} {code : Str} {v : V}, XZ X a C dd fs 0 "_law_e" → fs.lookup ("code" : Str) = some (.str code) → fldG code .non (fun f => fs.lookup f) = some v → PSs X b (xT a dd fs 0 v)
end Sx

end
section
set_option Elab.async false
set_option linter.all false
set_option maxRecDepth 100000
set_option maxHeartbeats 4000000
/-! SXV: _law_outcome(lambda: e) as one expression over plain values -/
namespace Sx
open PySem PySem.Spec PyProof.Rows L2 Cl L2H
/-- the body of _law_outcome -/
def OutB (b : List Stmt) : Prop := ∃ (j k1 k2 k3 : Nat) (p1 p2 p3 p4 p5 q1 q2 q3 r1 r2 r3 r4 r5 r6 r7 r8 r9 : Pos), b = [.Try [.Return (some (.Tuple [.Constant (.str "") j p1, .Call (.Name "_law_call" p2) [] [] p3] k1 p4)) p5]
  [.ExceptHandler (some (.Tuple [.Name "CutloreError" q1, .Name "NotFound" q2] k2 q3)) (some "_law_e") [.Return (some (.Tuple [.Attribute (.Name "_law_e" r1) "code" r2, .Call (.Name "_law_fields" r3) [.Name "_law_e" r4] [] r5] k3 r6)) r7] r8] [] [] r9]
def eOutc (cs : List (Str × List Str)) (m : ME) : ME := fun env h q x => m env h (fun v h1 => q (.tup [.str "", v]) h1)
  (fun e h1 => ∃ code v, (e.c, e.ks) ∈ cs ∧ (e.ks.zip e.xs).lookup ("code" : Str) = some (.str code) ∧ fldG code .non (fun f => (e.ks.zip e.xs).lookup f) = some v ∧ q (.tup [.str code, v]) h1)
/-- what stands in the top for it -/
structure OutF (Y : Ky) (mg : Str → Option Value) (cs : List (Str × List Str)) (stO stF : Stmt) : Prop where
  o : Tp Y.K mg "_law_outcome" stO
  f : Tp Y.K mg "_law_fields" stF
  bO : OutB (defBody stO)
  bF : FldP (defBody stF)
  sO : FnScope ["_law_call", "_law_e"] ["_law_call"] (defScope stO)
  sF : FnScope ["_law_e"] ["_law_e"] (defScope stF)
  g1 : (defScope stO).names.lookup ("CutloreError" : Str) = some .globalImplicit
  g2 : (defScope stO).names.lookup ("NotFound" : Str) = some .globalImplicit
  g3 : (defScope stO).names.lookup ("_law_fields" : Str) = some .globalImplicit
  g4 : (defScope stO).names.lookup ("_law_e" : Str) = some .local
  g5 : (defScope stO).names.lookup ("_law_call" : Str) = some .local
  g6 : (defScope stF).names.lookup ("_law_e" : Str) = some .local
  aO : ∀ (fd : FuncData) (g : Addr), Fun Y.K "_law_outcome" "_law_outcome" stO g fd → Binds Y.K fd ["_law_call"] []
  aF : ∀ (fd : FuncData) (g : Addr), Fun Y.K "_law_fields" "_law_fields" stF g fd → Binds Y.K fd ["_law_e"] []
  c : ∃ CE NF, mg "CutloreError" = some (.ref CE) ∧ mg "NotFound" = some (.ref NF) ∧ ∀ p ∈ cs, ∀ C, Y.cm p.1 = some C → XfC Y.K C ∧ (∀ f ∈ p.2, PySem.W.findIn Y.K (.ref C) f = some none) ∧ PySem.W.exmAny Y.K (.ref C) [.ref CE, .ref NF] = some true
/-- a def that makes lambdas: its code object at c, its table at P -/
structure LamT (Y : Ky) (base : Heap) (mg : Str → Option Value) (ql : Str) (c P : Addr) : Prop where
  tb : LamX.TabB base mg c P
  mem : (P, ql ++ "<lambda>") ∈ Y.T
  uniq : ∀ p ∈ Y.T, p.1 = P → p.2 = ql ++ "<lambda>"
theorem fldG_rel {Y : Ky} {μ : Mp} {G : Hp} {code : Str} {l1 : Str → Option V} {l2 : Str → Option Val} {v : Val} (h : ∀ f y, l2 f = some y → ∃ u, l1 f = some u ∧ VR Y μ G u y) (e : fldG code .non l2 = some v) : ∃ u, fldG code .non l1 = some u ∧ VR Y μ G u v := by
  unfold fldG at e ⊢
  by_cases c1 : inV (.str code) ((["NotSend", "AlreadyReceived", "NoEvent"] : List Str).map V.str) = true
  · rw [if_pos c1] at e ⊢; exact h _ _ e
  rw [if_neg c1] at e ⊢
  by_cases c2 : inV (.str code) ((["SameProcess", "NoProcess"] : List Str).map V.str) = true
  · rw [if_pos c2] at e ⊢; exact h _ _ e
  rw [if_neg c2] at e ⊢
  by_cases c3 : inV (.str code) ((["TooManyEvents", "TooDeep", "TooManyParts", "TooManyGaps", "TooManyCuts", "CapacityReached"] : List Str).map V.str) = true
  · rw [if_pos c3] at e ⊢; exact h _ _ e
  rw [if_neg c3] at e ⊢
  by_cases c4 : inV (.str code) ((["CircularName", "InvalidName", "UnknownName"] : List Str).map V.str) = true
  · rw [if_pos c4] at e ⊢; exact h _ _ e
  rw [if_neg c4] at e ⊢
  by_cases c5 : inV (.str code) ((["InvalidWord", "InvalidCommand"] : List Str).map V.str) = true
  · rw [if_pos c5] at e ⊢; exact h _ _ e
  rw [if_neg c5] at e ⊢
  by_cases c6 : decide (V.str code = V.str "InvalidSize") = true
  · rw [if_pos c6] at e ⊢; exact h _ _ e
  rw [if_neg c6] at e ⊢
  by_cases c7 : decide (V.str code = V.str "NameInUse") = true
  · rw [if_pos c7] at e ⊢; exact h _ _ e
  rw [if_neg c7] at e ⊢
  by_cases c8 : decide (V.str code = V.str "InvalidDocument") = true
  · rw [if_pos c8] at e ⊢; exact h _ _ e
  rw [if_neg c8] at e ⊢
  cases e
  exact ⟨_, rfl, .non⟩
section
variable {X : Cx} {a C dd : Addr} {fs : List (Str × V)} {i k : Nat} {n : Str} {v : V} {p1 p2 p3 : Pos} {code : Str} {stF : Stmt}
/-- _law_fields(e) in the suite -/
theorem pe_fields (z : XZ X a C dd fs i n) (hr : RoomH (k + 1) X.A) (hf : Tp X.K X.mg "_law_fields" stF) (bF : FldP (defBody stF)) (sF : FnScope ["_law_e"] ["_law_e"] (defScope stF)) (g6 : (defScope stF).names.lookup ("_law_e" : Str) = some .local)
    (aF : ∀ (fd : FuncData) (g : Addr), Fun X.K "_law_fields" "_law_fields" stF g fd → Binds X.K fd ["_law_e"] []) (hg : Gl X "_law_fields") (hc : fs.lookup ("code" : Str) = some (.str code)) (hv : fldG code .non (fun f => fs.lookup f) = some v) :
    PE X (.Call (.Name "_law_fields" p1) [.Name n p2] [] p3) (xT a dd fs i v |> fun t σ H Q => t { nx := fun _ _ => False, rt := Q } σ H) := by
  obtain ⟨g, fd, F, hm⟩ := hf
  have hb := aF fd g F
  obtain ⟨oc, od, kV, doc, pm, an, cdv, ct, osl, efd, lk, hcd⟩ := F.ex
  refine ⟨fun pins s σ H Q I h => ?_⟩
  obtain ⟨b, q⟩ := h
  refine wpAny_Call_Name_kw (ld_glob I hg hm ?_ (by decide))
  refine PySem.W.callWith_K (h₀ := X.base) I.ok.mod.kin F.kp (thn ((pa_cons (pe_var (pos := p2) (i := i) z.hN z.hv z.hd z.hcd) pa_nil rfl).run p3 pins s σ H (fun vs H1 => vs = [.ref a] ∧ H1 = H) I ⟨_, b.1, rfl, rfl⟩) fun us s1 ⟨vs, H1, I1, r, ev, eH⟩ => ⟨I1.kIn, ?_⟩) (by rfl) (by rfl)
  subst ev
  rw [eH] at I1
  obtain ⟨oe, hp, hz, hd⟩ := z.pin
  have P1 := I1.pin (a, oe) (List.mem_append_left _ hp)
  have hpin : PinOk X.stack H s1 (a, oe) := ⟨P1.1, P1.2.1, fun hm => (List.mem_cons.mp (I1.stkSub a hm)).elim P1.2.2.1 P1.2.2.2.1, P1.2.2.2.2⟩
  have hl : us.length = 1 := by rw [← r.length]; rfl
  have b1 := hb s1 us I1.kIn (by rw [List.append_nil]; exact hl)
  rw [List.append_nil] at b1
  rw [efd] at b1 lk
  have rc : codeAny (model X.prog X.w) X.A (.call (.ref g) ⟨us, []⟩) (CR C8.CX0 X.stack X.prog X.w H s1 Q C8.E0) s1 := by
    refine run_hot (CX := C8.CX0) (N := ["_law_e"]) (ps := ["_law_e"]) (vs := [.ref a]) lk hcd sF hr hpin I1.env0 b1 r rfl fun hr' => ?_
    refine ⟨_, bF (X := cxH C8.CX0 X.prog X.w X.K X.mg X.base ["_law_e"] "_law_fields" (defScope stF) g cdv X.A X.stack s1 H C8.E0 (a, oe)) (a := a) (C := C) (dd := dd) ⟨⟨oe, List.mem_singleton.mpr rfl, hz, hd⟩, z.T, z.no, rfl, .inl g6, by decide, by decide⟩ hc hv, ⟨rfl, b.2⟩, fun H' s' => q H' s'⟩
  refine wpAny_call (codeAny_mono rc fun r s2 hq => ?_)
  cases r with
  | error e => exact (show False from hq).elim
  | ok fl =>
    cases fl with
    | ret u => exact I1.after hq
    | next => exact False.elim hq
    | brk => exact False.elim hq
    | cont => exact False.elim hq
end
section
variable {X : Cx} {Y : Ky} {W : WX} {cs : List (Str × List Str)} {stO stF : Stmt} {c P : Addr} {k : Nat} {params : Arguments} {body : Expr} {scope : Scope} {lpos p pos : Pos} {m : ME}
theorem de_outc (hK : X.K = Y.K) (O : OutF Y X.mg cs stO stF) (LT : LamT Y X.base X.mg X.env.qual c P) (hcode : X.env.code = .ref c)
    (hr : Room (k + 3) X.A) (L : LamS2 X.N X.env.scope scope) (hlb : LamB params body scope) (hg : Gl X "_law_outcome")
    (hbody : ∀ (A : Around) (outer : List Env) (s : Shared) (H : Hp) (E : XK) (f c' : Addr), Room k (A.deeper (LamX.lamEnv X scope s.heap.objs.size f c')) → Takes (LamX.lamCx X A outer s H E scope f c') (WO E) → PassesOwn (model X.prog X.w) (LamX.lamCx X A outer s H E scope f c').A (LamX.lamCx X A outer s H E scope f c').env (LamX.lamCx X A outer s H E scope f c').xe →
      DE (LamX.lamCx X A outer s H E scope f c') Y (WO E) body m) :
    DE X Y W (.Call (.Name "_law_outcome" p) [.Lambda params body scope lpos] [] pos) (eOutc cs m) := by
  refine ⟨_, ⟨fun pins s σ H Q I ⟨μ, env, h, q, x, z, hm, kq, kx⟩ => ?_⟩, se_of⟩
  obtain ⟨TB, hmT, hu⟩ := LT
  obtain ⟨g, fd, F, hmO⟩ := O.o
  have hb := O.aO fd g F
  obtain ⟨CE, NF, m1, m2, hcs⟩ := O.c
  obtain ⟨oc, od, kV, doc, pm, an, cdv, ct, osl, efd, lk, hcd⟩ := F.ex
  obtain ⟨j, k1, k2, k3, p1, p2, p3, p4, p5, q1, q2, q3, r1, r2, r3, r4, r5, r6, r7, r8, r9, eb⟩ := O.bO
  have kpF := F.kp
  have of_ := O.f
  have aF := O.aF
  rw [← hK] at lk hcd kpF of_ aF hb hcs
  refine wpAny_Call_Name_kw (ld_glob I hg hmO ?_ (by decide))
  refine PySem.W.callWith_K (h₀ := X.base) I.ok.mod.kin kpF ?_ (by rfl) (by rfl)
  show wpAny _ _ (spliced ((false, eval (.Lambda params body scope lpos) X.env) :: backTo pos (starEach [] X.env))) _ _ s
  obtain ⟨ps, hP, ht, ha⟩ := z.r.tb _ hmT
  refine Calls.spliced_cons (lam_made2 I TB hcode hP ht (fun pos cv hc => let ⟨c, e1, e2⟩ := ha pos cv hc; ⟨c, e1, hid_le _ _ e2⟩) hlb (L.has I.ok) fun f c' H1 s' I1 hMade hLam hco => ?_)
  obtain ⟨e1, rl1⟩ := made_rel z.r hmT hu hP hMade
  refine Calls.spliced_nil ⟨I1.kIn, ?_⟩
  rw [efd] at hb lk
  have rc : codeAny (model X.prog X.w) X.A (.call (.ref g) ⟨[.ref f], []⟩) (CR C8.CX0 X.stack X.prog X.w H1 s' Q C8.E0) s' := by
    refine LamX.run_ofS (k := k + 2) (N := ["_law_call", "_law_e"]) (ps := ["_law_call"]) (us := [.ref f]) (vs := [.ref f]) lk hcd O.sO hr I1.env0 (hb s' [.ref f] I1.kIn rfl) (.cons rfl .nil) rfl fun hr' => ?_
    rw [eb]
    have hgl : ∀ {y : Str}, (defScope stO).names.lookup y = some .globalImplicit → Gl (cxOf C8.CX0 X.prog X.w X.K X.mg X.base ["_law_call", "_law_e"] "_law_outcome" (defScope stO) g cdv X.A X.stack s' H1 C8.E0).nox y := fun h => h
    refine ⟨_, (pss_one (ps_try_as2 (X := (cxOf C8.CX0 X.prog X.w X.K X.mg X.base ["_law_call", "_law_e"] "_law_outcome" (defScope stO) g cdv X.A X.stack s' H1 C8.E0).nox) (c1 := .ref CE) (c2 := .ref NF) (i := 1)
      (tb := fun W D σ' H' => ∃ Ech : XK, σ'[0]? = some (some (.ref f)) ∧ H' c' = some (LamX.CodeO c' (X.env.qual ++ "<lambda>")) ∧ (∀ cls d H'', Ech cls d H'' → W cls d σ' H'') ∧ teOf Y (WO Ech) m σ H' fun v H2 => 2 ≤ sizeLine ∧ ∀ p', H2 p' = none → D.rt (.ref p') (upd H2 p' (.tup [.str "", v])))
      (ts := fun a cls d D σ' H' => ∃ (C dd : Addr) (fs : List (Str × V)) (code : Str) (v : V), cls = .ref C ∧ d = some dd ∧ XfC X.K C ∧ (∀ p ∈ fs, PySem.W.findIn X.K (.ref C) p.1 = some none) ∧ fs.lookup ("code" : Str) = some (.str code) ∧ fldG code .non (fun f => fs.lookup f) = some v ∧ xB a dd fs 1 σ' H' ∧
        ∀ H'', Same H' H'' → 2 ≤ sizeLine ∧ ∀ p', H'' p' = none → D.rt (.ref p') (upd H'' p' (.tup [.str code, v])))
      rfl rfl O.sO.nd rfl O.g4 ⟨hgl O.g1, by decide, .inl m1⟩ ⟨hgl O.g2, by decide, .inl m2⟩ LamX.takes0 (fun W pn xe tk _ => ?_) (fun a oe cls d pn hz hd => ?_))).nox, ?_⟩
    · refine ⟨fun pins2 s2 σ2 H2 D I2 h2 => ?_⟩
      obtain ⟨Ech, h1, h2, h3, h4⟩ := h2
      have act := pe_act2 (CXg := C8.CX0) (Eg := C8.E0) (i := 0) (a := "_law_call") (W := W) (E := Ech) (p1 := p2) (p2 := p3) (tb := teOf Y (WO Ech) m) I1 L hLam tk (hr'.mono (by omega)) (fun A outer s H hr2 => (hbody A outer s H Ech f c' hr2 (takes_of rfl rfl rfl rfl) (passes_of rfl)).pe) (by rfl) (.inl O.g5)
      exact (pss_one (ps_ret (pos := p5) (pe_tup (pos := p4) (x1 := k1) (pa_cons (pe_str (j := j) (pos := p1)) (pa_cons act pa_nil rfl) rfl)))).run pins2 s2 σ2 H2 D I2 ⟨h1, h2, h3, h4⟩
    · refine ⟨fun pins2 s2 σ2 H2 D I2 h2 => ?_⟩
      obtain ⟨C, dd, fs, code, v, rfl, rfl, T, hno, hc, hv, hB, hk⟩ := h2
      have zz : XZ ((cxOf C8.CX0 X.prog X.w X.K X.mg X.base ["_law_call", "_law_e"] "_law_outcome" (defScope stO) g cdv X.A X.stack s' H1 C8.E0).nox.suite a ((a, oe) :: pn)) a C dd fs 1 "_law_e" := ⟨⟨oe, List.mem_cons_self, hz, hd⟩, T, hno, rfl, .inl O.g4, by decide, by decide⟩
      have rh : RoomH (k + 1 + 1) ((cxOf C8.CX0 X.prog X.w X.K X.mg X.base ["_law_call", "_law_e"] "_law_outcome" (defScope stO) g cdv X.A X.stack s' H1 C8.E0).nox.suite a ((a, oe) :: pn)).A := ⟨hr'.dp, hr'.un⟩
      refine (pss_one (ps_ret (pos := r7) (pe_tup (pos := r6) (x1 := k3) (pa_cons (pe_xv (p1 := r1) (p2 := r2) zz hc) (pa_cons (pe_fields (p1 := r3) (p2 := r4) (p3 := r5) zz rh of_ O.bF O.sF O.g6 aF O.g3 hc hv) pa_nil rfl) rfl)))).run pins2 s2 σ2 H2 D I2 ⟨hB, hB, fun H' sm => hk H' sm⟩
    · refine ⟨fun cls d H'' => ∃ (e : Exn) (h' : Mh) (μ' : Mp), (∃ code v, (e.c, e.ks) ∈ cs ∧ (e.ks.zip e.xs).lookup ("code" : Str) = some (.str code) ∧ fldG code .non (fun f => (e.ks.zip e.xs).lookup f) = some v ∧ q (.tup [.str code, v]) h') ∧ Ext μ μ' H1 H'' ∧ Rel Y μ' h' H'' ∧ XR Y μ' (vis μ' H'') e cls d, rfl, hco, ?_, ?_⟩
      · rintro cls d H'' ⟨e, h', μ', ⟨code, v, hmem, hc, hf, hq⟩, ex, rl, C, dx, fs, cm, rfl, rfl, hdx, eks, hvs⟩
        obtain ⟨T, hno, hexm⟩ := hcs _ hmem C cm
        have hlen : e.ks.length = e.xs.length := by rw [eks, List.length_map, ← hvs.length, List.length_map]
        obtain ⟨z1, z2⟩ := zip_fst hlen
        have lk1 : ∀ f y, (e.ks.zip e.xs).lookup f = some y → ∃ u, fs.lookup f = some u ∧ VR Y μ' (vis μ' H'') u y := fun f y he => look_rel (by rw [z1, eks]) (by rw [z2]; exact hvs) he
        obtain ⟨uc, l1, vc⟩ := lk1 _ _ hc
        cases vc
        obtain ⟨U, l2, vU⟩ := fldG_rel lk1 hf
        refine ⟨true, hexm, fun _ a na => ⟨C, dx, fs, code, U, rfl, rfl, T, fun p hp => hno _ (by rw [eks]; exact List.mem_map_of_mem hp), l1, l2, ⟨rfl, hid_le _ _ hdx⟩, fun H3 sm => ⟨by decide, fun p' hp' => ?_⟩⟩, fun hb => by cases hb⟩
        have ex3 := ex.trans (.same sm)
        exact (((kq _ _ hq).after e1).after ex3).new (rl.same sm) hp' fun e s => .tup (SqT.of e) (.cons (.str _) (.cons ((vU.mono (Ext.same sm).le).sm s) .nil))
      · refine ⟨μ, env, h, fun v h1 => q (.tup [.str "", v]) h1, _, z.go e1 rl1, hm, fun v h' k μ' U H2 e2 r2 v2 => ⟨by decide, fun p' hp' => ?_⟩, fun e h' k μ' cls d H2 e2 r2 xr => ⟨e, h', μ', k, e2, r2, xr⟩⟩
        exact (((kq _ _ k).after e1).after e2).new r2 hp' fun e s => .tup (SqT.of e) (.cons (.str _) (.cons (v2.sm s) .nil))
  refine wpAny_call (codeAny_mono rc fun r s2 hq => ?_)
  cases r with
  | error e => exact (show False from hq).elim
  | ok fl =>
    cases fl with
    | ret u => exact I1.after hq
    | next => exact False.elim hq
    | brk => exact False.elim hq
    | cont => exact False.elim hq
end
end Sx

end
section
set_option Elab.async false
set_option linter.all false
set_option maxRecDepth 100000
set_option maxHeartbeats 4000000
/-! RC1: [e for x in l if ..] whose e may raise: the exception out of the block -/
namespace Sx
open PySem PySem.Spec PyProof.Rows L2 Cl
section
variable {M : Model} {A : Around} {E : Value → Shared → Prop} {s : Shared} {env ce : Env} {a L C : Addr} {B : Heap} {l outer : List Env} {Z : Obj → Prop}
theorem noteFrame_same (h : ce.frame = env.frame) (x : Value) : noteFrame x ce = noteFrame x env := by
  unfold noteFrame PySem.frameOf
  rw [h]
theorem passOn_same {α : Type} (h : ce.frame = env.frame) (t : String) (x : Value) : (PySem.passOn t x ce : Sem α) = PySem.passOn t x env := by
  unfold PySem.passOn
  rw [h]
/-- held by another frame: noted anew -/
theorem held_other {Q : Unit → Shared → Prop} (hZ : HandSPX.Steady Z) (hfr : A.frames = some (env :: outer)) (hf : env.frame = some L) (ne : C ≠ L) (hd : HandSPX.HeldZ B (env :: outer) a Z C s.heap)
    (hQ : ∀ h', HandSPX.HeldZ B (env :: outer) a Z L h' → s.heap.UpToSlots h' → Q () { s with heap := h' }) : wpAny M A (noteFrame (.ref a) env) Q E s := by
  obtain ⟨kB, nB, fl, oe, vs, T, oT, ts, ea, hz, de, v1, nT, Ta, eT, dT, t3⟩ := hd
  unfold noteFrame
  simp only [hf]
  refine wpAny_bind (wpAny_field ea de v1 ?_)
  rw [if_pos (by simp)]
  refine wpAny_bind (wpAny_field eT dT t3 ?_)
  rw [if_neg fun e => ne (by have h := beq_iff_eq.mp e; unfold rawInt at h; injection h with h _; exact Int.ofNat.inj h)]
  have l3 : 3 < ts.size := (Array.getElem?_eq_some_iff.mp t3).1
  have v2 : 1 < vs.size := (Array.getElem?_eq_some_iff.mp v1).1
  refine wpAny_bind (wpAny_setField eT dT l3 ?_)
  generalize hg : s.heap.update T (Obj.mapFields fun f => f.setIfInBounds 3 Value.none) = g
  have gO : ∀ b, b ≠ T → g.get? b = s.heap.get? b := fun b hb => by rw [← hg]; exact Heap.get?_update_other _ _ (Ne.symm hb)
  have nf : ∀ b o, s.heap.get? b = some o → (∀ vs, o.data ≠ .fields vs) → b ≠ T := fun b o hb n e => by
    subst e
    rw [eT] at hb
    cases hb
    exact n ts dT
  have key := HandSPX.wpAny_entryZ (M := M) (A := A) (E := E) (s := { s with heap := g }) (hadNext := (Value.ref T != Value.none)) (head := .ref T) (Q := Q) hZ hfr (fl.of_keeps fun b o hb n => ⟨o, (gO b (nf b o hb n)).trans hb, rfl⟩) hf ((gO a (Ne.symm Ta)).trans ea)
    (fun b o hb => (gO b fun e => by rw [e, nT] at hb; cases hb).trans (kB b o hb)) nB de v2 hz fun h' hN => hQ h' ⟨hN.1, nB, hN.2.1, hN.2.2.1⟩ fun b o hb n => hN.2.2.2 b o ((gO b (nf b o hb n)).trans hb) n
  exact key
theorem ff_but {h h' : Heap} : ∀ {l : List Env}, h.FunFrames B l → (∀ b ∈ frs l, b ≠ C) → (∀ b, b ≠ C → h'.get? b = h.get? b) → h'.FunFrames B l
  | [], _, _, _ => trivial
  | env :: l, ⟨k, ⟨L, o, f, n, e, d⟩, r⟩, ne, sb => ⟨k, ⟨L, o, f, n, (sb L (ne L (List.mem_filterMap.mpr ⟨env, List.mem_cons_self, f⟩))).trans e, d⟩, ff_but r (fun b hb => ne b (by
      obtain ⟨v, hv, q⟩ := List.mem_filterMap.mp hb
      exact List.mem_filterMap.mpr ⟨v, List.mem_cons_of_mem _ hv, q⟩)) sb⟩
theorem ff_base {h B' : Heap} : ∀ {l : List Env}, h.FunFrames B l → (∀ b, B.get? b = none → B'.get? b = none) → h.FunFrames B' l
  | [], _, _ => trivial
  | env :: l, ⟨k, ⟨L, o, f, n, e, d⟩, r⟩, nb => ⟨k, ⟨L, o, f, nb L n, e, d⟩, ff_base r nb⟩
end
end Sx

end
section
set_option Elab.async false
set_option linter.all false
set_option maxRecDepth 100000
set_option maxHeartbeats 4000000
/-! RC2: out of the block, into the def -/
namespace Sx
open PySem PySem.Spec PyProof.Rows L2 Cl
section
variable {X : Cx} {W : WX} {pins : List (Addr × Obj)} {σ : L2.St} {H3 : Hp} {s3 s' : Shared} {scope : Scope} {ce : Env} {fp : List Addr}
theorem xe_block (hs : X.stack = X.env :: X.outer) (hf : X.env.frame = some X.env.locals) (hcf : ce.frame = X.env.frame) (hcL : ce.locals = s3.heap.objs.size) (tk : Takes X W) (I3 : Inv X pins σ H3 s3) (hfp : ∀ b ∈ fp, FpOk X pins H3 b ∧ b < s3.heap.objs.size) {xe : Value → Shared → Prop} {u : Value}
    (x : XE ((X.blk s3 H3 scope ce fp).tr [] xe) (fun cls d _ H' => W cls d σ H') u s') : notedBy (model X.prog X.w) X.A ce (fun e s2 => CompFails (model X.prog X.w) X.A X.xe ce e s2) u s' := by
  obtain ⟨a, B, sI, pB, σB, HB, cls, d, rfl, IB, nb, up, sky, na, os, ag, w⟩ := x
  have hfr : X.A.frames = some (X.env :: X.outer) := by rw [I3.ok.frames, hs]
  have C0 : s3.heap.get? ce.locals = none := by
    cases q : s3.heap.get? ce.locals with
    | none => rfl
    | some o => have := Heap.lt_size q; rw [hcL] at this; exact absurd this (Nat.lt_irrefl _)
  have hC : HB ce.locals = none := IB.free
  have CL : ce.locals ≠ X.env.locals := by rw [hcL]; exact Nat.ne_of_gt I3.lt
  have frC : ∀ b ∈ frs X.stack, b ≠ ce.locals := fun b hb e => by
    rcases List.mem_cons.mp (I3.stkSub b hb) with z | z
    · exact CL (e.symm.trans z)
    · exact I3.nofs (by rw [e, hcL]; exact Nat.le_refl _) z
  obtain ⟨m, ⟨oC, es, ep, eC, dC, kC, fC⟩, _⟩ := IB.loc
  have eC : sI.heap.get? ce.locals = some oC := eC
  have BC : B.get? ce.locals = some oC := nb _ _ eC fun h => frC _ h rfl
  obtain ⟨B', b1, b2⟩ := restrict B fun b => decide (b ≠ ce.locals)
  have B1 : ∀ b, b ≠ ce.locals → B'.get? b = B.get? b := fun b h => b1 b (decide_eq_true h)
  have B2 : B'.get? ce.locals = none := b2 _ (by simp)
  obtain ⟨G, g1, g2⟩ := restrict sI.heap fun b => decide (b ≠ ce.locals)
  have G1 : ∀ b, b ≠ ce.locals → G.get? b = sI.heap.get? b := fun b h => g1 b (decide_eq_true h)
  have G2 : G.get? ce.locals = none := g2 _ (by simp)
  have ne0 : ∀ b o, s3.heap.get? b = some o → b ≠ ce.locals := fun b o e z => by rw [z, C0] at e; cases e
  have base := IB.base
  have hok : HOk X.prog X.w HB G := fun b o e => (IB.hok b o e).stay (fun c v hc q => by
    have : c ≠ ce.locals := fun z => by
      rcases hc with rfl | hc
      · rw [z, hC] at e; cases e
      · rw [z, hC] at hc; cases hc
    exact (G1 c this).trans q) (fun _ q => q) fun _ _ q => q
  have J : Inv X pins σ HB { sI with heap := G } := by
    refine I3.call' (ch := fp) IB.os ⟨fun b o e n h1 h2 => (G1 b (ne0 b o e)).trans (base.keep b o e n h1 h2), fun b o e n h1 h2 => ?_, base.free, fun b o e h2 => ?_, base.tups, base.frzs, base.tbls⟩ hok IB.bare fun b hb => ⟨(hfp b hb).1.2.2.2.1, (hfp b hb).1.2.1, (hfp b hb).1.2.2.2.2.1, (hfp b hb).1.2.2.2.2.2⟩
    · obtain ⟨sl, q⟩ := base.slot b o e n h1 h2
      exact ⟨sl, (G1 b (ne0 b o e)).trans q⟩
    · obtain ⟨o', q⟩ := base.there b o e h2
      exact ⟨o', (G1 b (ne0 b o e)).trans q⟩
  have fin : ∀ h1, HandSPX.HeldZ B (X.env :: X.outer) a (Zc cls d) X.env.locals h1 → s'.heap.UpToSlots h1 → CompFails (model X.prog X.w) X.A X.xe ce (.ref a) { s' with heap := h1 } := fun h1 hd up1 => by
    have e1 : h1.get? ce.locals = some oC := hd.1 _ _ BC
    refine ⟨m, ⟨oC, es, ep, e1, dC, kC, fC⟩, fun h' m' _ sb => ?_⟩
    rw [passOn_same hcf]
    obtain ⟨kB, nB, fl, oe, vs, T, oT, ts, ea, hz, de, v1, nT, Ta, eT, dT, t3⟩ := hd
    have nfC : ∀ b o vs, h1.get? b = some o → o.data = .fields vs → b ≠ ce.locals := fun b o vs e dd z => by
      rw [z, e1] at e
      cases e
      rw [dC] at dd; cases dd
    have aC := nfC a oe vs ea de
    have TC := nfC T oT ts eT dT
    have held : HandSPX.HeldZ B' (X.env :: X.outer) a (Zc cls d) X.env.locals h' := by
      refine ⟨fun b o e => ?_, (B1 a aC).trans nB, ff_base (ff_but fl (fun b hb => frC b (by rw [hs]; exact hb)) fun b hb => sb.2 b hb) (fun b e => ?_), oe, vs, T, oT, ts, (sb.2 a aC).trans ea, hz, de, v1, (B1 T TC).trans nT, Ta, (sb.2 T TC).trans eT, dT, t3⟩
      · have hb : b ≠ ce.locals := fun z => by rw [z, B2] at e; cases e
        exact (sb.2 b hb).trans (kB b o ((B1 b hb).symm.trans e))
      · by_cases hb : b = ce.locals
        · rw [hb]; exact B2
        · rw [B1 b hb]; exact e
    unfold PySem.passOn
    refine wpAny_bind (wpAny_field (s := { s' with heap := h' }) ((sb.2 a aC).trans ea) de v1 ?_)
    rw [if_neg (by simp)]
    rw [hf]
    refine wpAny_bind (HandSPX.setFlight_onZ (s := { s' with heap := h' }) held fun h2 hd2 up2 => wpAny_throw (tk _ _ ⟨a, B', { sI with heap := G }, pins, σ, HB, cls, d, rfl, J, fun b o e hb => ?_, fun b o e nf => ?_, .inr (.inr (by rw [hs]; exact hd2)), na, os, ag, w⟩))
    · have e : G.get? b = some o := e
      have hb2 : b ≠ ce.locals := fun z => by rw [z, G2] at e; cases e
      rw [B1 b hb2]
      exact nb b o ((G1 b hb2).symm.trans e) hb
    · have e : G.get? b = some o := e
      have hb2 : b ≠ ce.locals := fun z => by rw [z, G2] at e; cases e
      obtain ⟨sl1, q1⟩ := up b o ((G1 b hb2).symm.trans e) nf
      obtain ⟨sl2, q2⟩ := up1 b _ q1 nf
      obtain ⟨sl3, q3⟩ := up2 b _ ((sb.2 b hb2).trans q2) nf
      exact ⟨sl3, q3⟩
  have sky : Sky B X.stack a (Zc cls d) ce.locals s'.heap := sky
  rw [hs] at sky
  show wpAny _ _ (noteFrame (.ref a) ce) _ _ _
  rw [noteFrame_same hcf]
  rcases sky with ⟨hB, hn, hl, oe, vs, he, hz, hd, h1⟩ | fl | hd
  · exact HandSPX.look_newZ Zc.steady hfr hl hf he hB hn hd h1 hz fin
  · exact HandSPX.looks_onZ Zc.steady hfr hf fl fin
  · exact held_other Zc.steady hfr hf CL hd fin
end
end Sx

end
section
set_option Elab.async false
set_option linter.all false
set_option maxRecDepth 100000
set_option maxHeartbeats 4000000
/-! RC3: [e for x in l if ..], e may raise -/
namespace Sx
open PySem PySem.Spec PyProof.Rows L2 Cl
section
variable {X : Cx} {W : WX} {tg iter elt : Expr} {ifs : List Expr} {wi : TI} {g : TG} {tt : TT} {te : WX → TE}
theorem inv_tr {pins : List (Addr × Obj)} {σ : L2.St} {H : Hp} {s : Shared} {xe : Value → Shared → Prop} (I : Inv X pins σ H s) : Inv (X.tr X.pn xe) pins σ H s := ⟨I.ok.toTry _ _, I.os, I.bare, I.base, I.loc, I.cell, I.free, I.freeC, I.pin, I.hok, I.len⟩
theorem inv_un {pins : List (Addr × Obj)} {σ : L2.St} {H : Hp} {s : Shared} {xe : Value → Shared → Prop} (ok : X.Ok) (I : Inv (X.tr X.pn xe) pins σ H s) : Inv X pins σ H s := ⟨ok, I.os, I.bare, I.base, I.loc, I.cell, I.free, I.freeC, I.pin, I.hok, I.len⟩
/-- what is due where the block may raise -/
def tLcE (W : WX) (wi : TI) (g : TG) (tt : TT) (te : WX → TE) (vs : List Nat) : TE := fun σ H Q => tLc wi g tt (te fun cls d _ H' => W cls d σ H') vs σ H Q
theorem pe_lcE {scope : Scope} {own : List (Str × Nat)} {pos : Pos} (hs : X.stack = X.env :: X.outer) (hf : X.env.frame = some X.env.locals) (tk : Takes X W) (calm : X.calm = true) (nodup : X.N.Nodup) (hi : PI X tg iter wi) (ok : BlkOk X.N X.env.scope scope own)
    (hg : ∀ (z : Shared) (G : Hp) (C : Addr) (cl : List (Str × Addr)) (fp : List Addr), PG (X.blk z G scope (compEnvC scope cl C X.env) fp) tg g) (ht : ∀ (z : Shared) (G : Hp) (C : Addr) (cl : List (Str × Addr)) (fp : List Addr), PTs (X.blk z G scope (compEnvC scope cl C X.env) fp) ifs tt)
    (he : ∀ (z : Shared) (G : Hp) (C : Addr) (cl : List (Str × Addr)) (fp : List Addr) (xe : Value → Shared → Prop) (W' : WX), Takes ((X.blk z G scope (compEnvC scope cl C X.env) fp).tr [] xe) W' → PE ((X.blk z G scope (compEnvC scope cl C X.env) fp).tr [] xe) elt (te W')) (plain : ∀ x, foldedSetIterable iter X.env x = pure x := by intro _; rfl) :
    PE X (.ListComp elt [⟨tg, iter, ifs, 0⟩] scope pos) (tLcE W wi g tt te (own.map (·.2))) := ⟨fun pins s σ H Q I h => by
  have caught : ∀ y ∈ scope.names, y.2 = .free → ∃ c, X.env.cells.lookup y.1 = some c := fun y hy e => (ok.free y hy e).elim (fun k => I.ok.has _ (.inl k)) fun k => I.ok.has _ (.inr k)
  rw [eval_ListComp]
  refine comprehension_at (use := none) (g := ⟨tg, iter, ifs, 0⟩) (gs := []) rfl plain (closure_ok caught) ok.kind (fun y hy e => by rw [ok.uniq y hy, e]) (thn (hi.run pins s σ H _ I h) fun xv s1 hx => thn hx fun itv s2 h2 => ?_)
  obtain ⟨it, fp, tn, J, H2, e, I2, T, at2, ok2, q⟩ := h2
  subst e
  refine wpAny_newObj_type (newEnv_comp ?_) (by show 0 ≤ sizeLine; decide)
  generalize hD : s2.heap.objs.size = D
  obtain ⟨Wn, ⟨m0, w0⟩, turn⟩ := q D (I2.hok.fresh (Nat.le_of_eq hD))
  generalize hz : ({ s2 with heap := s2.heap.push { cls := .type "list", data := .seq ([] : List Value).toArray } } : Shared) = z
  have zh : z.heap = s2.heap.push { cls := .type "list", data := .seq ([] : List Value).toArray } := by rw [← hz]
  have I3 : Inv X pins σ (upd H2 D (.lst [])) z := by
    rw [← hz]
    refine I2.laid (t' := s2.toks) (fun b o e => Heap.get?_push_of_some _ e) (Nat.le_of_eq hD) ⟨Nat.zero_le _, [], 0, .nil, ?_⟩
    rw [← hD]; exact Heap.get?_push_size _ rfl
  have old : ∀ b ∈ fp, b < s2.heap.objs.size := fun b hb => let ⟨o, e, _⟩ := T.obj _ _ at2 b hb; Heap.lt_size e
  have ok3 : ∀ b ∈ fp, FpOk X pins (upd H2 D (.lst [])) b ∧ b < z.heap.objs.size := fun b hb => by
    refine ⟨⟨?_, (ok2 b hb).2⟩, by rw [zh, Heap.size_push]; exact Nat.lt_succ_of_lt (old b hb)⟩
    rw [upd_ne (by rw [← hD]; exact Nat.ne_of_lt (old b hb))]; exact (ok2 b hb).1
  have at3 : tn 0 z.heap := T.keep _ _ _ at2 fun b _ o e => by rw [zh]; exact Heap.get?_push_of_some _ e
  have I4 := block_start I3 ok nodup ok3
  generalize hG : upd H2 D (.lst []) = G at I3 I4 w0 ok3
  have pg := hg z G z.heap.objs.size (cellsFrom (z.heap.objs.size + 1) scope.names (cloFrom X.env.cells scope.names [])) fp
  have pt := ht z G z.heap.objs.size (cellsFrom (z.heap.objs.size + 1) scope.names (cloFrom X.env.cells scope.names [])) fp
  have pe := he z G z.heap.objs.size (cellsFrom (z.heap.objs.size + 1) scope.names (cloFrom X.env.cells scope.names [])) fp
  show codeAny _ _ (.compStart (.ListComp elt [⟨tg, iter, ifs, 0⟩] scope pos) 0 (.ref it) (.ref D) (compEnvC scope (cellsFrom (z.heap.objs.size + 1) scope.names (cloFrom X.env.cells scope.names [])) z.heap.objs.size X.env)) (compEnds (model X.prog X.w) X.A X.xe none (EP X pins σ Q) (.ref D) (compEnvC scope (cellsFrom (z.heap.objs.size + 1) scope.names (cloFrom X.env.cells scope.names [])) z.heap.objs.size X.env)) { z with heap := pushCells (z.heap.push { cls := .type "dict", data := .dict #[] }) scope.names }
  have none0 : ∀ b ∈ fp, G b = none := fun b hb => (ok3 b hb).1.1
  generalize hce : compEnvC scope (cellsFrom (z.heap.objs.size + 1) scope.names (cloFrom X.env.cells scope.names [])) z.heap.objs.size X.env = ce at I4 pg pt pe ⊢
  have cL : ce.locals = z.heap.objs.size := by subst hce; rfl
  have cF : ce.frame = X.env.frame := by subst hce; rfl
  generalize hz4 : ({ z with heap := pushCells (z.heap.push { cls := .type "dict", data := .dict #[] }) scope.names } : Shared) = z4 at I4 ⊢
  have at4 : tn 0 z4.heap := T.keep _ _ _ at3 fun b _ o e => by rw [← hz4]; exact pushCells_keeps _ _ _ _ (Heap.get?_push_of_some _ e)
  have pe := pe (notedBy (model X.prog X.w) X.A ce fun e s2 => CompFails (model X.prog X.w) X.A X.xe ce e s2) (fun cls d _ H' => W cls d σ H') fun u s' x => xe_block hs hf cF cL tk I3 ok3 x
  have own_ok : ∀ {τ : L2.St} {G' : Hp} {y : Shared}, Inv (X.blk z G scope ce fp) [] τ G' y → (∀ b ∈ fp, G' b = none) → ∀ b ∈ fp, FpOk (X.blk z G scope ce fp) [] G' b := fun {τ G' y} J' hn b hb => ⟨hn b hb, (J'.ok.exf b hb).1, J'.ok.exfs b hb, .inl hb, fun x c e => (J'.ok.exf b hb).2 x c e, fun p hp => absurd (show p ∈ ([] : List (Addr × Obj)) ++ [] from hp) (by simp)⟩
  have loop : codeAny (model X.prog X.w) X.A (.compLoop (.ListComp elt [⟨tg, iter, ifs, 0⟩] scope pos) 0 (.ref it) (.ref D) ce) (compEnds (model X.prog X.w) X.A X.xe none (EP X pins σ Q) (.ref D) ce) z4 := by
    refine compLoop_any (fun n y => ∃ i G', Inv (X.blk z G scope ce fp) [] (wipe σ (own.map (·.2))) G' y ∧ tn i y.heap ∧ (∀ b ∈ fp, G' b = none) ∧ Wn i n G') ?_ m0 ⟨0, G, I4, at4, none0, w0⟩
    rintro n s5 ⟨i, H5, I5, at5, n5, w5⟩
    rcases turn i n H5 w5 with ⟨stop, qq⟩ | ⟨go, Nx, hNx, step⟩
    · refine thnF (T.done (X.blk z G scope ce fp) rfl rfl rfl calm i [] s5 _ H5 (fun _ _ => False) I5 (own_ok I5 n5) at5 stop) fun r s6 ⟨hr, I6⟩ => ?_
      subst hr
      have I7 : Inv X pins σ H5 s6 := I3.call' (ch := fp) I6.os I6.base I6.hok I6.bare fun b hb => let f := (ok3 b hb).1.2; ⟨f.2.2.1, f.1, f.2.2.2.1, f.2.2.2.2⟩
      have free : H5 z.heap.objs.size = none := by have q : H5 ce.locals = none := I6.free; rw [cL] at q; exact q
      obtain ⟨m, hn, _⟩ := I6.loc
      have hn : s6.heap.Ns ce.locals m := hn
      obtain ⟨f0, f1, f2, f3, f4, f5⟩ := I3.fpOk (Nat.le_refl _) free
      exact ⟨m, hn, fun h'' sb => ⟨.ref D, H5, I7.turned (t' := s6.toks) (fun b o hb e => (sb.2 b (by rw [cL]; exact hb)).trans e) f0 f1 f3 f4 f5, rfl, qq⟩⟩
    · refine thnF (T.item (X.blk z G scope ce fp) rfl rfl rfl calm i [] s5 _ H5 (fun _ _ => False) I5 (own_ok I5 n5) at5 go) fun r s6 ⟨u, hr, h6⟩ => ?_
      subst hr
      refine thnF h6 fun _ s7 ⟨x, H7, I7, r7, y7, at7, n7⟩ => ?_
      refine thnF (pg.run _ s7 _ H7 x u _ (I7.pinned (own_ok I7 n7) (T.obj _ _ at7)) r7 (step x H7 y7)) fun _ s8 ⟨σ8, H8, I8, w8, q8⟩ => ?_
      refine thnF (pt.run _ s8 σ8 H8 _ I8 q8) fun b s9 ⟨H9, I9, q9⟩ => ?_
      have fin : ∀ {y : Shared} {G' : Hp}, Inv (X.blk z G scope ce fp) ([] ++ pinsAt fp s7.heap) σ8 G' y → Nx G' → ∃ m, m < n ∧ ∃ i G', Inv (X.blk z G scope ce fp) [] (wipe σ (own.map (·.2))) G' y ∧ tn i y.heap ∧ (∀ b ∈ fp, G' b = none) ∧ Wn i m G' := fun {y G'} J' nx => by
        obtain ⟨m', hm, w'⟩ := hNx G' nx
        have pinned : ∀ b ∈ fp, ∀ o, s7.heap.get? b = some o → y.heap.get? b = some o ∧ G' b = none := fun b hb o e => let p := J'.pin (b, o) (List.mem_append_right _ (List.mem_append_right _ (mem_pinsAt hb e))); ⟨p.1, p.2.1⟩
        refine ⟨m', hm, i + 1, G', (J'.unpinned (pins := [])).weak (by rw [← w8, wipe_length]) (fun j v e => ?_), T.keep _ _ _ at7 fun b hb o e => (pinned b hb o e).1, fun b hb => ?_, w'⟩
        · rw [← w8] at e; exact (wipe_some e).1
        · obtain ⟨o, e, _⟩ := T.obj _ _ at7 b hb; exact (pinned b hb o e).2
      cases b with
      | false => simp only [Bool.false_eq_true, if_false] at q9 ⊢; exact fin I9 q9
      | true =>
        simp only [if_true] at q9 ⊢
        have I9' : Inv ((X.blk z G scope ce fp).tr [] (notedBy (model X.prog X.w) X.A ce fun e s2 => CompFails (model X.prog X.w) X.A X.xe ce e s2)) ([] ++ pinsAt fp s7.heap) σ8 H9 s9 := inv_tr I9
        refine wpAny_mono (pe.run _ s9 σ8 H9 _ I9' q9) (fun v s10 qq => ?_) fun e s10 qq => qq
        obtain ⟨yv, H10, I10, r10, acc, hD10, room, nx⟩ := qq
        exact app_ok (X := X.blk z G scope ce fp) (inv_un I9.ok I10) hD10 room r10 fun s11 I11 => fin I11 nx
  exact codeAny_compStart_list loop (T.self X.A 0 _ _ _ at4 loop)⟩
end
end Sx

end
section
set_option Elab.async false
set_option linter.all false
set_option maxRecDepth 100000
set_option maxHeartbeats 2000000
/-! RC4: [e for x in l if ..], e may raise, over plain values -/
namespace Sx
open PySem PySem.Spec PyProof.Rows L2 Cl RZ ZN
def lcGoE (xq : XQ) (al : Mh → Prop) (g : MG) (t : MT) (e : ME) (env : Me) : List Val → List Val → Mh → (List Val → Mh → Prop) → Prop
  | [], acc, h, q => al h ∧ q acc h
  | x :: xs, acc, h, q => al h ∧ g x env h fun env2 h2 => t env2 h2 (fun b h3 => if b = true then e env2 h3 (fun y h4 => lcGoE xq al g t e env xs (acc ++ [y]) h4 q) xq else lcGoE xq al g t e env xs acc h3 q) F0
def eLcE (i : MI) (g : MG) (t : MT) (e : ME) (vs : List Nat) : ME := fun env h q x => i env h (fun xs al h1 => xs.length ≤ 90000 ∧ lcGoE x al g t e (wipeM env vs) xs [] h1 fun ys h2 => q (.lst ys) h2) x
section
variable {X : Cx} {Y : Ky} {W : WX} {wi : TI} {g : TG} {tt : TT} {te : TE} {mi : MI} {mg : MG} {mt : MT} {me : ME} {ts vs : List Nat}
theorem lc_goE {Q : VK} {x' : XQ} {q' : List Val → Mh → Prop} (hts : ∀ j ∈ ts, j ∈ vs) (sg : SG Y ts g mg) (st : ST Y W0 tt mt) {μ₁ : Mp} {h1 : Mh} {H1 : Hp} {σ : L2.St} {env : Me} {J : It} {xs : List Val} {al : Mh → Prop}
    (se : SE Y (fun cls d _ H' => W cls d σ H') te me) (kx : ∀ e h', x' e h' → Kx Y μ₁ H1 (fun c d H' => W c d σ H') e h') (z : Ok Y μ₁ h1 H1 σ env) (wk : Wk Y μ₁ H1 J xs al) (hl : xs.length ≤ 90000) (hm : lcGoE x' al mg mt me (wipeM env vs) xs [] h1 q') (D : Addr) (hD : H1 D = none)
    (fin : ∀ (acc : List Val) (h2 : Mh) (μ₂ : Mp) (H2 : Hp) (va : List V), q' acc h2 → Ext μ₁ (μ₂.show μ₁.ex) H1 H2 → μ₂.ex = D :: μ₁.ex → Rel Y μ₂ h2 H2 → H2 D = some (.lst va) → VRs Y μ₂ (vis μ₂ H2) va acc → acc.length ≤ 90000 → Q (.ref D) H2) :
    ∃ Wn : Nat → Nat → Hp → Prop, (∃ m, Wn 0 m (upd H1 D (.lst []))) ∧ ∀ i m H, Wn i m H →
      (J.stop i H ∧ Q (.ref D) H) ∨ (J.go i H ∧ ∃ Nx : Hp → Prop, (∀ H', Nx H' → ∃ m', m' < m ∧ Wn (i + 1) m' H') ∧ ∀ x H', J.yld i H x H' → g x (wipe σ vs) H' fun σ2 H2 => wipe σ2 vs = wipe σ vs ∧ tt σ2 H2 fun b H3 =>
        if b = true then te σ2 H3 fun y H4 => ∃ acc, H4 D = some (.lst acc) ∧ acc.length < sizeLine ∧ Nx (upd H4 D (.lst (acc ++ [y]))) else Nx H3) := by
  have nl : ∀ p l, μ₁.src = some (p, l) → l ≠ D := fun p l e q => (SrcOk.ne (z.r.src p l e).1).2 (by rw [q]; exact hD)
  refine ⟨fun i m H2 => m = xs.length - i ∧ i ≤ xs.length ∧ ∃ (μ₂ : Mp) (h2 : Mh) (acc : List Val) (va : List V), Ext μ₁ (μ₂.show μ₁.ex) H1 H2 ∧ μ₂.ex = D :: μ₁.ex ∧ Le μ₁ μ₂ (vis μ₁ H1) (vis μ₂ H2) ∧ Rel Y μ₂ h2 H2 ∧ H2 D = some (.lst va) ∧ VRs Y μ₂ (vis μ₂ H2) va acc ∧ acc.length ≤ i ∧ lcGoE x' al mg mt me (wipeM env vs) (xs.drop i) acc h2 q',
    ⟨xs.length, by simp, Nat.zero_le _, μ₁.hide D, h1, [], [], Ext.same (same_new hD), rfl, le_hide hD, z.r.hide hD, upd_same, .nil, Nat.le_refl _, by simpa using hm⟩, ?_⟩
  rintro i m H2 ⟨rfl, hi, μ₂, h2, acc, va, ex, exD, le2, r2, eD, rva, hacc, hgo⟩
  have hDm : μ₂.m D = false := (r2.ex D (by rw [exD]; simp)).2
  by_cases hlt : i < xs.length
  · rw [List.drop_eq_getElem_cons hlt] at hgo
    obtain ⟨hal, hg⟩ := hgo
    refine .inr ⟨wk.go _ _ _ i le2 r2 hal hlt, fun H3 => ∃ (μ₂ : Mp) (h2 : Mh) (acc : List Val) (va : List V), Ext μ₁ (μ₂.show μ₁.ex) H1 H3 ∧ μ₂.ex = D :: μ₁.ex ∧ Le μ₁ μ₂ (vis μ₁ H1) (vis μ₂ H3) ∧ Rel Y μ₂ h2 H3 ∧ H3 D = some (.lst va) ∧ VRs Y μ₂ (vis μ₂ H3) va acc ∧ acc.length ≤ i + 1 ∧ lcGoE x' al mg mt me (wipeM env vs) (xs.drop (i + 1)) acc h2 q', ?_, ?_⟩
    · rintro H3 q
      exact ⟨xs.length - (i + 1), by omega, rfl, by omega, q⟩
    · intro v H3 y
      obtain ⟨x, ex3, sm, rvx⟩ := wk.yld _ _ _ i v H3 le2 r2 hal y hlt
      rw [List.getElem?_eq_getElem hlt] at ex3
      cases ex3
      have e3 : Ext μ₂ μ₂ H2 H3 := .same sm
      have r3 : Rel Y μ₂ h2 H3 := r2.same sm
      have s3 : SR Y μ₂ H3 (wipe σ vs) (wipeM env vs) := by
        have s0 := z.s.wipe vs
        exact ⟨s0.len, fun i x q => let ⟨v, a, b⟩ := s0.at_ i x q; ⟨v, a, (b.mono le2).mono e3.le⟩⟩
      refine sg μ₂ (wipeM env vs) h2 (wipe σ vs) H3 v xs[i] _ _ ⟨r3, s3⟩ rvx hg fun env4 h4 k4 μ₄ σ4 H4 e4 z4 w4 => ⟨?_, ?_⟩
      · rw [w4 vs hts, wipe_wipe]
      · refine st μ₄ env4 h4 σ4 H4 _ _ F0 z4 k4 (fun b h5 k5 μ₅ H5 e5 r5 => ?_) fun _ _ z => z.elim
        have e35 := (e3.trans e4).trans e5
        have eD5 : H5 D = some (.lst va) := (e4.trans e5).keep D _ hDm (sm D _ eD)
        cases b with
        | false =>
          rw [if_neg Bool.false_ne_true] at k5 ⊢
          exact ⟨μ₅, h5, acc, va, ex.trans e35.shown, e35.ex.trans exD, le2.trans e35.le, r5, eD5, rva.mono e35.le, by omega, k5⟩
        | true =>
          rw [if_pos rfl] at k5 ⊢
          refine se μ₅ env4 h5 σ4 H5 _ _ x' (z4.go e5 r5) k5 (fun y h6 k6 μ₆ vy H6 e6 r6 v6 => ?_) fun e h6 k6 μ₆ cls d H6 e6 r6 xr => ?_
          rotate_left
          · have e36 := e35.trans e6
            have ex6 : μ₆.ex = D :: μ₁.ex := e36.ex.trans exD
            obtain ⟨rs, les⟩ := r6.unhide ex6
            obtain ⟨C, dx, fs, c1, c2, c3, c4, c5, c6⟩ := xr
            exact kx e h6 k6 _ cls d H6 (ex.trans e36.shown) rs ⟨C, dx, fs, c1, c2, c3, les.same _ _ c4, c5, c6.mono les⟩
          have e36 := e35.trans e6
          have hDm6 : μ₆.m D = false := ((e4.trans e5).trans e6).nm hDm (by rw [sm D _ eD]; exact fun z => nomatch z)
          have eD6 : H6 D = some (.lst va) := ((e4.trans e5).trans e6).keep D _ hDm (sm D _ eD)
          have ex6 : μ₆.ex = D :: μ₁.ex := e36.ex.trans exD
          have hDh : μ₆.h D = true := by
            unfold Mp.h Mp.k
            rw [ex6]; simp
          have src6 : μ₆.src = μ₁.src := e36.src.trans ex.src
          have x6 : Ext μ₁ (μ₆.show μ₁.ex) H1 H6 := ex.trans e36.shown
          refine ⟨va, eD6, ?_, μ₆, h6, acc ++ [y], va ++ [vy], ⟨x6.cells, x6.src, x6.ex, x6.freshm, fun b u nb e => ?_, fun b q => ?_, x6.tb⟩, ex6, ?_, r6.touch hDh hDm6 fun p l e => nl p l (src6 ▸ e), upd_same, ?_, by simp; omega, k6⟩
          · rw [rva.length]
            exact Nat.lt_of_le_of_lt (Nat.le_trans hacc (Nat.le_trans hi hl)) (by decide)
          · rw [upd_ne (ne_of_none e hD)]; exact x6.keep b u nb e
          · by_cases eb : b = D
            · subst eb; exact absurd hD q
            · rw [upd_ne eb]; exact x6.there b q
          · rw [vis_hidden hDh]; exact le2.trans e36.le
          · rw [vis_hidden hDh]; exact (rva.mono e36.le).append (.one v6)
  · have e : i = xs.length := by omega
    subst e
    rw [List.drop_length] at hgo
    exact .inl ⟨wk.stop _ _ _ _ le2 r2 hgo.1 (Nat.le_refl _), fin acc h2 μ₂ H2 va hgo.2 ex exD r2 eD rva (by omega)⟩
theorem se_lcE {tw : WX → TE} (hts : ∀ j ∈ ts, j ∈ vs) (si : SI Y W wi mi) (sg : SG Y ts g mg) (st : ST Y W0 tt mt) (se : ∀ W', SE Y W' (tw W') me) : SE Y W (tLcE W wi g tt tw vs) (eLcE mi mg mt me vs) := fun μ env h σ H Q q x z hm kq kx =>
  si μ env h σ H _ _ x z hm (fun xs al h1 ⟨hl, k⟩ μ₁ J H1 e1 r1 wk D hD => lc_goE (x' := x) hts sg st (se _) (fun e h' k => (kx e h' k).after e1) (z.go e1 r1) wk hl k D hD fun acc h2 μ₂ H2 va kf ex exD r2 eD rva _ => by
    obtain ⟨rs, les⟩ := r2.unhide exD
    exact ((kq _ _ kf).after e1) _ _ _ ex rs (.lst (hid_of (show_D r1 hD r2 exD ex.src) eD) (rva.mono les))) kx
theorem de_lcE {tg iter elt : Expr} {ifs : List Expr} {pos : Pos} {scope : Scope} {own : List (Str × Nat)} (hs : X.stack = X.env :: X.outer) (hf : X.env.frame = some X.env.locals) (tk : Takes X W) (hc : X.calm = true) (hN : X.N.Nodup) (hi : DI X Y W tg iter mi) (ok : BlkOk X.N X.env.scope scope own)
    (hg : ∀ (s : Shared) (H : Hp) (C : Addr) (cl : List (Str × Addr)) (fp : List Addr), DG (X.blk s H scope (compEnvC scope cl C X.env) fp) Y ts tg mg) (ht : ∀ (s : Shared) (H : Hp) (C : Addr) (cl : List (Str × Addr)) (fp : List Addr), DTs (X.blk s H scope (compEnvC scope cl C X.env) fp) Y ifs mt)
    (he : ∀ (s : Shared) (H : Hp) (C : Addr) (cl : List (Str × Addr)) (fp : List Addr) (xe : Value → Shared → Prop) (W' : WX), Takes ((X.blk s H scope (compEnvC scope cl C X.env) fp).tr [] xe) W' → DE ((X.blk s H scope (compEnvC scope cl C X.env) fp).tr [] xe) Y W' elt me) (hts : ∀ j ∈ ts, j ∈ own.map (·.2)) (hsi : ∀ x, foldedSetIterable iter X.env x = pure x := by intro _; rfl) :
    DE X Y W (.ListComp elt [⟨tg, iter, ifs, 0⟩] scope pos) (eLcE mi mg mt me (own.map (·.2))) := by
  obtain ⟨wi, i1, i2⟩ := hi
  exact ⟨_, pe_lcE hs hf tk hc hN i1 ok (fun s H C cl fp => (hg s H C cl fp).pg) (fun s H C cl fp => (ht s H C cl fp).go) (fun s H C cl fp xe W' tk => (he s H C cl fp xe W' tk).pe) hsi, se_lcE hts i2 sg_of st_of fun W' => se_of⟩
end
end Sx

end
section
set_option Elab.async false
set_option linter.all false
set_option maxRecDepth 100000
set_option maxHeartbeats 4000000
/-! SXW: defs whose code object is known; the law with tables; exception classes as the top has left them -/
namespace Sx
open PySem PySem.Spec PyProof.Rows L2 Cl PySem.Sxn
section
variable {P : Program} {w : World} {K : PySem.W.Frag} {mg : Str → Option Value} {base : Heap} {k : Nat} {f c : Addr} {fd : FuncData} {N ps : List Str} {Y : Ky} {x qual : Str} {st : Stmt} {m : MS}
theorem Fun_okC {sp : Sp} (F : Fun K x qual st f fd) (hc : fd.code = .ref c) (S : FnScope N ps (defScope st)) (len : ∀ vs H Q E, sp vs H Q E → vs.length = ps.length)
    (hbody : ∀ (A : Around) (outer : List Env) (s : Shared) (H : Hp) (vs : List V) (Q : VK) (E : XK), Room k (A.deeper (envOfC qual (defScope st) s.heap.objs.size f (.ref c))) → sp vs H Q E →
      ∃ t, PSs (cxOf (L2.CX P w) P w K mg base N qual (defScope st) f (.ref c) A outer s H E) (defBody st) t ∧ t { nx := fun _ H' => Q .non H', rt := Q } (L2.start N vs) H) : FnOk P w K mg base (L2.CX P w) (k + 1) f fd ps sp := by
  obtain ⟨oc, od, kV, doc, pm, an, cdv, ct, osl, rfl, lk, hcd⟩ := F.ex
  have hc : cdv = .ref c := hc
  subst hc
  exact fn_of lk hcd S len fun A outer s H vs Q E hr hsp => hbody A outer s H vs Q E hr hsp
theorem fn_okC {n n' : Nat} (F : Fun K x qual st f fd) (hc : fd.code = .ref c) (S : FnScope N ps (defScope st)) (hn : ps.length = n) (hN : N.length = n') (hb : ∀ (A : Around) (outer : List Env) (s : Shared) (H : Hp) (E : XK), Room k (A.deeper (envOfC qual (defScope st) s.heap.objs.size f (.ref c))) →
      Takes (cxOf (L2.CX P w) P w K mg base N qual (defScope st) f (.ref c) A outer s H E) (WO E) → PassesOwn (model P w) (A.deeper (envOfC qual (defScope st) s.heap.objs.size f (.ref c))) (envOfC qual (defScope st) s.heap.objs.size f (.ref c)) (cxOf (L2.CX P w) P w K mg base N qual (defScope st) f (.ref c) A outer s H E).xe →
      DSs (cxOf (L2.CX P w) P w K mg base N qual (defScope st) f (.ref c) A outer s H E) Y (WO E) (defBody st) m) : FnOk P w K mg base (L2.CX P w) (k + 1) f fd ps (spA Y (ar n (fnM n' m))) := by
  subst hN
  refine Fun_okC F hc S (fun vs H Q E ⟨μ, h, xs, q, x, rl, rv, ⟨hl, _⟩, _⟩ => by rw [rv.length, hl, hn]) fun A outer s H vs Q E hr ⟨μ, h, xs, q, x, rl, rv, ⟨hl, hf⟩, kq, kx⟩ => ?_
  obtain ⟨t, a1, a2⟩ := hb A outer s H E hr (takes_of rfl rfl rfl rfl) (passes_of rfl)
  exact ⟨t, a1, a2 μ _ h _ H _ _ ⟨rl, sr_start rv⟩ hf (sd_end kq kx)⟩
/-- a def that makes lambdas -/
def TpC (K : PySem.W.Frag) (mg : Str → Option Value) (x : Str) (st : Stmt) (c : Addr) : Prop := ∃ f fd, Fun K x x st f fd ∧ fd.code = .ref c ∧ mg x = some (.ref f)
def spLawT (Y : Ky) : Sp := fun vs H Q _ => ∃ (a : Addr) (ns : List Int), vs = [.ref a] ∧ SqL Y.K H a (ns.map V.int) ∧ ns.length ≤ 63 ∧ (∀ z ∈ Y.T, H z.1 = some (.tbl #[])) ∧ ∀ H', Q (.bl true) H'
theorem law_okT {n : Nat} (F : Fun Y.K "law" "law" st f fd) (hc : fd.code = .ref c) (S : FnScope N ["_law_script"] (defScope st)) (hN : N.length = n + 2)
    (law : m (none :: some .src :: List.replicate n none) [] { nx := fun _ _ => False, rt := fun v _ => v = .bl true })
    (hb : ∀ (A : Around) (outer : List Env) (s : Shared) (H : Hp) (E : XK), Room k (A.deeper (envOfC "law" (defScope st) s.heap.objs.size f (.ref c))) →
      Takes (cxOf (L2.CX P w) P w Y.K mg base N "law" (defScope st) f (.ref c) A outer s H E) (WO E) → PassesOwn (model P w) (A.deeper (envOfC "law" (defScope st) s.heap.objs.size f (.ref c))) (envOfC "law" (defScope st) s.heap.objs.size f (.ref c)) (cxOf (L2.CX P w) P w Y.K mg base N "law" (defScope st) f (.ref c) A outer s H E).xe →
      ∃ s0 rest, defBody st = s0 :: rest ∧ PS (cxOf (L2.CX P w) P w Y.K mg base N "law" (defScope st) f (.ref c) A outer s H E) s0 (tAsg (tCA (spSrc Y.K) (WO E) (tCons (tVar 0) tNil)) (gName 1)) ∧ DSs (cxOf (L2.CX P w) P w Y.K mg base N "law" (defScope st) f (.ref c) A outer s H E) Y (WO E) rest m) :
    FnOk P w Y.K mg base (L2.CX P w) (k + 1) f fd ["_law_script"] (spLawT Y) := by
  refine Fun_okC F hc S (fun vs H Q E ⟨a, ns, e, _⟩ => by rw [e]; rfl) fun A outer s H vs Q E hr ⟨a, ns, e, hS, hlen, hT, q⟩ => ?_
  subst e
  obtain ⟨s0, rest, eb, p0, t, a1, a2⟩ := hb A outer s H E hr (takes_of rfl rfl rfl rfl) (passes_of rfl)
  rw [eb]
  exact ⟨_, pss_cons p0 a1, law_start (X := cxOf (L2.CX P w) P w Y.K mg base N "law" (defScope st) f (.ref c) A outer s H E) (E := E) a2 hN hS hlen hT q law⟩
end
/-! ### exception classes -/
theorem xc_of {K : PySem.W.Frag} {C CE NF : Addr} {newId : String} {tail : List Value} {fs : List Str} (h : xcIn K C CE NF newId tail fs = true) : OexB K C newId tail ∧ XfC K C ∧ (∀ f ∈ fs, PySem.W.findIn K (.ref C) f = some none) ∧ PySem.W.exmAny K (.ref C) [.ref CE, .ref NF] = some true := by
  unfold xcIn at h
  obtain ⟨h1, h⟩ := Bool.and_eq_true_iff.mp h
  obtain ⟨h2, h⟩ := Bool.and_eq_true_iff.mp h
  obtain ⟨h3, h⟩ := Bool.and_eq_true_iff.mp h
  obtain ⟨h4, h⟩ := Bool.and_eq_true_iff.mp h
  obtain ⟨h5, h⟩ := Bool.and_eq_true_iff.mp h
  obtain ⟨h6, h⟩ := Bool.and_eq_true_iff.mp h
  obtain ⟨h7, h8⟩ := Bool.and_eq_true_iff.mp h
  refine ⟨⟨?_, of_decide_eq_true h2, of_decide_eq_true h3, of_decide_eq_true h4, h5⟩, xfB_ok h6, fun f hf => of_decide_eq_true (List.all_eq_true.mp h7 f hf), of_decide_eq_true h8⟩
  unfold oexIn at h1
  split at h1
  · rename_i dd cd sl ho
    split at h1
    · rename_i C' bm k0 k1 k2 k3 n k5 hm hs
      simp only [Bool.and_eq_true, beq_iff_eq, Bool.not_eq_true'] at h1
      obtain ⟨⟨⟨⟨rfl, rfl⟩, hdel⟩, hdict⟩, ht⟩ := h1
      obtain ⟨nm, bs, mro, ns, qn, hd, sn, sub, ab, col, del⟩ := cd
      dsimp only at hm hdel hdict
      subst hm hdel hdict
      have hsl : sl = #[k0, k1, k2, k3, some (.builtin n), k5] := by
        obtain ⟨l⟩ := sl
        simp only at hs
        rw [hs]
      subst hsl
      exact ⟨nm, qn, ns, bs, bm, sn, sub, ab, col, dd, k0, k1, k2, k3, k5, ho, ht⟩
    · cases h1
  · cases h1
/-- a class straight over the built-in one B, as the top has left it -/
def XbF (Y : Ky) (mg : Str → Option Value) (x qual : Str) (st : Stmt) (B initId : String) : Prop := ∃ CB fB fd, mg x = some (.ref CB) ∧ PySem.W.specialIn Y.K (.ref CB) "__getattribute__" = some (some (.builtin "type.__getattribute__")) ∧ PySem.W.readsIn Y.K CB (.type "type") = true ∧
  PySem.W.findCls Y.K (.ref CB) (.type "type") "__init__" = some (.val (.ref fB)) ∧ Fun Y.K "__init__" qual st fB fd ∧ PySem.W.findCls Y.K (.type B) (.type "type") "__init__" = some (.val (.builtin initId))
def XbA (P : Program) (w : World) (Y : Ky) (mg : Str → Option Value) (base : Heap) (x : Str) (newId : String) (tail : List Value) : Prop := ∃ CB fB, mg x = some (.ref CB) ∧ PySem.W.specialIn Y.K (.ref CB) "__getattribute__" = some (some (.builtin "type.__getattribute__")) ∧ PySem.W.readsIn Y.K CB (.type "type") = true ∧
  PySem.W.findCls Y.K (.ref CB) (.type "type") "__init__" = some (.val (.ref fB)) ∧ PySem.W.keepIn Y.K (.ref fB) = true ∧ FnA P w Y.K mg base 1 fB [] (sp1 Y.K newId tail)
/-- a class over such a one -/
def XsF (Y : Ky) (mg : Str → Option Value) (x qual : Str) (st : Stmt) (newId : String) (tail : List Value) (fs : List Str) : Prop := ∃ C, Y.cm x = some C ∧ mg x = some (.ref C) ∧ OexB Y.K C newId tail ∧ (∀ f ∈ fs, PySem.W.findIn Y.K (.ref C) f = some none) ∧
  ∃ fI fd, PySem.W.findIn Y.K (.ref C) "__init__" = some (some (.ref fI)) ∧ PySem.W.typeIn Y.K (.ref fI) = some (.type "function") ∧ Fun Y.K "__init__" qual st fI fd
theorem outC_nil {Y : Ky} {CE NF : Addr} : ∀ p ∈ ([] : List (Str × List Str)), ∀ C, Y.cm p.1 = some C → XfC Y.K C ∧ (∀ f ∈ p.2, PySem.W.findIn Y.K (.ref C) f = some none) ∧ PySem.W.exmAny Y.K (.ref C) [.ref CE, .ref NF] = some true := fun p h => by simp at h
theorem outC_cons {Y : Ky} {CE NF C : Addr} {x : Str} {fs : List Str} {newId : String} {tail : List Value} {cs : List (Str × List Str)} (hc : Y.cm x = some C) (h : xcIn Y.K C CE NF newId tail fs = true)
    (r : ∀ p ∈ cs, ∀ C, Y.cm p.1 = some C → XfC Y.K C ∧ (∀ f ∈ p.2, PySem.W.findIn Y.K (.ref C) f = some none) ∧ PySem.W.exmAny Y.K (.ref C) [.ref CE, .ref NF] = some true) :
    ∀ p ∈ (x, fs) :: cs, ∀ C, Y.cm p.1 = some C → XfC Y.K C ∧ (∀ f ∈ p.2, PySem.W.findIn Y.K (.ref C) f = some none) ∧ PySem.W.exmAny Y.K (.ref C) [.ref CE, .ref NF] = some true := fun p hp C' hC' => by
  rcases List.mem_cons.mp hp with e | hp
  · subst e
    rw [hc] at hC'
    cases hC'
    obtain ⟨_, h1, h2, h3⟩ := xc_of h
    exact ⟨h1, h2, h3⟩
  · exact r p hp C' hC'
end Sx

end
section
set_option Elab.async false
set_option linter.all false
set_option maxRecDepth 100000
set_option maxHeartbeats 4000000
/-! SXX: static methods; len and repr by own defs -/
namespace Sx
open PySem PySem.Spec PyProof.Rows L2 Cl
/-! ### C.m(..), a static method -/
def TmS (Y : Ky) (mg : Str → Option Value) (x m qual : Str) (st : Stmt) : Prop := ∃ C, mg x = some (.ref C) ∧ PySem.W.specialIn Y.K (.ref C) "__getattribute__" = some (some (.builtin "type.__getattribute__")) ∧ PySem.W.readsIn Y.K C (.type "type") = true ∧
  ∃ p f fd, PySem.W.findCls Y.K (.ref C) (.type "type") m = some (.get (.builtin "staticmethod.__get__") (.ref p) .none (.ref C)) ∧ (∃ rest, PySem.W.recIn Y.K p "staticmethod" = some (.ref f :: rest)) ∧ Fun Y.K m qual st f fd
def SmA (P : Program) (w : World) (Y : Ky) (mg : Str → Option Value) (base : Heap) (x m : Str) (k : Nat) (sp : Sp) : Prop := ∃ C, mg x = some (.ref C) ∧ PySem.W.specialIn Y.K (.ref C) "__getattribute__" = some (some (.builtin "type.__getattribute__")) ∧ PySem.W.readsIn Y.K C (.type "type") = true ∧
  ∃ p f, PySem.W.findCls Y.K (.ref C) (.type "type") m = some (.get (.builtin "staticmethod.__get__") (.ref p) .none (.ref C)) ∧ (∃ rest, PySem.W.recIn Y.K p "staticmethod" = some (.ref f :: rest)) ∧ PySem.W.keepIn Y.K (.ref f) = true ∧ FnA P w Y.K mg base k f [] sp
section
variable {X : Cx} {Y : Ky} {W : WX} {k : Nat} {x m : Str} {p1 p2 pos : Pos} {e : Expr} {es : List Expr} {a : MA} {F : MF}
theorem de_sm {pl : Sem Bool} (hK : X.K = Y.K) (D : SmA X.prog X.w Y X.mg X.base x m k (spA Y F)) (hr : Room k X.A) (tk : Takes X W) (hg : Gl X x) (ha : DA X Y W (e :: es) a) (hdb : (x == ("__debug__" : Str)) = false := by decide)
    (hc : eval (.Call (.Attribute (.Name x p1) m p2) (e :: es) [] pos) X.env = (do
      let ov ← eval (.Name x p1) X.env
      standAt p2.atName
      let (f, first) ← holding [ov] (getMethod ov m pl)
      callWith pos f first (backTo pos (starEach (e :: es) X.env)) (backToKw pos (keywordEach [] X.env))) := by rfl)
    (he : starEach (e :: es) X.env = (false, eval e X.env) :: starEach es X.env := by rfl) (hpl : (backTo pos (starEach es X.env)).any (·.1) = false := by rfl) :
    DE X Y W (.Call (.Attribute (.Name x p1) m p2) (e :: es) [] pos) (eCall F a) := by
  obtain ⟨C, hm, hga, hrd, p, f, hf, ⟨rest, hrc⟩, hk, F⟩ := D; obtain ⟨t, a1, a2⟩ := ha
  rw [← hK] at hga hrd hf hrc hk F
  refine ⟨_, ⟨fun pins s σ H Q I h => ?_⟩, se_ca a2⟩
  refine PySem.W.methodCall_KW (ld_glob I hg hm ?_ hdb) hc
  refine PySem.W.method_cls I.kIn hga (PySem.W.cls_bind I.kIn hrd hf (wpAny_call (PySem.W.sm_get (s := { s with toks := s.toks + 1 }) I.kIn hrc (PySem.W.handed_on rfl ?_))))
  refine PySem.W.callWith_K (first := []) (h₀ := X.base) I.ok.mod.kin hk (thn (a1.run pos pins _ σ H _ (I.tok _) h) fun us s1 ⟨vs, H1, I1, r, q⟩ => ⟨I1.kIn, ?_⟩) he hpl
  exact run_fna (ws := []) (zs := []) F hr tk I1 r .nil rfl (by rw [List.append_nil]; exact q)
end
/-! ### len(o), repr(o) by the class's own defs -/
/-- the special m of the class named c, as a def -/
def OwA (P : Program) (w : World) (Y : Ky) (mg : Str → Option Value) (base : Heap) (c m : Str) (k : Nat) (sp : Sp) : Prop := MdA P w Y mg base c m k [] sp
def rOwn (C : Addr) (sp : Sp) (ok : V → Prop) : List V → Hp → VK → Prop := fun vs H Q => ∃ a dx fs, vs = [.ref a] ∧ H a = some (.ins C dx fs) ∧ sp [.ref a] H (fun v H2 => ok v ∧ Q v H2) (fun _ _ _ => False)
def isLenV : V → Prop := fun v => ∃ n : Int, v = .int n ∧ 0 ≤ n ∧ n < 2 ^ 62
def isStrV : V → Prop := fun v => ∃ x : Str, v = .str x
def fOwn (c : Str) (F : MF) (ok : Val → Prop) : MC := f1 fun v h q => ∃ fs, insOf h v = some (c, fs) ∧ F [v] h (fun y h' => ok y ∧ q y h') F0
def isLenM : Val → Prop := fun v => ∃ n : Int, v = .int n ∧ 0 ≤ n ∧ n < 2 ^ 62
def isStrM : Val → Prop := fun v => ∃ x : Str, v = .str x
section
variable {X : Cx} {Y : Ky} {W : WX} {k : Nat} {c m : Str} {C f : Addr} {F : MF} {sp : Sp}
theorem own_run {pins : List (Addr × Obj)} {σ : L2.St} {H : Hp} {s : Shared} {a : Addr} {Q : VK} (D : FnA X.prog X.w X.K X.mg X.base k f [] sp) (hr : Room (k + 1) X.A) (I : Inv X pins σ H s) (h : sp [.ref a] H Q (fun _ _ _ => False)) :
    wpAny (model X.prog X.w) X.A.in1 (call (.ref f) [.ref a]) (EP X pins σ Q) X.xe s := by
  refine wpAny_call (codeAny_mono (D X.A.in1 X.stack s H [.ref a] [] [.ref a] [] Q (fun _ _ _ => False) hr.in1 I.env0.in1 (.cons rfl .nil) .nil rfl (by rw [List.append_nil]; exact h)) fun r s' hq => ?_)
  cases r with
  | error er =>
    obtain ⟨_, _, _, _, _, _, _, _, _, _, _, _, z⟩ := hq
    exact z.elim
  | ok fl =>
    cases fl with
    | ret u => exact I.after hq
    | next => exact False.elim hq
    | brk => exact False.elim hq
    | cont => exact False.elim hq
theorem cr_lenO (c : Cls X.K C) (hm : Meth X.K C "__len__" f) (D : FnA X.prog X.w X.K X.mg X.base k f [] sp) (hr : Room (k + 1) X.A) : CallR X (.builtin "len") (rOwn C sp isLenV) := by
  rintro pins s σ H xs us Q I r ⟨a, dx, fs, rfl, ea, h⟩
  cases r with
  | cons ra rn =>
    cases rn
    rename_i u0
    obtain rfl : u0 = Value.ref a := ra
    obtain ⟨mA, O, _, _, _, _⟩ := ins_get I.hok ea
    obtain ⟨od, J, _⟩ := O.look
    refine Calls.call_function_entry PySem.kind_len PySem.plain_len PySem.entry_len (PySem.args_len1 _) ?_
    unfold Builtin.«len»
    refine wpAny_bind (m := oneArg "len" _) (wpAny_pure ?_)
    refine wpAny_bind (m := callSpecial? (.ref a) (Str.ofString "__len__")) (PySem.W.special_fn I.kIn J hm.at_ (beq_iff_eq.mp hm.fn) (wpAny_mono (own_run D hr I h) (fun r s' hr => ?_) fun _ _ y => y))
    obtain ⟨v, H', I', rv, ⟨n, rfl, h0, h1⟩, q⟩ := hr
    obtain ⟨t, rfl⟩ := (show ∃ t, r = Value.int n t from rv)
    refine wpAny_bind (wpAny_holding (wpAny_pure ?_))
    refine wpAny_bind (wpAny_letGo ?_)
    show wpAny _ _ (if n < 0 then _ else _) _ _ _
    rw [if_neg (by omega)]
    show wpAny _ _ (if n ≥ 2 ^ 63 then _ else _) _ _ _
    rw [if_neg (by omega)]
    exact wpAny_bind (wpAny_mkInt (wpAny_pure ⟨_, rfl, .int n, H', I'.tok _, ⟨_, rfl⟩, q⟩))
theorem cr_reprO (c : Cls X.K C) (hm : Meth X.K C "__repr__" f) (D : FnA X.prog X.w X.K X.mg X.base k f [] sp) (hr : Room (k + 1) X.A) : CallR X (.builtin "repr") (rOwn C sp isStrV) := by
  rintro pins s σ H xs us Q I r ⟨a, dx, fs, rfl, ea, h⟩
  cases r with
  | cons ra rn =>
    cases rn
    rename_i u0
    obtain rfl : u0 = Value.ref a := ra
    obtain ⟨mA, O, _, _, _, _⟩ := ins_get I.hok ea
    obtain ⟨od, J, _⟩ := O.look
    have hu : X.A.in1.units < cLine := by have := hr.un; show X.A.units + 1 < _; omega
    refine Calls.call_function_entry PySem.F.kind_repr PySem.F.plain_repr PySem.F.entry_repr (PySem.F.args_repr1 _) ?_
    unfold Builtin.«repr»
    refine wpAny_bind (m := oneArg "repr" _) (wpAny_pure ?_)
    refine wpAny_bind (wpAny_cRoomFor hu ?_)
    refine wpAny_bind (wpAny_bind (J.type.here ((PySem.W.looks_findIn I.kIn hm.at_).here ?_)))
    show wpAny _ _ (if (some (Value.ref f)).isNone = true then _ else _) _ _ _
    rw [if_neg (by simp)]
    refine wpAny_bind (m := callSpecialIfBound? (.ref a) (Str.ofString "__repr__") _) (PySem.W.ifBound_K I.kIn J hm.at_ hm.fn (wpAny_mono (own_run D hr I h) (fun r s' hr => ?_) fun _ _ y => y))
    obtain ⟨v, H', I', rv, ⟨x, rfl⟩, q⟩ := hr
    obtain ⟨t, rfl⟩ := (show ∃ t, r = Value.str x t from rv)
    refine wpAny_bind (wpAny_isInstance (PySem.typeIs_str _ _ _) isSubtype_str_str ?_)
    first
      | exact wpAny_pure ⟨_, rfl, .str x, H', I', ⟨_, rfl⟩, q⟩
      | (rw [if_pos rfl]; exact wpAny_pure ⟨_, rfl, .str x, H', I', ⟨_, rfl⟩, q⟩)
      | (simp only [if_true]; exact wpAny_pure ⟨_, rfl, .str x, H', I', ⟨_, rfl⟩, q⟩)
theorem sc_own {okV : V → Prop} {okM : Val → Prop} (hc : Y.cm c = some C) (ho : ∀ (μ : Mp) (G : Hp) (v : V) (y : Val), VR Y μ G v y → okM y → okV v) : SC Y (rOwn C (spA Y F) okV) (fOwn c F okM) := sc_f1 fun μ h H U u Q q r a ⟨gs, ei, k⟩ kq => by
  obtain ⟨a', C', dx, fs, rfl, cm, ea, k1, t1⟩ := rd_ins r a ei
  rw [hc] at cm; cases cm
  exact ⟨a', dx, fs, rfl, ea, ⟨μ, h, [u], _, F0, r, .cons a .nil, k, fun v h' ⟨k1, k2⟩ μ' U' H' e' r' v' => ⟨ho _ _ _ _ v' k1, (kq _ _ k2) μ' U' H' e' r' v'⟩, fun _ _ z => z.elim⟩⟩
theorem cd_lenO (hK : X.K = Y.K) (D : MdA X.prog X.w Y X.mg X.base c "__len__" k [] (spA Y F)) (hr : Room (k + 1) X.A) : CaD X Y (.builtin "len") (fOwn c F isLenM) := by
  obtain ⟨C, hc, cl, f, D, hm⟩ := D
  rw [← hK] at cl D hm
  exact ⟨_, cr_lenO cl hm D hr, sc_own hc fun μ G v y r ⟨n, e, h0, h1⟩ => by subst e; cases r; exact ⟨n, rfl, h0, h1⟩⟩
theorem cd_reprO (hK : X.K = Y.K) (D : MdA X.prog X.w Y X.mg X.base c "__repr__" k [] (spA Y F)) (hr : Room (k + 1) X.A) : CaD X Y (.builtin "repr") (fOwn c F isStrM) := by
  obtain ⟨C, hc, cl, f, D, hm⟩ := D
  rw [← hK] at cl D hm
  exact ⟨_, cr_reprO cl hm D hr, sc_own hc fun μ G v y r ⟨n, e⟩ => by subst e; cases r; exact ⟨n, rfl⟩⟩
end
end Sx

end
section
set_option Elab.async false
set_option linter.all false
set_option maxRecDepth 100000
set_option maxHeartbeats 4000000
/-! SXY: list + list as a new list of one's own; clear -/
namespace Sx
open PySem PySem.Spec PyProof.Rows L2 Cl RZ
def oAddC : MO := fun u v h q => ∃ xs ys, lstOf h u = some xs ∧ lstOf h v = some ys ∧ xs.length + ys.length ≤ 100000 ∧ q (.ref h.length) (h ++ [.lst (xs ++ ys)])
/-- o.clear() -/
def eClr (mo : ME) : ME := fun env h q x => mo env h (fun v h1 => match v with
  | .ref n => ∃ xs, h1[n]? = some (.lst xs) ∧ q .non (h1.set n (.lst []))
  | _ => False) x
section
variable {X : Cx} {Y : Ky} {W : WX} {to : TE} {mo : ME} {o : Expr} {pos apos : Pos}
theorem so_addC : SO Y (rPlus Y.K) oAddC := fun μ h H U V' u v Q q r a b hf kq => by
  obtain ⟨xs, ys, e1, e2, hl, k⟩ := hf
  obtain ⟨p, vs, rfl, h1, t1⟩ := rd_lst r a e1
  obtain ⟨p', ws, rfl, h2, t2⟩ := rd_lst r b e2
  refine .inr (.inr (.inl ⟨_, _, _, _, rfl, rfl, h1, h2, by rw [t1.length, t2.length]; exact big hl, fun p hp => ?_⟩))
  exact Kq.cell (c := .lst (xs ++ ys)) r hp (kq _ _ k) fun l => .lst upd_same ((t1.append t2).mono l)
theorem od_addC (hK : X.K = Y.K) : OpD X Y (binaryOp .Add) oAddC := ⟨_, kop_plus hK, so_addC⟩
theorem se_clr (a : SE Y W to mo) : SE Y W (tBM0 Y.K "list" rClear to) (eClr mo) := fun μ env h σ H Q q x z hm kq kx =>
  a μ env h σ H _ _ x z hm (fun v h1 k μ1 U H1 e1 r1 v1 => by
    cases v with
    | ref n =>
      obtain ⟨xs, ex, k⟩ := k
      obtain ⟨a0, vs0, rfl, c0, q0, _⟩ := rd_cell r1 v1 ex
      exact ⟨.inl ⟨rfl, vs0, SqL.of q0⟩, a0, vs0, rfl, rfl, q0, kq _ _ k μ1 _ _ (e1.trans (.put c0)) (r1.put c0 fun ev => .lst upd_same .nil) .non⟩
    | _ => exact k.elim) kx
theorem de_clr (hK : X.K = Y.K) (ho : DE X Y W o mo) (hbase : attributeBase o "clear" X.env (eval o X.env) = eval o X.env := by rfl) (hline : (apos.endLine == pos.line) = true := by rfl) :
    DE X Y W (.Call (.Attribute o "clear" apos) [] [] pos) (eClr mo) := by
  obtain ⟨to, a1, a2⟩ := ho
  exact ⟨_, hK ▸ pe_bm0 PySem.F.plainAttrs_list PySem.F.slot_list_clear PySem.F.type_list_clear mt_clear a1 hbase hline, se_clr a2⟩
end
end Sx

end
section
set_option Elab.async false
set_option linter.all false
set_option maxRecDepth 100000
set_option maxHeartbeats 4000000
/-! SXZ: a dict of texts that is asked at once: {"a": "b", ..}[i] -/
namespace Sx
open PySem PySem.Spec PyProof.Rows L2 Cl RZ
def dixM (kvs : List (Str × Str)) : List (Key × V) := kvs.map fun p => ((.inr p.1 : Key), V.str p.2)
def eDix (kvs : List (Str × Str)) (mi : ME) : ME := fun env h q x => mi env h (fun v h1 => ∃ s w, v = .str s ∧ valV (mergeK [] (dixM kvs)) (.inr s) = some (.str w) ∧ q (.str w) h1) x
def dixT (kvs : List (Str × Str)) : List (TE × TE) := kvs.map fun p => (tC (.str p.1), tC (.str p.2))
theorem dix_pairs {σ : L2.St} {H : Hp} : ∀ (kvs : List (Str × Str)) {Q : List (V × V) → Hp → Prop}, Q (kvs.map fun p => (V.str p.1, V.str p.2)) H → tPairs (dixT kvs) σ H Q
  | [], _, k => k
  | p :: kvs, _, k => dix_pairs (σ := σ) (H := H) kvs k
section
variable {X : Cx} {Y : Ky} {W : WX} {mi : ME} {ti : TE} {i : Expr} {pos dpos : Pos} {kvs : List (Str × Str)} {keys : List (Option Expr)} {values : List Expr}
theorem se_dix (hk : kvs.length ≤ 15) (a : SE Y W ti mi) : SE Y W (tDGet (tDisp (dixT kvs)) ti) (eDix kvs mi) := fun μ env h σ H Q q x z hm kq kx p hp => by
  refine dix_pairs kvs ⟨upd_same, dixM kvs, by simp [dixM, kV, Function.comp_def], by simpa [dixM] using hk, ?_⟩
  have sm : Same H (upd (upd H p (.dK [])) p (.dK (mergeK [] (dixM kvs)))) := fun b u e => by
    rw [upd_ne (ne_of_none e hp), upd_ne (ne_of_none e hp)]; exact e
  have hv : vis μ (upd (upd H p (.dK [])) p (.dK (mergeK [] (dixM kvs)))) p = some (.dK (mergeK [] (dixM kvs))) := by
    refine hid_of ?_ upd_same
    cases q : μ.h p with
    | false => rfl
    | true => exact absurd hp (z.r.good p q)
  refine a μ env h σ _ _ _ x (z.go (Ext.same sm) (z.r.same sm)) hm (fun v h1 k μ2 U H2 e2 r2 v2 => ?_) fun e h' hx => (kx e h' hx).after (Ext.same sm)
  obtain ⟨s, w, rfl, e, k⟩ := k
  cases v2
  exact ⟨p, .str w, rfl, .inl ⟨_, .inr s, .inl (of_hid (e2.vis p _ hv)).2, rfl, e.symm⟩, kq _ _ k μ2 _ _ ((Ext.same sm).trans e2) r2 (.str w)⟩
theorem de_dix (hp : PPs X dpos keys values (dixT kvs)) (hi : DE X Y W i mi) (hs : NoSl i) (hu : X.A.units + 64 < cLine) (hk : kvs.length ≤ 15) (hall : keys.all (·.isSome) = true) (hl : keys.length = values.length) (h0 : keys ≠ []) (h15 : keys.length ≤ 15) :
    DE X Y W (.Subscript (.Dict keys values dpos) i pos) (eDix kvs mi) := by
  obtain ⟨ti, a1, a2⟩ := hi
  exact ⟨_, pe_dget (by omega) (pe_disp hp hall hl h0 h15) a1 hs, se_dix hk a2⟩
end
end Sx

end
section
set_option Elab.async false
set_option linter.all false
set_option maxRecDepth 100000
set_option maxHeartbeats 2000000
/-! ZIPM: zip(a, b) of a list and a tuple, either way, the loop's target two names -/
namespace ZN
open PySem PySem.Spec PyProof.Rows L2 RZ
section
variable {prog : Program} {w : World} {A : Around} {E : Value → Shared → Prop} {s : Shared}
theorem letGoN {elts : List Expr} {x1 : Nat} {pos : Pos} {z TI TO T : Addr} {f0 : Value} {f1 : Bool} {Q : Unit → Shared → Prop} (hz : ZIs s.heap z TI TO f0 f1) (h0 : F0 f0) (hQ : ∀ h' f0', ZIs h' z TI TO f0' f1 → F0 f0' → Heap.SameBut z s.heap h' → Q () { s with heap := h' }) :
    wpAny (model prog w) A (letOwnedTupleGo (.Tuple elts x1 pos) (.ref z) (.ref T)) Q E s := by
  unfold letOwnedTupleGo
  refine wpAny_bind (wpAny_load hz ?_)
  show wpAny _ _ (if (["enumerate", "zip", "dict_itemiterator", "dict_reverseitemiterator", "odict_iterator", "itertools.zip_longest", "itertools.pairwise"].contains "zip" && (#[f0, .bool f1, .bool false, .ref TI, .ref TO] : Array Value)[0]? == some (rawInt T)) = true then _ else _) Q E s
  split
  · refine wpAny_bind (wpAny_rule ?_)
    show wpAny _ _ (setField (.ref z) 0 .none) Q E s
    exact wpAny_setField_rec hz (by simp) fun h' hz' hs' => hQ h' .none hz' (.inl rfl) hs'
  · exact wpAny_pure (hQ s.heap f0 hz h0 ⟨rfl, fun _ _ => rfl⟩)
end
theorem turn_zipM {P : Program} {w : World} {K : PySem.W.Frag} {elts : List Expr} {kk : Nat} {tpos : Pos} {z TI TO : Addr} {ps : List (Addr × Src)} (hne : ps ≠ []) (hz : ps.length ≤ sizeLine) (D : FarP z TI TO ps) :
    Turn P w K (.Tuple elts kk tpos) (ItzN K (ps.map (·.2))) (z :: TI :: TO :: ps.map (·.1)) z (tnN z TI TO ps) where
  mem := by simp
  obj := fun i h st c hc => by
    obtain ⟨⟨f0, f1, h1, _⟩, h2, ⟨vs, h3, _⟩, h4⟩ := st
    rcases List.mem_cons.mp hc with q | hc
    · rw [q]; exact ⟨_, h1, fun v q => nomatch q⟩
    rcases List.mem_cons.mp hc with q | hc
    · rw [q]; exact ⟨_, h2, fun v q => nomatch q⟩
    rcases List.mem_cons.mp hc with q | hc
    · rw [q]; exact ⟨_, h3, fun v q => nomatch q⟩
    obtain ⟨p, hp, e⟩ := List.mem_map.mp hc
    rw [← e]
    exact itAt_obj (h4 p hp)
  keep := fun i h h' st k => by
    obtain ⟨⟨f0, f1, h1, h0⟩, h2, ⟨vs, h3, hl⟩, h4⟩ := st
    exact ⟨⟨f0, f1, k _ (by simp) _ h1, h0⟩, k _ (by simp) _ h2, ⟨vs, k _ (by simp) _ h3, hl⟩, fun p hp => (h4 p hp).at fun o e => k _ (List.mem_cons_of_mem _ (List.mem_cons_of_mem _ (List.mem_cons_of_mem _ (List.mem_map_of_mem hp)))) o e⟩
  item := by
    intro X hP hw hK hc i pins s σ H E I hf st hg
    subst hP hw hK
    obtain ⟨⟨f0, f1, h1, h0⟩, h2, ⟨vs, h3, hl⟩, h4⟩ := st
    obtain ⟨_, hg⟩ := hg
    obtain ⟨l, e, rd, ys, rv, hyl, hy⟩ := rcs I ps (fun p hp => hg p.2 (List.mem_map_of_mem hp)) h4
    have lne : l ≠ [] := fun q => hne (by rw [← e, q]; rfl)
    have ll : l.length = ps.length := by rw [← e, List.length_map]
    refine pyNextN_item lne (D.far e) h1 h0 (by rw [keyV e]; exact h2) h3 (by rw [hl, ll]) (by rw [ll]; exact hz) rd fun h' f0' f1' vs' z1 z0 z3 zl z4 zT zs hk => ?_
    rw [key1 e] at hk
    have hzl : z < s.heap.objs.size := Heap.lt_size h1
    refine ⟨_, rfl, letGoN (s := { s with heap := h' }) z1 z0 fun hh2 f2 z1 z0 sb => ?_⟩
    have z3 := (sb.2 _ D.TOz).trans z3
    have zT := (sb.2 _ (Nat.ne_of_gt hzl)).trans zT
    have hk : ∀ c o, c ≠ z → c ≠ TO → c ∉ ps.map (·.1) → s.heap.get? c = some o → hh2.get? c = some o := fun c o n1 n2 n3 e => (sb.2 _ n1).trans (hk c o n1 n2 n3 e)
    have new : ObjOk X.prog X.w (upd H s.heap.objs.size (.tup ys)) hh2 s.heap.objs.size (.tup ys) :=
      ⟨by rw [hyl]; exact hz, col l i, rv, ⟨_, zT, rfl, _, rfl⟩⟩
    have I1 : Inv X pins σ (upd H s.heap.objs.size (.tup ys)) { s with heap := hh2 } :=
      I.turnedNew (t' := s.toks) (ch := z :: TI :: TO :: ps.map (·.1)) (fun c o hb q => hk c o (fun q' => hb (by simp [q'])) (fun q' => hb (by simp [q'])) (fun q' => hb (List.mem_cons_of_mem _ (List.mem_cons_of_mem _ (List.mem_cons_of_mem _ q')))) q) hf (Nat.le_refl _) new
    refine ⟨.ref s.heap.objs.size, _, I1, rfl, ⟨_, ys, rfl, I.hok.fresh (Nat.le_refl _), rfl, by rw [hyl, List.length_map], fun k c y q1 q2 xs q3 => ?_⟩, ⟨⟨f2, f1', z1, z0⟩, ?_, ⟨vs', z3, by rw [zl, ll]⟩, fun p hp => ?_⟩, fun c hcm => ?_⟩
    · rw [List.getElem?_map] at q1
      cases hpk : ps[k]? with
      | none => rw [hpk] at q1; cases q1
      | some p =>
        rw [hpk] at q1
        cases q1
        exact hy k p y hpk q2 xs q3
    · refine hk _ _ D.TIz D.TITO (fun q => ?_) h2
      obtain ⟨p, hp, e⟩ := List.mem_map.mp q
      exact (D.it p hp).2.1 e
    · have e0 := e
      rw [← e] at hp
      obtain ⟨r, hr, q⟩ := List.mem_map.mp hp
      have := z4 r hr
      have nz : r.1 ≠ z := (D.it (r.1, r.2.1) (by rw [← e0]; exact List.mem_map.mpr ⟨r, hr, rfl⟩)).1
      rw [← q]; exact this.at fun o e => (sb.2 _ nz).trans e
    · have hlt : c < s.heap.objs.size := by
        rcases List.mem_cons.mp hcm with q | hcm
        · rw [q]; exact Heap.lt_size h1
        rcases List.mem_cons.mp hcm with q | hcm
        · rw [q]; exact Heap.lt_size h2
        rcases List.mem_cons.mp hcm with q | hcm
        · rw [q]; exact Heap.lt_size h3
        obtain ⟨p, hp, e⟩ := List.mem_map.mp hcm
        obtain ⟨o, ho⟩ := (h4 p hp).there
        rw [← e]; exact Heap.lt_size ho
      rw [upd_ne (Nat.ne_of_lt hlt)]
      exact (hf c hcm).1
  done := by
    intro X hP hw hK hc i pins s σ H E I hf st hg
    subst hP hw hK
    obtain ⟨⟨f0, f1, h1, h0⟩, h2, ⟨vs, h3, hl⟩, h4⟩ := st
    obtain ⟨c, cs', ec, xs, q, hle⟩ := hg
    cases ps with
    | nil => exact absurd rfl hne
    | cons p ps =>
      cases ec
      obtain ⟨us, rx, at_⟩ := sq_at I q
      have e : ((p.1, p.2, us.toArray) :: ps.map (fun p => ((p.1, p.2, #[]) : Rc))).map (fun r => (r.1, r.2.1)) = p :: ps := by
        simp [List.map_map, Function.comp_def]
      refine pyNextN_end (r := (p.1, p.2, us.toArray)) (l := ps.map (fun p => ((p.1, p.2, #[]) : Rc))) (I.ok.hd hc) (D.far e) h1 h0 (by rw [keyV e]; exact h2) (h4 p (List.mem_cons_self ..)) at_ ?_ fun h' hk => ⟨rfl, ?_⟩
      · have := rx.length
        simp; omega
      · rw [key1 e] at hk
        exact I.turnedL (t' := s.toks) (ch := z :: TI :: TO :: (p :: ps).map (·.1)) (fun c o hb q => hk c o (fun q' => hb (by simp [q'])) (fun q' => hb (by simp [q'])) (fun q' => hb (List.mem_cons_of_mem _ (List.mem_cons_of_mem _ (List.mem_cons_of_mem _ q')))) q) hf
  self := fun A i s Q E st h => by
    obtain ⟨⟨f0, f1, h1, _⟩, _⟩ := st
    exact pyIterN h1 h

def iZip2 (K : PySem.W.Frag) (ta : TA) : TI := fun σ H R => ta σ H fun vs H1 => ∃ c1 c2 : Src, vs = [.ref c1.2, .ref c2.2] ∧ (∀ c ∈ [c1, c2], ∃ xs, Sq K H1 c xs) ∧ R (ItzN K [c1, c2]) H1
theorem pi_zip2 {X : Cx} {e e2 : Expr} {ta : TA} {p pos tpos : Pos} {elts : List Expr} {kk : Nat} (hg : Gl X "zip") (hm : X.mg "zip" = none) (ha : PA X [e, e2] ta)
    (hs : starEach [e, e2] X.env = (false, eval e X.env) :: starEach [e2] X.env := by rfl) (hpl : (backTo pos (starEach [e2] X.env)).any (·.1) = false := by rfl) :
    PI X (.Tuple elts kk tpos) (.Call (.Name "zip" p) [e, e2] [] pos) (iZip2 X.K ta) := by
  refine ⟨fun pins s σ H R I h => ?_⟩
  refine Call_ (ld_blt I hg hm PyProof.Rows.boot_zip (PyProof.Rows.callWith_type1 (thn (ha.run pos pins s σ H _ I h) fun us s2 ⟨vs, H1, I2, r1, q1⟩ => ?_) hs hpl))
  obtain ⟨c1, c2, ex, hc, q⟩ := q1
  subst ex
  cases r1 with
  | cons r rr =>
    cases rr with
    | cons r' rr =>
      cases rr
      cases r
      cases r'
      have hat : ∀ c ∈ [c1, c2], ∃ xs, SqAt s2.heap c xs := fun c hm => by
        obtain ⟨xs, z⟩ := hc c hm
        obtain ⟨us, _, at_⟩ := sq_at I2 z
        exact ⟨_, at_⟩
      have hl : [c1, c2].length ≤ sizeLine := by show 2 ≤ sizeLine; decide
      have hne : [c1, c2] ≠ [] := List.cons_ne_nil _ _
      show wpAny _ _ (call (.type "zip") ([c1, c2].map fun c => Value.ref c.2)) _ _ _
      generalize [c1, c2] = cs at hat hl hne q ⊢
      refine call_zipN hne hl hat fun h' a1 a2 a3 a4 a5 a6 => ?_
      refine pyIterN a4 ?_
      have I3 : Inv X pins σ H1 { s2 with heap := h' } := I2.kept (t' := s2.toks) a5
      have lne : its s2.heap.objs.size cs ≠ [] := fun q => hne (by have := its_len s2.heap.objs.size cs; rw [q] at this; exact List.length_eq_zero_iff.mp this.symm)
      have lt : ∀ p ∈ its s2.heap.objs.size cs, p.2.2 < s2.heap.objs.size := fun p hp => by
        obtain ⟨xs, z⟩ := hat p.2 (its_ge _ _ p hp).2.2
        obtain ⟨o, ho⟩ := z.there
        exact Heap.lt_size ho
      have D : FarP (s2.heap.objs.size + cs.length + 2) (s2.heap.objs.size + cs.length) (s2.heap.objs.size + cs.length + 1) (its s2.heap.objs.size cs) := by
        refine ⟨its_nd _ _, fun p hp q hq e => ?_, ?_, ?_, ?_, fun p hp => ?_, fun p hp => ?_⟩
        · exact Nat.lt_irrefl _ (Nat.lt_of_lt_of_le (e ▸ lt p hp) (its_ge _ _ q hq).1)
        · exact Nat.ne_of_lt (by omega)
        · exact Nat.ne_of_lt (by omega)
        · exact Nat.ne_of_lt (by omega)
        · have := (its_ge _ _ p hp).2.1
          exact ⟨Nat.ne_of_lt (Nat.lt_of_lt_of_le this (by omega)), Nat.ne_of_lt this, Nat.ne_of_lt (Nat.lt_of_lt_of_le this (by omega))⟩
        · exact ⟨Nat.ne_of_lt (Nat.lt_of_lt_of_le (lt p hp) (by omega)), Nat.ne_of_lt (Nat.lt_of_lt_of_le (lt p hp) (by omega))⟩
      have T := turn_zipM (P := X.prog) (w := X.w) (K := X.K) (elts := elts) (kk := kk) (tpos := tpos) lne (by rw [its_len]; exact hl) D
      rw [its_src] at T
      refine ⟨_, _, _, _, H1, rfl, I3, T, ⟨⟨_, _, a4, .inl rfl⟩, a2, ⟨_, a3, by simp⟩, a1⟩, fun b hb => ?_, q⟩
      have hge : s2.heap.objs.size ≤ b := by
        rcases List.mem_cons.mp hb with q | hb
        · rw [q]; omega
        rcases List.mem_cons.mp hb with q | hb
        · rw [q]; omega
        rcases List.mem_cons.mp hb with q | hb
        · rw [q]; omega
        obtain ⟨p, hp, e⟩ := List.mem_map.mp hb
        rw [← e]; exact (its_ge _ _ p hp).1
      exact I2.fpOk hge (I2.hok.fresh hge)
end ZN

end
section
set_option Elab.async false
set_option linter.all false
set_option maxRecDepth 100000
set_option maxHeartbeats 4000000
/-! SY1: zip of a list and a tuple -/
namespace Sx
open PySem PySem.Spec PyProof.Rows L2 Cl RZ ZN
def iZipM (a : MA) : MI := fun env h k x => a env h (fun vs h1 => match vs with
  | [u, v] => ∃ xs ys, sqV u = some xs ∧ sqV v = some ys ∧ xs.length = ys.length ∧ k (colsM [u, v] xs.length) (fun _ => True) h1
  | _ => False) x
section
variable {X : Cx} {Y : Ky} {W : WX} {ta : TA} {a : MA}
theorem kpi_zip2 {K : PySem.W.Frag} {e e2 : Expr} {p pos tpos : Pos} {elts : List Expr} {kk : Nat} (hK : X.K = K) (hg : Gl X "zip") (hm : X.mg "zip" = none) (ha : PA X [e, e2] ta)
    (hs : starEach [e, e2] X.env = (false, eval e X.env) :: starEach [e2] X.env := by rfl) (hpl : (backTo pos (starEach [e2] X.env)).any (·.1) = false := by rfl) :
    PI X (.Tuple elts kk tpos) (.Call (.Name "zip" p) [e, e2] [] pos) (iZip2 K ta) := by subst hK; exact pi_zip2 hg hm ha hs hpl
theorem si_zipM (s : SA Y W ta a) : SI Y W (iZip2 Y.K ta) (iZipM a) := fun μ env h σ H R q x z hm kq kx =>
  s μ env h σ H _ _ x z hm (fun vs h1 k μ1 Us H1 e1 r1 v1 => by
    match vs, k with
    | [u, v], ⟨xs, ys, eu, ev, hl, k⟩ =>
      have hn : ∀ d ∈ [u, v], ∃ zs, sqV d = some zs ∧ zs.length = xs.length := fun d hd => by
        simp only [List.mem_cons, List.not_mem_nil, or_false] at hd
        rcases hd with rfl | rfl
        · exact ⟨_, eu, rfl⟩
        · exact ⟨_, ev, hl.symm⟩
      obtain ⟨cs, ecs, hcl, hcs⟩ := vrs_sqs v1 fun d hd => let ⟨xs, q, _⟩ := hn d hd; ⟨xs, q⟩
      match cs, hcl with
      | [c1, c2], hcl =>
        refine ⟨c1, c2, ecs, fun c hc => ?_, kq _ _ _ k μ1 _ H1 e1 r1 (wk_zipS (h := h1) (vs := Us) hn (List.cons_ne_nil _ _) hcl hcs)⟩
        obtain ⟨j, hj⟩ := List.getElem?_of_mem hc
        obtain ⟨d, ws, _, q, _⟩ := hcs j c hj
        exact ⟨ws, q H1 hid_le⟩) kx
theorem di_zipM {e1 e2 : Expr} {p pos tpos : Pos} {elts : List Expr} {kk : Nat} (hK : X.K = Y.K) (hg : Gl X "zip") (hm : X.mg "zip" = none) (ha : DA X Y W [e1, e2] a)
    (hs : starEach [e1, e2] X.env = (false, eval e1 X.env) :: starEach [e2] X.env := by rfl) (hpl : (backTo pos (starEach [e2] X.env)).any (·.1) = false := by rfl) :
    DI X Y W (.Tuple elts kk tpos) (.Call (.Name "zip" p) [e1, e2] [] pos) (iZipM a) := by
  obtain ⟨ta, b1, b2⟩ := ha
  exact ⟨_, kpi_zip2 hK hg hm b1 hs hpl, si_zipM b2⟩
end
end Sx

end
section
set_option Elab.async false
set_option linter.all false
set_option maxRecDepth 100000
set_option maxHeartbeats 4000000
/-! SY2: == and != by an own __eq__; isinstance(x, C) -/
namespace Sx
open PySem PySem.Spec PyProof.Rows L2 Cl RZ ZN
section
variable {prog : Program} {w : World} {A : Around} {E : Value → Shared → Prop} {s : Shared} {K : PySem.W.Frag} {x C f : Addr} {ox : Obj} {od : Option Obj} {b tb : Value}
theorem rc_own {op : CmpOp} {Q : Value → Shared → Prop} (hu : A.units < cLine) (X : K.In s.heap) (I : PySem.W.InstAt s.heap x ox C od) (hb : PySem.W.Looks (model prog w) s.heap (typeOf b) tb) (hn : PySem.W.notFirst K C tb = true)
    (one : wpAny (model prog w) A (tryCompare (.ref x) (cmpInfo op).2.1 b) (fun r s' => ∃ v, r = some v ∧ Q v s') E s) : wpAny (model prog w) A (richCompare op (.ref x) b) Q E s := by
  unfold richCompare
  simp only [oneThing_ref]
  refine wpAny_holding (wpAny_bind (wpAny_cRoomFor hu ?_))
  refine wpAny_bind (I.type.here (wpAny_bind (hb.here ?_)))
  split
  · rename_i q
    have e : PySem.W.subIn K tb (.ref C) = some false := by
      rcases Bool.or_eq_true_iff.mp hn with e | e
      · rw [beq_iff_eq.mp e] at q; simp at q
      · exact beq_iff_eq.mp e
    refine wpAny_bind ((PySem.W.looks_subIn X e).here ?_)
    simp only [Bool.false_eq_true, if_false]
    refine wpAny_bind (wpAny_mono one (fun r s' z => ?_) fun _ _ e => e)
    obtain ⟨v, rfl, hq⟩ := z
    exact wpAny_pure hq
  · refine wpAny_bind (wpAny_pure ?_)
    simp only [Bool.false_eq_true, if_false]
    refine wpAny_bind (wpAny_mono one (fun r s' z => ?_) fun _ _ e => e)
    obtain ⟨v, rfl, hq⟩ := z
    exact wpAny_pure hq
theorem try_eq {Q : Value → Shared → Prop} (X : K.In s.heap) (I : PySem.W.InstAt s.heap x ox C od) (hs : PySem.W.findIn K (.ref C) "__eq__" = some (some (.ref f))) (hf : PySem.W.isFn K (.ref f) = true)
    (h : wpAny (model prog w) A (call (.ref f) [.ref x, b]) (fun v s' => ∃ c, v = .bool c ∧ Q (.bool c) s') E s) : wpAny (model prog w) A (tryCompare (.ref x) (cmpInfo .Eq).2.1 b) (fun r s' => ∃ v, r = some v ∧ Q v s') E s := by
  unfold tryCompare
  refine wpAny_bind (PySem.W.ifBound_K X I hs hf (wpAny_mono h (fun v s' hv => ?_) fun _ _ e => e))
  obtain ⟨c, rfl, hq⟩ := hv
  exact wpAny_pure ⟨_, rfl, hq⟩
theorem ifBound_objNe {M : Model} {args : List Value} {Q : Option Value → Shared → Prop} (X : K.In s.heap) (I : PySem.W.InstAt s.heap x ox C od) (hs : PySem.W.findIn K (.ref C) "__ne__" = some (some (.builtin "object.__ne__")))
    (h : wpAny M A (call (.builtin "object.__ne__") (.ref x :: args)) (fun v => Q (some v)) E s) : wpAny M A (callSpecialIfBound? (.ref x) "__ne__" args) Q E s := by
  simp only [callSpecialIfBound?, bindSpecialIfBound?]
  refine wpAny_holding (wpAny_bind (wpAny_bind (wpAny_bind (I.type.here ((PySem.W.looks_findIn X hs).here ?_)))))
  refine wpAny_bind (wpAny_askSetting (wpAny_ite ?_))
  have fin : wpAny M A (call (.builtin "object.__ne__") ([.ref x] ++ args) >>= fun v => pure (some v)) Q E s := wpAny_bind (wpAny_mono h (fun v s' h' => wpAny_pure h') fun _ _ h' => h')
  split
  · exact wpAny_bind (wpAny_of_eq (F.cmp_object.ne.bind _) (wpAny_pure (by exact fin)))
  · exact wpAny_tryCatch (wpAny_bind (wpAny_of_eq (F.cmp_object.ne.bind _) (wpAny_pure (by exact fin))))
theorem objNe_K {Q : Fin → Shared → Prop} (hu : A.units < cLine) (X : K.In s.heap) (I : PySem.W.InstAt s.heap x ox C od) (hs : PySem.W.findIn K (.ref C) "__eq__" = some (some (.ref f))) (hf : PySem.W.isFn K (.ref f) = true)
    (h : wpAny (model prog w) A (call (.ref f) [.ref x, b]) (fun v s' => ∃ c, v = .bool c ∧ Q (.done (.ret (.bool (!c)))) s') E s) : wpAny (model prog w) A (Builtin.«object.__ne__» ⟨[.ref x, b], []⟩) Q E s := by
  unfold Builtin.«object.__ne__»
  repeat (first
    | with_reducible refine wpAny_cRoomFor hu ?_
    | (refine wpAny_bind (m := callSpecialIfBound? (.ref x) (Str.ofString "__eq__") [b])
        (PySem.W.ifBound_K X I hs hf (wpAny_mono h (fun r s' hr => by
          obtain ⟨c, rfl, hq⟩ := hr
          repeat (first | exact hq | exact wpAny_pure hq | exact wpAny_truthy_bool hq | (refine wpAny_bind (m := truthy (.bool _)) (wpAny_truthy_bool ?_)) | wp_step)) fun _ _ e => e)))
    | wp_step)
theorem try_ne {Q : Value → Shared → Prop} (hu : A.units + 1 < cLine) (X : K.In s.heap) (I : PySem.W.InstAt s.heap x ox C od) (hne : PySem.W.findIn K (.ref C) "__ne__" = some (some (.builtin "object.__ne__"))) (hm : PySem.W.mroIn K C (.type "object") = some true)
    (hs : PySem.W.findIn K (.ref C) "__eq__" = some (some (.ref f))) (hf : PySem.W.isFn K (.ref f) = true)
    (h : wpAny (model prog w) A.in1 (call (.ref f) [.ref x, b]) (fun v s' => ∃ c, v = .bool c ∧ Q (.bool (!c)) s') E s) : wpAny (model prog w) A (tryCompare (.ref x) (cmpInfo .NotEq).2.1 b) (fun r s' => ∃ v, r = some v ∧ Q v s') E s := by
  unfold tryCompare
  refine wpAny_bind (ifBound_objNe X I hne (wpAny_call (codeAny_call_builtin F.cmp_object.ne.plain F.cmpEntry_ne (PySem.W.check_slot F.cmpKind_ne F.cmpSplit_ne (I.type.andThen (PySem.W.looks_mroIn X hm)) (F.cmpArgs_ne _ _) (objNe_K (A := A.in1) hu X I hs hf (wpAny_mono h (fun v s' hv => ?_) fun _ _ e => e))))))
  obtain ⟨c, rfl, hq⟩ := hv
  first | exact ⟨c, rfl, wpAny_pure ⟨_, rfl, hq⟩⟩ | exact ⟨c, rfl, ⟨_, rfl, hq⟩⟩
end
end Sx

end
section
set_option Elab.async false
set_option linter.all false
set_option maxRecDepth 100000
set_option maxHeartbeats 4000000
/-! SY3: own == and !=, isinstance(x, C) over plain values -/
namespace Sx
open PySem PySem.Spec PyProof.Rows L2 Cl RZ ZN
structure EqF (K : PySem.W.Frag) (C : Addr) : Prop where
  ha : PySem.W.findIn K (.ref C) "__class__" = some (some (.builtin "object.__class__"))
  hn : PySem.W.specialIn K (.builtin "object.__class__") "__get__" = some (some (.builtin "getset_descriptor.__get__"))
  htk : PySem.W.takesIn K (.builtin "object.__class__") = some true
  hm : PySem.W.mroIn K C (.type "object") = some true
  cls : ((PySem.W.clsIn K C).isSome && PySem.W.typeIn K (.ref C) == some (.type "type")) = true
  ne : PySem.W.findIn K (.ref C) "__ne__" = some (some (.builtin "object.__ne__"))
def TnS : List String := ["NoneType", "list", "str", "int", "bool", "tuple"]
theorem sub_ty {K : PySem.W.Frag} {C : Addr} {t : String} (ht : t ∈ TnS) : PySem.W.subIn K (.type t) (.ref C) = some false := by
  have e : ∀ t ∈ TnS, ∃ ms : List String, fastBuiltinMro t = some (ms.map Value.type) := by
    intro t ht
    unfold TnS at ht
    simp only [List.mem_cons, List.not_mem_nil, or_false] at ht
    rcases ht with rfl | rfl | rfl | rfl | rfl | rfl
    · exact ⟨["NoneType", "object"], by decide +kernel⟩
    · exact ⟨["list", "object"], by decide +kernel⟩
    · exact ⟨["str", "object"], by decide +kernel⟩
    · exact ⟨["int", "object"], by decide +kernel⟩
    · exact ⟨["bool", "int", "object"], by decide +kernel⟩
    · exact ⟨["tuple", "object"], by decide +kernel⟩
  obtain ⟨ms, em⟩ := e t ht
  show (fastBuiltinMro t).map (·.contains (.ref C)) = some false
  rw [em]
  show some ((ms.map Value.type).contains (.ref C)) = some false
  have : (ms.map Value.type).contains (.ref C) = false := by
    cases z : (ms.map Value.type).contains (Value.ref C) with
    | false => rfl
    | true =>
      have := List.contains_iff_mem.mp z
      obtain ⟨_, _, w⟩ := List.mem_map.mp this
      cases w
  rw [this]
/-- u == v, u != v for things of the class at C -/
def rOwn2 (K : PySem.W.Frag) (C : Addr) (sp : Sp) (neg : Bool) : R2 := fun u v H Q => ∃ a dx fs t, u = .ref a ∧ H a = some (.ins C dx fs) ∧ TyX K H v t ∧ PySem.W.notFirst K C t = true ∧
  sp [u, v] H (fun y H2 => ∃ b : Bool, y = .bl b ∧ Q (.bl (if neg then !b else b)) H2) (fun _ _ _ => False)
section
variable {X : Cx} {Y : Ky} {W : WX} {k : Nat} {c m : Str} {C f : Addr} {F : MF} {sp : Sp}
theorem own_run2 {pins : List (Addr × Obj)} {σ : L2.St} {H : Hp} {s : Shared} {a : Addr} {y : V} {u : Value} {Q : VK} {A : Around} (D : FnA X.prog X.w X.K X.mg X.base k f [] sp) (hr : Room k A) (I : Inv X pins σ H s) (hA : A = X.A ∨ A = X.A.in1) (ry : RelV y u) (h : sp [.ref a, y] H Q (fun _ _ _ => False)) :
    wpAny (model X.prog X.w) A (call (.ref f) [.ref a, u]) (EP X pins σ Q) X.xe s := by
  rcases hA with rfl | rfl
  · refine wpAny_call (codeAny_mono (D X.A X.stack s H [.ref a, u] [] [.ref a, y] [] Q (fun _ _ _ => False) hr I.env0 (.cons rfl (.cons ry .nil)) .nil rfl (by rw [List.append_nil]; exact h)) fun r s' hq => ?_)
    cases r with
    | error er =>
      obtain ⟨_, _, _, _, _, _, _, _, _, _, _, _, z⟩ := hq
      exact z.elim
    | ok fl =>
      cases fl with
      | ret u => exact I.after hq
      | next => exact False.elim hq
      | brk => exact False.elim hq
      | cont => exact False.elim hq
  · refine wpAny_call (codeAny_mono (D X.A.in1 X.stack s H [.ref a, u] [] [.ref a, y] [] Q (fun _ _ _ => False) hr I.env0.in1 (.cons rfl (.cons ry .nil)) .nil rfl (by rw [List.append_nil]; exact h)) fun r s' hq => ?_)
    cases r with
    | error er =>
      obtain ⟨_, _, _, _, _, _, _, _, _, _, _, _, z⟩ := hq
      exact z.elim
    | ok fl =>
      cases fl with
      | ret u => exact I.after hq
      | next => exact False.elim hq
      | brk => exact False.elim hq
      | cont => exact False.elim hq
theorem op_ownEq (hm : Meth X.K C "__eq__" f) (D : FnA X.prog X.w X.K X.mg X.base k f [] sp) (hr : Room k X.A) : OpR X (compareOp .Eq) (rOwn2 X.K C sp false) := by
  rintro pins s σ H x y v u Q I rx ry ⟨a, dx, fs, t, rfl, ea, ty, hn, h⟩
  obtain rfl : v = Value.ref a := rx
  obtain ⟨mA, O, _⟩ := ins_get I.hok ea
  obtain ⟨od, J, _⟩ := O.look
  obtain ⟨P, Z, p, _⟩ := kit_of I ry ty
  have hu : X.A.units < cLine := by have := hr.un; omega
  unfold compareOp
  refine rc_own hu I.kIn J (Z.ty _ _ I.kIn p) hn (try_eq I.kIn J hm.at_ hm.fn (wpAny_mono (own_run2 D hr I (.inl rfl) ry h) (fun r s' hq => ?_) fun _ _ e => e))
  obtain ⟨v, H', I', rv, b, rfl, q⟩ := hq
  cases (show r = Value.bool b from rv)
  exact ⟨b, rfl, .bl b, H', I', rfl, q⟩
theorem op_ownNe (e : EqF X.K C) (hm : Meth X.K C "__eq__" f) (D : FnA X.prog X.w X.K X.mg X.base k f [] sp) (hr : Room (k + 1) X.A) : OpR X (compareOp .NotEq) (rOwn2 X.K C sp true) := by
  rintro pins s σ H x y v u Q I rx ry ⟨a, dx, fs, t, rfl, ea, ty, hn, h⟩
  obtain rfl : v = Value.ref a := rx
  obtain ⟨mA, O, _⟩ := ins_get I.hok ea
  obtain ⟨od, J, _⟩ := O.look
  obtain ⟨P, Z, p, _⟩ := kit_of I ry ty
  have hu : X.A.units + 1 < cLine := by have := hr.un; omega
  unfold compareOp
  refine rc_own (by omega) I.kIn J (Z.ty _ _ I.kIn p) hn (try_ne hu I.kIn J e.ne e.hm hm.at_ hm.fn (wpAny_mono (own_run2 D hr.in1 I (.inr rfl) ry h) (fun r s' hq => ?_) fun _ _ e => e))
  obtain ⟨v, H', I', rv, b, rfl, q⟩ := hq
  cases (show r = Value.bool b from rv)
  exact ⟨b, rfl, .bl (!b), H', I', rfl, q⟩
/-! ### over plain values -/
def plTy (c : Str) (h : Mh) (v : Val) : Prop := (∃ fs, insOf h v = some (c, fs)) ∨ ∃ t, tyM h v = some t ∧ t ∈ TnS
def oOwn2 (c : Str) (F : MF) (neg : Bool) : MO := fun u v h q => (∃ fs, insOf h u = some (c, fs)) ∧ plTy c h v ∧ F [u, v] h (fun y h' => ∃ b : Bool, y = .bl b ∧ q (.bl (if neg then !b else b)) h') F0
theorem pl_ty {μ : Mp} {h : Mh} {H : Hp} {U : V} {v : Val} (hc : Y.cm c = some C) (cl : Cls Y.K C) (e : EqF Y.K C) (r : Rel Y μ h H) (a : VR Y μ (vis μ H) U v) (p : plTy c h v) : ∃ t, TyX Y.K H U t ∧ PySem.W.notFirst Y.K C t = true ∧ ((∃ fs, insOf h v = some (c, fs)) → t = .ref C) ∧ ((∃ t', tyM h v = some t' ∧ t' ∈ TnS) → ∃ t' ∈ TnS, t = .type t') := by
  have no : (∃ fs, insOf h v = some (c, fs)) → (∃ t', tyM h v = some t' ∧ t' ∈ TnS) → False := fun ⟨fs, e1⟩ ⟨t', e2, _⟩ => by
    cases v with
    | ref n =>
      unfold insOf at e1
      unfold tyM at e2
      dsimp only at e1 e2
      cases hn : h[n]? with
      | none => rw [hn] at e1; cases e1
      | some cc => rw [hn] at e1 e2; cases cc <;> first | cases e1; done | (cases e2; done)
    | obj => cases e2
    | _ => cases e1
  rcases p with ⟨fs, ei⟩ | ⟨t, et, ht⟩
  · obtain ⟨a', C', dx, fs', rfl, cm, ea, _⟩ := rd_ins r a ei
    rw [hc] at cm; cases cm
    exact ⟨.ref C, .base (.ins ea cl e.ha e.hn e.htk e.hm), by unfold PySem.W.notFirst; simp, fun _ => rfl, fun z => (no ⟨fs, ei⟩ z).elim⟩
  · exact ⟨.type t, rd_ty r a et, by unfold PySem.W.notFirst; rw [sub_ty ht]; simp, fun z => (no z ⟨t, et, ht⟩).elim, fun _ => ⟨t, ht, rfl⟩⟩
theorem so_own2 {neg : Bool} (hc : Y.cm c = some C) (cl : Cls Y.K C) (e : EqF Y.K C) : SO Y (rOwn2 Y.K C (spA Y F) neg) (oOwn2 c F neg) := fun μ h H U V' u v Q q r a b hf kq => by
  obtain ⟨⟨gs, ei⟩, p, k⟩ := hf
  obtain ⟨a', C', dx, fs, rfl, cm, ea, _⟩ := rd_ins r a ei
  rw [hc] at cm; cases cm
  obtain ⟨t, ty, nf, _⟩ := pl_ty hc cl e r b p
  exact ⟨a', dx, fs, t, rfl, ea, ty, nf, ⟨μ, h, [u, v], _, F0, r, .cons a (.cons b .nil), k, fun y h' ⟨bb, e1, k2⟩ μ' U' H' e' r' v' => by subst e1; cases v'; exact ⟨bb, rfl, (kq _ _ k2) μ' _ H' e' r' (.bl _)⟩, fun _ _ z => z.elim⟩⟩
/-- the class named c with its own == -/
def EqC (Y : Ky) (mg : Str → Option Value) (c : Str) : Prop := ∃ C, mg c = some (.ref C) ∧ Y.cm c = some C ∧ Cls Y.K C ∧ EqF Y.K C
theorem eqc_f {mg : Str → Option Value} (e : EqC Y mg c) : ∀ C, Y.cm c = some C → Cls Y.K C ∧ EqF Y.K C := fun C h => by
  obtain ⟨C', _, h2, cl, f⟩ := e
  rw [h2] at h; cases h; exact ⟨cl, f⟩
theorem od_ownEq (hK : X.K = Y.K) (e : EqC Y X.mg c) (D : MdA X.prog X.w Y X.mg X.base c "__eq__" k [] (spA Y F)) (hr : Room (k + 1) X.A) : OpD X Y (compareOp .Eq) (oOwn2 c F false) := by
  obtain ⟨C, hc, cl, f, D, hm⟩ := D
  have eq := (eqc_f e C hc).2
  have D' := D
  rw [← hK] at D hm
  exact ⟨_, hK ▸ op_ownEq hm D (hr.mono (Nat.le_succ k)), so_own2 hc cl eq⟩
theorem od_ownNe (hK : X.K = Y.K) (e : EqC Y X.mg c) (D : MdA X.prog X.w Y X.mg X.base c "__eq__" k [] (spA Y F)) (hr : Room (k + 1) X.A) : OpD X Y (compareOp .NotEq) (oOwn2 c F true) := by
  obtain ⟨C, hc, cl, f, D, hm⟩ := D
  have eq := (eqc_f e C hc).2
  have eq' := eq
  rw [← hK] at D hm eq'
  exact ⟨_, hK ▸ op_ownNe eq' hm D hr, so_own2 hc cl eq⟩
/-! ### isinstance(x, C) -/
def fIsiO (c : Str) : MC := fun us h q => match us with
  | [v, .cls c'] => c' = c ∧ ((∃ fs, insOf h v = some (c, fs)) ∧ q (.bl true) h ∨ (∃ t, tyM h v = some t ∧ t ∈ TnS) ∧ q (.bl false) h)
  | _ => False
theorem cd_isiO (hK : X.K = Y.K) (hF : EqC Y X.mg c) : CaD X Y (.builtin "isinstance") (fIsiO c) := ⟨_, kc_isi hK, fun μ h H Us us Q q r t hf kq => by
  match us, hf with
  | [v, .cls c'], ⟨e0, hf⟩ =>
    subst e0
    obtain ⟨U, U', rfl, a, b'⟩ := vrs2 t
    cases b' with
    | @cls _ C hc =>
      obtain ⟨cl, e⟩ := eqc_f hF C hc
      rcases hf with ⟨p, k⟩ | ⟨p, k⟩
      · obtain ⟨t, ty, _, h1, _⟩ := pl_ty hc cl e r a (.inl p)
        have := h1 p
        subst this
        exact ⟨U, .ref C, .ref C, .ref C, true, rfl, .own C, ty, by unfold PySem.W.kitOne; simp, (kq _ _ k).here r (.bl _)⟩
      · obtain ⟨t, ty, _, _, h2⟩ := pl_ty hc cl e r a (.inr p)
        obtain ⟨t', ht, rfl⟩ := h2 p
        refine ⟨U, .ref C, .type t', .ref C, false, rfl, .own C, ty, ?_, (kq _ _ k).here r (.bl _)⟩
        unfold PySem.W.kitOne
        rw [if_neg (by simp)]
        show (if ((PySem.W.clsIn Y.K C).isSome && PySem.W.typeIn Y.K (.ref C) == some (.type "type")) = true then PySem.W.subIn Y.K (.type t') (.ref C) else none) = some false
        rw [if_pos e.cls, sub_ty ht]⟩
theorem de_clsE {x : Str} {pos : Pos} (h : EqC Y X.mg x) (hg : Gl X x) (hd : (x == ("__debug__" : Str)) = false := by decide) : DE X Y W (.Name x pos) (eC (.cls x)) := by
  obtain ⟨C, h1, h2, _⟩ := h
  exact de_cls h1 h2 hg hd
end
end Sx

end
section
set_option Elab.async false
set_option linter.all false
set_option maxRecDepth 100000
set_option maxHeartbeats 4000000
/-! SY4: an attribute as a target among others -/
namespace Sx
open PySem PySem.Spec PyProof.Rows L2 Cl RZ ZN
def gFld (K : PySem.W.Frag) (ta : TE) (f : Str) : TG := fun v σ H Q => ta σ H fun x H1 => ∃ a C dx fs, x = .ref a ∧ H1 a = some (.ins C dx fs) ∧ Cls K C ∧ NoAttr K C f ∧ fs.length < 1000 ∧ Q σ (upd H1 a (.ins C dx (putF f v fs)))
def mFldT (cs : List Str) (mo : ME) (f : Str) : MG := fun v env h q => mo env h (fun o h1 => match o with
  | .ref n => ∃ c fs, h1[n]? = some (.ins c fs) ∧ c ∈ cs ∧ fs.length < 1000 ∧ q env (h1.set n (.ins c (putM f v fs)))
  | _ => False) F0
section
variable {X : Cx} {Y : Ky} {W : WX} {ta : TE} {ma : ME} {o : Expr} {f : Str} {pos : Pos} {cs : List Str}
theorem pg_fld (ho : PE X o ta) : PG X (.Attribute o f pos) (gFld X.K ta f) := by
  refine ⟨fun pins s σ H v u Q I r h => ?_⟩
  rw [assign_Attribute]
  refine wpAny_bind (wpAny_holding (thn (ho.run pins s σ H _ I h) fun ov s1 ⟨x, H1, I1, rx, a, C, dx, fs, ex, ea, c, n, l, q⟩ => ?_))
  subst ex
  obtain rfl : ov = Value.ref a := rx
  refine wpAny_bind (wpAny_standAt (wpAny_bind (wpAny_holding (setattr_ok I1 ea c n l r fun s3 I3 => ?_))))
  exact wpAny_release ⟨σ, _, I3, q⟩
theorem sg_fld (hc : ∀ c ∈ cs, FldOk Y f c) (a : SE Y W ta ma) : SG Y [] (gFld Y.K ta f) (mFldT cs ma f) := fun μ env h σ H v x Q q z rv hm k =>
  a μ env h σ H _ _ F0 z hm (fun ov h1 k1 μ1 U H1 e1 r1 v1 => by
    cases ov with
    | ref n =>
      obtain ⟨c, gs, ec, hcc, hl, k2⟩ := k1
      cases v1 with
      | ref q' =>
        have := r1.at_ _ _ _ q' ec
        cases this with
        | @ins C dx _ fs _ cm ea k3 t1 =>
          obtain ⟨cl, na⟩ := hc c hcc C cm
          have hfl : fs.length < 1000 := by
            have := congrArg List.length k3
            simp at this; omega
          refine ⟨_, C, dx, fs, rfl, ea, cl, na, hfl, ?_⟩
          obtain ⟨i1, i2⟩ := put_rel (f := f) (rv.mono e1.le) k3 t1
          have eu := e1.trans (.put (o := .ins C dx (putF f v fs)) q')
          exact k _ _ k2 μ1 σ _ eu (z.go eu (r1.put q' fun ev => .ins cm upd_same i1 (by rw [ev]; exact i2))) fun _ _ => rfl
    | _ => exact k1.elim) fun _ _ z => z.elim
theorem dg_fld (hK : X.K = Y.K) (hc : ∀ c ∈ cs, FldOk Y f c) (ho : DE X Y W o ma) : DG X Y [] (.Attribute o f pos) (mFldT cs ma f) := by
  obtain ⟨t, a1, a2⟩ := ho
  exact ⟨_, hK ▸ pg_fld a1, sg_fld hc a2⟩
end
end Sx

end
section
set_option Elab.async false
set_option linter.all false
set_option maxRecDepth 100000
set_option maxHeartbeats 4000000
/-! SY5: str(o) by the class's own def -/
namespace Sx
open PySem PySem.Spec PyProof.Rows L2 Cl RZ ZN
section
variable {X : Cx} {Y : Ky} {W : WX} {k : Nat} {c m : Str} {C f : Addr} {F : MF} {sp : Sp}
theorem own_run5 {pins : List (Addr × Obj)} {σ : L2.St} {H : Hp} {s : Shared} {a : Addr} {Q : VK} (D : FnA X.prog X.w X.K X.mg X.base k f [] sp) (hr : Room (k + 2) X.A) (I : Inv X pins σ H s) (h : sp [.ref a] H Q (fun _ _ _ => False)) :
    wpAny (model X.prog X.w) X.A.in1.in1 (call (.ref f) [.ref a]) (EP X pins σ Q) X.xe s := by
  refine wpAny_call (codeAny_mono (D X.A.in1.in1 X.stack s H [.ref a] [] [.ref a] [] Q (fun _ _ _ => False) hr.in1.in1 I.env0.in1.in1 (.cons rfl .nil) .nil rfl (by rw [List.append_nil]; exact h)) fun r s' hq => ?_)
  cases r with
  | error er =>
    obtain ⟨_, _, _, _, _, _, _, _, _, _, _, _, z⟩ := hq
    exact z.elim
  | ok fl =>
    cases fl with
    | ret u => exact I.after hq
    | next => exact False.elim hq
    | brk => exact False.elim hq
    | cont => exact False.elim hq
theorem cr_strO (c : Cls X.K C) (hm : Meth X.K C "__str__" f) (D : FnA X.prog X.w X.K X.mg X.base k f [] sp) (hr : Room (k + 2) X.A) : CallR X (.type "str") (rOwn C sp isStrV) := by
  rintro pins s σ H xs us Q I r ⟨a, dx, fs, rfl, ea, h⟩
  cases r with
  | cons ra rn =>
    cases rn
    rename_i u0
    obtain rfl : u0 = Value.ref a := ra
    obtain ⟨mA, O, _, _, _, _⟩ := ins_get I.hok ea
    obtain ⟨od, J, _⟩ := O.look
    have hu : X.A.in1.in1.units < cLine := by have := hr.un; show X.A.units + 1 + 1 < _; omega
    refine PySem.W.kso_call hu I.kIn J hm.at_ hm.fn (wpAny_mono (own_run5 D hr I h) (fun r s' hr => ?_) fun _ _ y => y)
    obtain ⟨v, H', I', rv, ⟨x, rfl⟩, q⟩ := hr
    obtain ⟨t, rfl⟩ := (show ∃ t, r = Value.str x t from rv)
    exact ⟨.str x, H', I', ⟨_, rfl⟩, q⟩
theorem cd_strO (hK : X.K = Y.K) (D : MdA X.prog X.w Y X.mg X.base c "__str__" k [] (spA Y F)) (hr : Room (k + 2) X.A) : CaD X Y (.type "str") (fOwn c F isStrM) := by
  obtain ⟨C, hc, cl, f, D, hm⟩ := D
  rw [← hK] at cl D hm
  exact ⟨_, cr_strO cl hm D hr, sc_own hc fun μ G v y r ⟨n, e⟩ => by subst e; cases r; exact ⟨n, rfl⟩⟩
end
end Sx

end
section
set_option Elab.async false
set_option linter.all false
set_option maxRecDepth 100000
set_option maxHeartbeats 2000000
/-! RC5: defaults that are (): by position, by keyword alone, keywords in another order -/
namespace Sx
open PySem PySem.Spec PyProof.Rows L2 Cl RZ ZN
/-- () among the module's constants -/
def KEmp (K : PySem.W.Frag) (a : Addr) : Prop := ∃ (o : Obj) (n : Nat), K.lookup a = some o ∧ o.cls = .type "tuple" ∧ o.data = .seq #[] n
theorem KEmp.vr {Y : Ky} {μ : Mp} {G : Hp} {a : Addr} (k : KEmp Y.K a) : VR Y μ G (.ref a) (.tup []) :=
  let ⟨o, n, h1, h2, h3⟩ := k
  .tup (.inr ⟨o, #[], n, h1, h2, h3, by decide, .nil⟩) .nil
def TpE2 (K : PySem.W.Frag) (mg : Str → Option Value) (x : Str) (st : Stmt) : Prop := ∃ f fd e1 e2, FunD K x x (defArgs st) (defBody st) (defScope st) [.ref e1, .ref e2] [] f fd ∧ KEmp K e1 ∧ KEmp K e2 ∧ mg x = some (.ref f)
def TpW2 (K : PySem.W.Frag) (mg : Str → Option Value) (x : Str) (st : Stmt) (k1 k2 : Str) : Prop := ∃ f fd e1 e2, FunD K x x (defArgs st) (defBody st) (defScope st) [] [(k1, .ref e1), (k2, .ref e2)] f fd ∧ KEmp K e1 ∧ KEmp K e2 ∧ mg x = some (.ref f)
theorem fund_mk2 {K : PySem.W.Frag} {x qual : Str} {st : Stmt} {f : Addr} {oc : Value} {od an : Option Addr} {osl : Array (Option Value)} {kV doc pm cdv ct : Value} {T e1 e2 : Addr} {o : Obj} {n : Nat} (l : K.lookup f = some ⟨oc, od, .func (PySem.W.fnOf x qual (defArgs st) (defBody st) (defScope st) (.ref T) kV doc pm an cdv ct), osl⟩)
    (c : PySem.W.codeIn K cdv qual = true) (k : PySem.W.keepIn K (.ref f) = true) (hT : K.lookup T = some o) (hd : o.data = .seq #[.ref e1, .ref e2] n) : FunD K x qual (defArgs st) (defBody st) (defScope st) [.ref e1, .ref e2] [] f (PySem.W.fnOf x qual (defArgs st) (defBody st) (defScope st) (.ref T) kV doc pm an cdv ct) :=
  ⟨⟨oc, od, .ref T, kV, doc, pm, an, cdv, ct, osl, rfl, l, c, .inr ⟨by simp, T, o, [.ref e1, .ref e2], n, rfl, hT, hd, .cons rfl (.cons rfl .nil)⟩, .inl rfl⟩, k⟩
section
variable {P : Program} {w : World} {K : PySem.W.Frag} {mg : Str → Option Value} {base : Heap} {k n m n' : Nat} {f : Addr} {fd : FuncData} {N ps ks : List Str} {Y : Ky} {F' : MF} {x qual : Str} {st : Stmt} {b : MS} {dvs : List V} {kws : List (Str × V)}
theorem fn_okD (F : FunD K x qual (defArgs st) (defBody st) (defScope st) dvs kws f fd) (S : FnScope N ps (defScope st)) (hn : ps.length = n) (hN : N.length = n') (hb : ∀ (cdv : Value) (A : Around) (outer : List Env) (s : Shared) (H : Hp) (E : XK), Room k (A.deeper (envOfC qual (defScope st) s.heap.objs.size f cdv)) →
      Takes (cxOf (L2.CX P w) P w K mg base N qual (defScope st) f cdv A outer s H E) (WO E) → PassesOwn (model P w) (A.deeper (envOfC qual (defScope st) s.heap.objs.size f cdv)) (envOfC qual (defScope st) s.heap.objs.size f cdv) (cxOf (L2.CX P w) P w K mg base N qual (defScope st) f cdv A outer s H E).xe →
      DSs (cxOf (L2.CX P w) P w K mg base N qual (defScope st) f cdv A outer s H E) Y (WO E) (defBody st) b) : FnOk P w K mg base (L2.CX P w) (k + 1) f fd ps (spA Y (ar n (fnM n' b))) := by
  subst hN
  refine F.ok S (fun vs H Q E ⟨μ, h, xs, q, x, rl, rv, ⟨hl, _⟩, _⟩ => by rw [rv.length, hl, hn]) fun cdv A outer s H vs Q E hr ⟨μ, h, xs, q, x, rl, rv, ⟨hl, hf⟩, kq, kx⟩ => ?_
  obtain ⟨t, a1, a2⟩ := hb cdv A outer s H E hr (takes_of rfl rfl rfl rfl) (passes_of rfl)
  exact ⟨t, a1, a2 μ _ h _ H _ _ ⟨rl, sr_start rv⟩ hf (sd_end kq kx)⟩
theorem fna_pos0 (F : FnOk P w K mg base (L2.CX P w) k f fd ps (spA Y (ar m F'))) (hb : ∃ ds, Vals ([] : List V) ds ∧ Binds K fd ps ds) (hm : ps.length = m) : FnA P w K mg base k f [] (spA Y (ar m F')) := by
  obtain ⟨ds, rd, hb⟩ := hb
  cases rd
  exact fna_pos F hb hm
theorem vals_rev : ∀ {vs : List V} {us : List Value}, Vals vs us → Vals vs.reverse us.reverse
  | _, _, .nil => .nil
  | _, _, .cons r t => by rw [List.reverse_cons, List.reverse_cons]; exact (vals_rev t).append (.cons r .nil)
theorem vrs_rev {μ : Mp} {G : Hp} : ∀ {vs : List V} {xs : List Val}, VRs Y μ G vs xs → VRs Y μ G vs.reverse xs.reverse
  | _, _, .nil => .nil
  | _, _, .cons r t => by rw [List.reverse_cons, List.reverse_cons]; exact (vrs_rev t).append (.one r)
/-- f(k1 = v): the first of two keeps its default -/
theorem fna_kD1 {k1 : Str} {dM : List Val} (F : FnOk P w K mg base (L2.CX P w) k f fd ps (spA Y (ar m F'))) (hb : ∃ its : List Value, L2.KBn K fd ps 0 [k1] (fun us ws => its.take 1 ++ ws) (fun vs zs => dvs.take 1 ++ zs)) (hd : ∀ (μ : Mp) (G : Hp), VRs Y μ G (dvs.take 1) dM) :
    FnA P w K mg base k f [k1] (spA Y (ar 1 fun xs => ar m F' (dM ++ xs))) := by
  obtain ⟨its, hb⟩ := hb
  refine fna_gen (n := 0) (g := fun l => its.take 1 ++ l) (gV := fun l => dvs.take 1 ++ l) (gM := fun l => dM ++ l) F (fun s us ws X l1 l2 => ?_) (fun vs us r => hb.rel .nil r) fun μ G vs xs r => (hd μ G).append r
  have h := hb.to s us ws X l1 l2
  cases List.length_eq_zero_iff.mp l1
  exact h
/-- f(.., k1 = v1, k2 = v2): in the other order -/
theorem fna_kR {k1 k2 : Str} (F : FnOk P w K mg base (L2.CX P w) k f fd ps (spA Y (ar m F'))) (hb : ∃ mv : List Value, L2.KBn K fd ps n [k1, k2] (fun us ws => us ++ ws.reverse) (fun vs zs => vs ++ zs.reverse)) :
    FnA P w K mg base k f [k1, k2] (spA Y (ar (n + 2) fun xs => ar m F' (xs.take n ++ (xs.drop n).reverse))) := by
  obtain ⟨_, hb⟩ := hb
  refine fna_gen (n := n) (g := fun l => l.take n ++ (l.drop n).reverse) (gV := fun l => l.take n ++ (l.drop n).reverse) (gM := fun l => l.take n ++ (l.drop n).reverse) F (fun s us ws X l1 l2 => ?_) (fun vs us r => (Vals.take n r).append (vals_rev (Vals.drop n r))) fun μ G vs xs r => (r.take n).append (vrs_rev (r.drop n))
  have h := hb.to s us ws X l1 l2
  have e1 : (us ++ ws).take n = us := by rw [← l1, List.take_left']; rfl
  have e2 : (us ++ ws).drop n = ws := by rw [← l1, List.drop_left']; rfl
  show BindsTo s fd ⟨us, [k1, k2].zip ws⟩ (ps.zip ((us ++ ws).take n ++ ((us ++ ws).drop n).reverse))
  rw [e1, e2]
  exact h
end
section
variable {X : Cx} {Y : Ky} {W : WX} {k : Nat} {x : Str} {p pos : Pos} {kws : List Keyword} {ks : List Str} {sp : Sp} {F : MF} {a' : MA}
theorem pe_caK0 {tkw : TA} (D : DfA X.prog X.w X.K X.mg X.base x k ks sp) (hr : Room k X.A) (tk : Takes X W) (hg : Gl X x) (hkw : PK X kws tkw) (hall : (backToKw pos (keywordEach kws X.env)).all (·.1.isSome) = true) (hks : (backToKw pos (keywordEach kws X.env)).filterMap (·.1) = ks)
    (hdb : (x == ("__debug__" : Str)) = false) (hpl : ((backTo pos (starEach [] X.env)).any (·.1) || (backToKw pos (keywordEach kws X.env)).any (·.1.isNone)) = false) :
    PE X (.Call (.Name x p) [] kws pos) (tCAK ks.length sp W tNil tkw) := by
  obtain ⟨f, F, hm, hk⟩ := D
  refine ⟨fun pins s σ H Q I h => ?_⟩
  refine wpAny_Call_Name_kw (ld_glob I hg hm ?_ hdb)
  refine PySem.W.callWith_KW0 (h₀ := X.base) I.ok.mod.kin hk hall ?_ hpl
  refine thn (hkw.run pos pins s σ H _ I h) fun ws s2 ⟨zs, H2, I2, rz, l, q2⟩ => ⟨I2.kIn, ?_⟩
  rw [hks]
  exact run_fna F hr tk I2 (us := []) (vs := []) .nil rz (by rw [← rz.length]; exact l) q2
theorem de_caK0 {n : Nat} (D : DfA X.prog X.w X.K X.mg X.base x k ks (spA Y F)) (hr : Room k X.A) (tk : Takes X W) (hg : Gl X x) (hkw : DK X Y W kws n a') (hn : ks.length = n := by rfl) (hall : (backToKw pos (keywordEach kws X.env)).all (·.1.isSome) = true := by rfl) (hks : (backToKw pos (keywordEach kws X.env)).filterMap (·.1) = ks := by rfl)
    (hdb : (x == ("__debug__" : Str)) = false := by decide) (hpl : ((backTo pos (starEach [] X.env)).any (·.1) || (backToKw pos (keywordEach kws X.env)).any (·.1.isNone)) = false := by rfl) :
    DE X Y W (.Call (.Name x p) [] kws pos) (eCallK F aNil a') := by
  obtain ⟨u, b1, b2, b3⟩ := hkw
  subst hn
  exact ⟨_, pe_caK0 D hr tk hg b1 hall hks hdb hpl, se_caK sa_nil b2 b3⟩
end
/-! ### sorted(l), l a list of texts -/
def fSortS : MC := f1 fun v h q => ∃ xs : List Str, lstOf h v = some (xs.map .str) ∧ xs.length < 64 ∧ ∀ ys : List Str, ys.Perm xs → sortedS ys = true → q (.lst (ys.map .str)) h
section
variable {X : Cx} {Y : Ky}
theorem vrs_strsV {μ : Mp} {G : Hp} : ∀ {xs : List Str} {vs : List V}, VRs Y μ G vs (xs.map .str) → vs = xs.map .str
  | [], _, .nil => rfl
  | x :: xs, _, .cons r t => by
    cases r
    rw [vrs_strsV t]; rfl
theorem vrs_ofS {μ : Mp} {G : Hp} : ∀ xs : List Str, VRs Y μ G (xs.map .str) (xs.map .str)
  | [] => .nil
  | x :: xs => .cons (.str x) (vrs_ofS xs)
theorem cd_sortS (hK : X.K = Y.K) : CaD X Y (.builtin "sorted") fSortS := ⟨_, cr_sortedS, sc_f1 fun μ h H U u Q q r a ⟨xs, e, h64, hq⟩ kq => by
  obtain ⟨p, vs, rfl, h1, t1⟩ := rd_lst r a e
  obtain rfl := vrs_strsV t1
  exact ⟨p, xs, rfl, hK ▸ SqL.of h1, h64, fun ys p' hp hs hn => (kq _ _ (hq ys hp hs)).new r hn fun e s => .lst e (vrs_ofS ys)⟩⟩
end
end Sx

end
section
set_option Elab.async false
set_option linter.all false
set_option maxRecDepth 100000
set_option maxHeartbeats 2000000
namespace Sx
open PySem PySem.Spec PyProof.Rows L2 Cl RZ ZN


def top (i : Nat) : Stmt := PySem.Challenge.pw_cutlore_k14_builders_of_sayings.main.body.getD i (.Pass ⟨0, 0, 0, 0⟩)
abbrev s_law_source : Stmt := top 27
abbrev N_law_source : List Str := ["_law_script"]
theorem sc_law_source : FnScope N_law_source ["_law_script"] (defScope s_law_source) := ⟨rfl, rfl, rfl, by decide +kernel, rfl, by decide +kernel, by decide +kernel⟩
abbrev s_law_draw : Stmt := top 28
abbrev N_law_draw : List Str := ["_law_source_here", "_law_count", "_law_cell", "_law_rest", "_law_twice"]
theorem sc_law_draw : FnScope N_law_draw ["_law_source_here", "_law_count"] (defScope s_law_draw) := ⟨rfl, rfl, rfl, by decide +kernel, rfl, by decide +kernel, by decide +kernel⟩
abbrev s_law_outcome : Stmt := top 32
abbrev N_law_outcome : List Str := ["_law_call", "_law_e"]
theorem sc_law_outcome : FnScope N_law_outcome ["_law_call"] (defScope s_law_outcome) := ⟨rfl, rfl, rfl, by decide +kernel, rfl, by decide +kernel, by decide +kernel⟩
abbrev s_law_fields : Stmt := top 31
abbrev N_law_fields : List Str := ["_law_e"]
theorem sc_law_fields : FnScope N_law_fields ["_law_e"] (defScope s_law_fields) := ⟨rfl, rfl, rfl, by decide +kernel, rfl, by decide +kernel, by decide +kernel⟩
abbrev s_CutloreError__init__ : Stmt := inClass (top 1) 0
abbrev N_CutloreError__init__ : List Str := ["self", "code"]
theorem sc_CutloreError__init__ : FnScope N_CutloreError__init__ ["self", "code"] (defScope s_CutloreError__init__) := ⟨rfl, rfl, rfl, by decide +kernel, rfl, by decide +kernel, by decide +kernel⟩
abbrev s_InvalidView__init__ : Stmt := inClass (top 3) 0
abbrev N_InvalidView__init__ : List Str := ["self"]
theorem sc_InvalidView__init__ : FnScope N_InvalidView__init__ ["self"] (defScope s_InvalidView__init__) := ⟨rfl, rfl, rfl, by decide +kernel, rfl, by decide +kernel, by decide +kernel⟩
abbrev s_claim : Stmt := top 16
abbrev N_claim : List Str := ["had", "lacking"]
theorem sc_claim : FnScope N_claim ["had", "lacking"] (defScope s_claim) := ⟨rfl, rfl, rfl, by decide +kernel, rfl, by decide +kernel, by decide +kernel⟩
abbrev s_law_choice : Stmt := top 29
abbrev N_law_choice : List Str := ["_law_source_here", "_law_items"]
theorem sc_law_choice : FnScope N_law_choice ["_law_source_here", "_law_items"] (defScope s_law_choice) := ⟨rfl, rfl, rfl, by decide +kernel, rfl, by decide +kernel, by decide +kernel⟩
abbrev s_law_letters : Stmt := top 33
abbrev N_law_letters : List Str := []
theorem sc_law_letters : FnScope N_law_letters [] (defScope s_law_letters) := ⟨rfl, rfl, rfl, by decide +kernel, rfl, by decide +kernel, by decide +kernel⟩
abbrev s_law_words : Stmt := top 34
abbrev N_law_words : List Str := ["_law_source_here", "_law_count", "_law_width", "_law_place", "_law_first", "_law_step", "_law_base", "_law_k", "_law_found", "_law_letter"]
theorem sc_law_words : FnScope N_law_words ["_law_source_here", "_law_count", "_law_width"] (defScope s_law_words) := ⟨rfl, rfl, rfl, by decide +kernel, rfl, by decide +kernel, by decide +kernel⟩
abbrev s_law_kinds : Stmt := top 35
abbrev N_law_kinds : List Str := ["_law_source_here"]
theorem sc_law_kinds : FnScope N_law_kinds ["_law_source_here"] (defScope s_law_kinds) := ⟨rfl, rfl, rfl, by decide +kernel, rfl, by decide +kernel, by decide +kernel⟩
abbrev s_law_names : Stmt := top 36
abbrev N_law_names : List Str := ["_law_source_here", "_law_count"]
theorem sc_law_names : FnScope N_law_names ["_law_source_here", "_law_count"] (defScope s_law_names) := ⟨rfl, rfl, rfl, by decide +kernel, rfl, by decide +kernel, by decide +kernel⟩
abbrev s_all_of : Stmt := top 17
abbrev N_all_of : List Str := ["parts"]
theorem sc_all_of : FnScope N_all_of ["parts"] (defScope s_all_of) := ⟨rfl, rfl, rfl, by decide +kernel, rfl, by decide +kernel, by decide +kernel⟩
abbrev s_named : Stmt := top 25
abbrev N_named : List Str := ["name"]
theorem sc_named : FnScope N_named ["name"] (defScope s_named) := ⟨rfl, rfl, rfl, by decide +kernel, rfl, by decide +kernel, by decide +kernel⟩
abbrev s_when : Stmt := top 18
abbrev N_when : List Str := ["part", "had", "lacking"]
theorem sc_when : FnScope N_when ["part", "had", "lacking"] (defScope s_when) := ⟨rfl, rfl, rfl, by decide +kernel, rfl, by decide +kernel, by decide +kernel⟩
abbrev s_View__str__ : Stmt := inClass (top 12) 5
abbrev N_View__str__ : List Str := ["self"]
theorem sc_View__str__ : FnScope N_View__str__ ["self"] (defScope s_View__str__) := ⟨rfl, rfl, rfl, by decide +kernel, rfl, by decide +kernel, by decide +kernel⟩
abbrev s_is_lowercase : Stmt := top 8
abbrev N_is_lowercase : List Str := ["text", "most", "sign"]
theorem sc_is_lowercase : FnScope N_is_lowercase ["text", "most"] (defScope s_is_lowercase) := ⟨rfl, rfl, rfl, by decide +kernel, rfl, by decide +kernel, by decide +kernel⟩
abbrev s_is_word : Stmt := top 9
abbrev N_is_word : List Str := ["text"]
theorem sc_is_word : FnScope N_is_word ["text"] (defScope s_is_word) := ⟨rfl, rfl, rfl, by decide +kernel, rfl, by decide +kernel, by decide +kernel⟩
abbrev s_is_part : Stmt := top 11
abbrev N_is_part : List Str := ["text"]
theorem sc_is_part : FnScope N_is_part ["text"] (defScope s_is_part) := ⟨rfl, rfl, rfl, by decide +kernel, rfl, by decide +kernel, by decide +kernel⟩
abbrev s_View__init__ : Stmt := inClass (top 12) 1
abbrev N_View__init__ : List Str := ["self", "text", "words", "word"]
theorem sc_View__init__ : FnScope N_View__init__ ["self", "text"] (defScope s_View__init__) := ⟨rfl, rfl, rfl, by decide +kernel, rfl, by decide +kernel, by decide +kernel⟩
abbrev s_knows : Stmt := top 19
abbrev N_knows : List Str := ["view", "part"]
theorem sc_knows : FnScope N_knows ["view", "part"] (defScope s_knows) := ⟨rfl, rfl, rfl, by decide +kernel, rfl, by decide +kernel, by decide +kernel⟩
abbrev s_everyone : Stmt := top 20
abbrev N_everyone : List Str := ["part", "views", "view"]
theorem sc_everyone : FnScope N_everyone ["part", "views"] (defScope s_everyone) := ⟨rfl, rfl, rfl, by decide +kernel, rfl, by decide +kernel, by decide +kernel⟩
abbrev s_common : Stmt := top 21
abbrev N_common : List Str := ["part", "views", "view"]
theorem sc_common : FnScope N_common ["part", "views"] (defScope s_common) := ⟨rfl, rfl, rfl, by decide +kernel, rfl, by decide +kernel, by decide +kernel⟩
abbrev s_always : Stmt := top 22
abbrev N_always : List Str := ["part"]
theorem sc_always : FnScope N_always ["part"] (defScope s_always) := ⟨rfl, rfl, rfl, by decide +kernel, rfl, by decide +kernel, by decide +kernel⟩
abbrev s_sofar : Stmt := top 23
abbrev N_sofar : List Str := ["part"]
theorem sc_sofar : FnScope N_sofar ["part"] (defScope s_sofar) := ⟨rfl, rfl, rfl, by decide +kernel, rfl, by decide +kernel, by decide +kernel⟩
abbrev s_sure : Stmt := top 24
abbrev N_sure : List Str := ["part"]
theorem sc_sure : FnScope N_sure ["part"] (defScope s_sure) := ⟨rfl, rfl, rfl, by decide +kernel, rfl, by decide +kernel, by decide +kernel⟩
abbrev s_law_same : Stmt := top 30
abbrev N_law_same : List Str := ["_law_found", "_law_due", "_law_one", "_law_other"]
theorem sc_law_same : FnScope N_law_same ["_law_found", "_law_due"] (defScope s_law_same) := ⟨rfl, rfl, rfl, by decide +kernel, rfl, by decide +kernel, by decide +kernel⟩
abbrev s_law : Stmt := top 37
abbrev N_law : List Str := ["_law_script", "_law_source_here", "_law_turn", "_law_had_z", "_law_k", "_law_lacking_z", "_law_kept", "_law_due", "_law_base", "_law_views", "_law_texts", "_law_view", "_law_name", "_law_found", "_law_plain", "_law_wanted", "_law_bad", "_law_tags"]
theorem sc_law : FnScope N_law ["_law_script"] (defScope s_law) := ⟨rfl, rfl, rfl, by decide +kernel, rfl, by decide +kernel, by decide +kernel⟩
abbrev XCS : List (Str × List Str) := [("InvalidView", ["code"])]

structure Txt (Y : Ky) (mg : Str → Option Value) : Prop where
  b_LookupError : mg "LookupError" = none
  b_ValueError : mg "ValueError" = none
  b_all : mg "all" = none
  b_bool : mg "bool" = none
  b_enumerate : mg "enumerate" = none
  b_int : mg "int" = none
  b_isinstance : mg "isinstance" = none
  b_len : mg "len" = none
  b_list : mg "list" = none
  b_property : mg "property" = none
  b_range : mg "range" = none
  b_set : mg "set" = none
  b_sorted : mg "sorted" = none
  b_staticmethod : mg "staticmethod" = none
  b_str : mg "str" = none
  b_tuple : mg "tuple" = none
  b_zip : mg "zip" = none
  g_LETTERS : GS mg "LETTERS" "abcdefghijklmnopqrstuvwxyz"
  g_FIGURES : GS mg "FIGURES" "0123456789"
  g_MAX_WORD : GI mg "MAX_WORD" 6
  g_MAX_DEPTH : GI mg "MAX_DEPTH" 8
  g_MAX_PARTS : GI mg "MAX_PARTS" 40
  f_held : ∀ c ∈ (["View"] : List Str), FldOk Y "held" c
  outF : OutF Y mg XCS s_law_outcome s_law_fields
  cv_View_MAX_PARTS : Cvl Y mg "View" "MAX_PARTS" (.int 8)
/-! ### the law's source and its draws -/
theorem cut63 {α : Type} (xs : List α) (h : xs.length ≤ 63) : (xs.drop (HT.sIx xs.length 0 none)).take (HT.sIx xs.length xs.length (some 63) - HT.sIx xs.length 0 none) = xs := by
  have e0 : HT.sIx xs.length 0 none = 0 := rfl
  have e1 : HT.sIx xs.length xs.length (some 63) = xs.length := by
    unfold HT.sIx
    simp
    omega
  rw [e0, e1]
  simp
theorem FnA.imp {P : Program} {w : World} {K : PySem.W.Frag} {mg : Str → Option Value} {base : Heap} {k : Nat} {f : Addr} {ks : List Str} {sp sp' : Sp} (F : FnA P w K mg base k f ks sp) (h : ∀ vs H Q E, sp' vs H Q E → sp vs H Q E) : FnA P w K mg base k f ks sp' :=
  fun A outer s H us ws vs zs Q E hr e0 r rz l q => F A outer s H us ws vs zs Q E hr e0 r rz l (h _ _ _ _ q)
theorem fna_any {P : Program} {w : World} {K : PySem.W.Frag} {mg : Str → Option Value} {base : Heap} {k : Nat} {f : Addr} {fd : FuncData} {ps : List Str} {sp : Sp} (F : FnOk P w K mg base (L2.CX P w) k f fd ps sp) (hb : Binds K fd ps []) : FnA P w K mg base k f [] sp := by
  rintro A outer s H us ws vs zs Q E hr e0 r rz l h
  have : ws = [] := List.length_eq_zero_iff.mp l
  subst this
  cases rz
  rw [List.append_nil] at h
  have hl := F.len _ _ _ _ h
  have b := hb s us (e0.mod.kin.keeps fun b o e => (e0.bs b o e).1) (by rw [List.append_nil, ← r.length]; exact hl)
  rw [List.append_nil] at b
  exact F.run A outer s H ⟨us, []⟩ us vs Q E hr e0 b r h
section
variable {P : Program} {w : World} {mg : Str → Option Value} {base : Heap} {Y : Ky}
theorem d_law_source (T : Txt Y mg) (F : Tp Y.K mg "_law_source" s_law_source) : DfA P w Y.K mg base "_law_source" 1 [] (spSrc Y.K) := by
  obtain ⟨f, fd, F, hm⟩ := F
  refine ⟨f, fna_any (F.okX sc_law_source (by rintro vs H Q E ⟨a, ns, rfl, _⟩; rfl) (fun cdv A outer s H vs Q E hr h => ?_)) (F.binds fun _ _ _ _ _ _ us hl => match us, hl with | [_], _ => rfl), hm, F.kp⟩
  obtain ⟨a, ns, rfl, hS, hlen, k⟩ := h
  refine ⟨_, (pss_one (ps_ret (pe_lst (pa_cons (pe_callTy (kc_list (K := Y.K) rfl) (by rfl) T.b_list (by decide +kernel) (pa_cons (pe_slice (ksl (K := Y.K) rfl) (pv 0) po_none (po_some pe_int)) pa_nil)) (pa_cons pe_int (pa_cons pe_int (pa_cons (pe_op (kop_plus (K := Y.K) rfl) pe_int (pe_callB (kc_len (K := Y.K) rfl) (by rfl) T.b_len (by decide +kernel) (pa_cons (pe_slice (ksl (K := Y.K) rfl) (pv 0) po_none (po_some pe_int)) pa_nil))) pa_nil))))))), ?_⟩
  have hcut : cutV (ns.map V.int) none (some 63) = ns.map V.int := cut63 _ (by rw [List.length_map]; exact hlen)
  refine ⟨_, rfl, 63, rfl, .inl ⟨a, _, rfl, hS, fun p1 n1 => ?_⟩⟩
  rw [hcut]
  refine ⟨p1, _, rfl, .inl (SqL.of upd_same), fun l nl => ?_⟩
  have s1 : Same H (upd H p1 (.lst (ns.map V.int))) := same_new n1
  have s2 : Same H (upd (upd H p1 (.lst (ns.map V.int))) l (.lst (ns.map V.int))) := s1.trans (same_new nl)
  refine ⟨_, rfl, 63, rfl, .inl ⟨a, _, rfl, s2.seq hS, fun p2 n2 => ?_⟩⟩
  rw [hcut]
  have s3 := s2.trans (same_new (o := .lst (ns.map V.int)) n2)
  refine ⟨_, ns.length, rfl, .inl ⟨_, SqL.of upd_same, by rw [List.length_map]⟩, .inl ⟨3807, ns.length, rfl, rfl, ?_⟩⟩
  refine ⟨by show 4 ≤ sizeLine; decide, fun p np => ?_⟩
  have hl2 : upd (upd (upd H p1 (.lst (ns.map V.int))) l (.lst (ns.map V.int))) p2 (.lst (ns.map V.int)) l = some (.lst (ns.map V.int)) := same_new n2 _ _ upd_same
  refine k p l _ (s3.trans (same_new np)) (s3.free np) (s1.free nl) (fun e => ?_) ⟨ns, 0, 0, 3807 + ns.length, upd_same, same_new np _ _ hl2, Nat.zero_le _, hlen, Int.le_refl _, by omega, by omega⟩
  rw [e, hl2] at np
  cases np

/-- an item of the list in slot 0 -/
theorem ixl {K : PySem.W.Frag} {a : Addr} {xs : List V} {k : Int} {v : V} {σ : L2.St} {H : Hp} {Q : VK} (h0 : σ[0]? = some (some (.ref a))) (ha : H a = some (.lst xs)) (hv : atI xs k = some v) (q : Q v H) : tOp (rIx K) (tVar 0) (tC (.int k)) σ H Q :=
  ⟨_, h0, .inl ⟨a, xs, k, v, rfl, rfl, SqL.of ha, hv, q⟩⟩
theorem setl {a : Addr} {xs : List V} {k : Int} {j : Nat} {v : V} {σ : L2.St} {H : Hp} {R : L2.St → Hp → Prop} (h0 : σ[0]? = some (some (.ref a))) (ha : H a = some (.lst xs)) (hj : ixN xs.length k = some j) (q : R σ (upd H a (.lst (xs.set j v)))) : gSub (tVar 0) (tC (.int k)) rSetL v σ H R :=
  ⟨_, h0, a, xs, k, j, rfl, rfl, ha, hj, q⟩
theorem d_law_draw (T : Txt Y mg) (F : Tp Y.K mg "_law_draw" s_law_draw) : DfA P w Y.K mg base "_law_draw" 1 [] (spA Y fDraw) := by
  obtain ⟨f, fd, F, hm⟩ := F
  refine ⟨f, FnA.imp (sp := spDrawV Y.K) (fna_any (F.okX sc_law_draw (by rintro vs H Q E ⟨a, l, n, rfl, _⟩; rfl) (fun cdv A outer s H vs Q E hr h => ?_)) (F.binds fun _ _ _ _ _ _ us hl => match us, hl with | [_, _], _ => rfl)) (fun _ _ _ _ h => sp_draw h), hm, F.kp⟩
  obtain ⟨a, l, n, rfl, ⟨ns, p, r, x, ha, hl, hp, h63, hr0, hx0, hx1⟩, hn0, hn1, k⟩ := h
  have nla : l ≠ a := fun e => by
    subst e
    rw [ha] at hl
    have e := Option.some.inj hl
    injection e with e
    cases ns with
    | nil => cases e
    | cons y ys => injection e with e1 _; cases e1
  -- what follows behind the first test: the source at H1 with r1, x1
  refine ⟨_, (pss_cons (ps_if (PW.pt (pw_and (pt_cmpR (kop_eq (K := Y.K) rfl hr.units) (pe_ix (kix (K := Y.K) rfl) (pv 0) pe_int (fun _ _ => rfl)) pe_int (nomark _)) (pw_and1 (pt_cmpR op_lt (pe_ix (kix (K := Y.K) rfl) (pv 0) pe_int (fun _ _ => rfl)) (pe_callB (kc_len (K := Y.K) rfl) (by rfl) T.b_len (by decide +kernel) (pa_cons (pe_ix (kix (K := Y.K) rfl) (pv 0) pe_int (fun _ _ => rfl)) pa_nil)) (nomark _)))))
  (pss_cons (ps_set (i := 2) sc_law_draw.nd rfl (by first | exact Or.inl rfl | exact Or.inr rfl) (pe_ix (kix (K := Y.K) rfl) (pe_ix (kix (K := Y.K) rfl) (pv 0) pe_int (fun _ _ => rfl)) (pe_ix (kix (K := Y.K) rfl) (pv 0) pe_int (fun _ _ => rfl)) (fun _ _ => rfl)))
  (pss_cons (ps_asg (pe_op (kop_plus (K := Y.K) rfl) (pe_ix (kix (K := Y.K) rfl) (pv 0) pe_int (fun _ _ => rfl)) pe_int) (pg_sub (pv 0) pe_int set_list))
  (pss_one (ps_if (pt_cmpR op_ge (pv 2) (pe_op op_pow pe_int pe_int) (nomark _))
  (pss_one (ps_asg (pv 2) (pg_sub (pv 0) pe_int set_list)))
  (pss_one (ps_asg (pe_op op_mod (pe_op (kop_plus (K := Y.K) rfl) (pe_op (kop_plus (K := Y.K) rfl) (pe_op (kop_times (K := Y.K) rfl) (pe_ix (kix (K := Y.K) rfl) (pv 0) pe_int (fun _ _ => rfl)) pe_int) (pe_op (kop_times (K := Y.K) rfl) (pe_op op_mod (pv 2) pe_int) pe_int)) pe_int) pe_int) (pg_sub (pv 0) pe_int set_list)))))))
  pss_nil)
  (pss_cons (ps_if (pt_cmpR op_gt (pe_ix (kix (K := Y.K) rfl) (pv 0) pe_int (fun _ _ => rfl)) pe_int (nomark _))
  (pss_cons (ps_set (i := 3) sc_law_draw.nd rfl (by first | exact Or.inl rfl | exact Or.inr rfl) (pe_op op_mod (pe_ix (kix (K := Y.K) rfl) (pv 0) pe_int (fun _ _ => rfl)) (pv 1)))
  (pss_cons (ps_asg (pe_op op_fdiv (pe_ix (kix (K := Y.K) rfl) (pv 0) pe_int (fun _ _ => rfl)) (pv 1)) (pg_sub (pv 0) pe_int set_list))
  (pss_one (ps_ret (pv 3)))))
  pss_nil)
  (pss_cons (ps_set (i := 4) sc_law_draw.nd rfl (by first | exact Or.inl rfl | exact Or.inr rfl) (pe_op op_mod (pe_op (kop_times (K := Y.K) rfl) (pe_ix (kix (K := Y.K) rfl) (pv 0) pe_int (fun _ _ => rfl)) (pe_ix (kix (K := Y.K) rfl) (pv 0) pe_int (fun _ _ => rfl))) pe_int))
  (pss_cons (ps_asg (pe_op op_mod (pe_op (kop_plus (K := Y.K) rfl) (pe_op (kop_plus (K := Y.K) rfl) (pe_op (kop_times (K := Y.K) rfl) (pv 4) pe_int) (pe_op (kop_times (K := Y.K) rfl) (pe_ix (kix (K := Y.K) rfl) (pv 0) pe_int (fun _ _ => rfl)) pe_int)) pe_int) pe_int) (pg_sub (pv 0) pe_int set_list))
  (pss_one (ps_ret (pe_op op_mod (pe_op (kop_plus (K := Y.K) rfl) (pe_op op_fdiv (pe_ix (kix (K := Y.K) rfl) (pv 0) pe_int (fun _ _ => rfl)) pe_int) (pe_op (kop_times (K := Y.K) rfl) (pe_op op_mod (pe_ix (kix (K := Y.K) rfl) (pv 0) pe_int (fun _ _ => rfl)) pe_int) pe_int)) (pv 1)))))))), ?_⟩
  have rest : ∀ (σ1 : L2.St) (H1 : Hp) (c : Option V) (p1 : Nat) (r1 x1 : Int), σ1 = [some (.ref a), some (.int n), c, none, none] → H1 a = some (.lst [.ref l, .int p1, .int r1, .int x1]) → p1 ≤ ns.length → 0 ≤ r1 → 0 ≤ x1 → x1 < 2147483563 →
      (∀ b o, b ≠ a → H b = some o → H1 b = some o) →
      (tSeq (tIfS (tTest (tOp (rI0 fun i j => .bl (decide (j < i))) (tOp (rIx Y.K) (tVar 0) (tC (.int 2))) (tC (.int 0))))
        (tSeq (tAsg (tOp (rI (fun _ j => 0 < j) fun i j => .int (i % j)) (tOp (rIx Y.K) (tVar 0) (tC (.int 2))) (tVar 1)) (gName 3))
          (tSeq (tAsg (tOp (rI CDiv fun i j => .int (i / j)) (tOp (rIx Y.K) (tVar 0) (tC (.int 2))) (tVar 1)) (gSub (tVar 0) (tC (.int 2)) rSetL)) (tRet (tVar 3)))) tNext)
        (tSeq (tAsg (tOp (rI (fun _ j => 0 < j) fun i j => .int (i % j)) (tOp (rTimes Y.K) (tOp (rIx Y.K) (tVar 0) (tC (.int 3))) (tOp (rIx Y.K) (tVar 0) (tC (.int 3)))) (tC (.int 2147483563))) (gName 4))
          (tSeq (tAsg (tOp (rI (fun _ j => 0 < j) fun i j => .int (i % j)) (tOp (rPlus Y.K) (tOp (rPlus Y.K) (tOp (rTimes Y.K) (tVar 4) (tC (.int 50021))) (tOp (rTimes Y.K) (tOp (rIx Y.K) (tVar 0) (tC (.int 3))) (tC (.int 27061)))) (tC (.int 7433))) (tC (.int 2147483563))) (gSub (tVar 0) (tC (.int 3)) rSetL))
            (tRet (tOp (rI (fun _ j => 0 < j) fun i j => .int (i % j)) (tOp (rPlus Y.K) (tOp (rI CDiv fun i j => .int (i / j)) (tOp (rIx Y.K) (tVar 0) (tC (.int 3))) (tC (.int 91))) (tOp (rTimes Y.K) (tOp (rI (fun _ j => 0 < j) fun i j => .int (i % j)) (tOp (rIx Y.K) (tVar 0) (tC (.int 3))) (tC (.int 6007))) (tC (.int 37)))) (tVar 1))))))
        { nx := fun _ H' => Q .non H', rt := Q } σ1 H1 := by
    intro σ1 H1 c p1 r1 x1 e1 ha1 hp1 hr1 hx2 hx3 keep1
    subst e1
    have hl1 : H1 l = some (.lst (ns.map V.int)) := keep1 l _ nla hl
    have keep2 : ∀ (o : HO) (b : Addr) (u : HO), b ≠ a → H b = some u → upd H1 a o b = some u := fun o b u nb e => by rw [upd_ne nb]; exact keep1 b u nb e
    refine ixl rfl ha1 rfl ⟨r1, 0, rfl, rfl, _, rfl, ?_⟩
    refine ite2 (fun hc => ?_) (fun hc => ?_)
    · have hc : 0 < r1 := by simpa using hc
      refine ixl rfl ha1 rfl ⟨_, rfl, r1, n, rfl, rfl, hn0, ?_⟩
      refine ixl rfl ha1 rfl ⟨_, rfl, r1, n, rfl, rfl, ⟨hn0, hn1⟩, setl rfl ha1 rfl ?_⟩
      refine ⟨_, rfl, ?_⟩
      refine k _ _ (Int.emod_nonneg _ (by omega)) (Int.emod_lt_of_pos _ hn0) (keep2 _) ⟨ns, p1, r1 / n, x1, upd_same, by rw [upd_ne nla]; exact hl1, hp1, h63, Int.ediv_nonneg hr1 (by omega), hx2, hx3⟩
    · refine ixl rfl ha1 rfl (ixl rfl ha1 rfl (.inl ⟨x1, x1, rfl, rfl, .inl ⟨by omega, by omega⟩, x1 * x1, 2147483563, rfl, rfl, by show (0 : Int) < 2147483563; decide, ?_⟩))
      have ht0 : 0 ≤ x1 * x1 % 2147483563 := Int.emod_nonneg _ (by decide)
      have ht1 : x1 * x1 % 2147483563 < 2147483563 := Int.emod_lt_of_pos _ (by decide)
      refine ⟨_, rfl, .inl ⟨x1 * x1 % 2147483563, 50021, rfl, rfl, .inr ⟨by decide, by decide⟩, ?_⟩⟩
      refine ixl rfl ha1 rfl (.inl ⟨x1, 27061, rfl, rfl, .inr ⟨by decide, by decide⟩, ?_⟩)
      refine .inl ⟨_, _, rfl, rfl, .inl ⟨_, 7433, rfl, rfl, ⟨_, 2147483563, rfl, rfl, by show (0 : Int) < 2147483563; decide, setl rfl ha1 rfl ?_⟩⟩⟩
      have hy0 : 0 ≤ (x1 * x1 % 2147483563 * 50021 + x1 * 27061 + 7433) % 2147483563 := Int.emod_nonneg _ (by decide)
      have hy1 : (x1 * x1 % 2147483563 * 50021 + x1 * 27061 + 7433) % 2147483563 < 2147483563 := Int.emod_lt_of_pos _ (by decide)
      refine ixl rfl upd_same rfl ⟨_, 91, rfl, rfl, ⟨by decide, by decide⟩, ?_⟩
      refine ixl rfl upd_same rfl ⟨_, 6007, rfl, rfl, by show (0 : Int) < 6007; decide, .inl ⟨_, 37, rfl, rfl, .inr ⟨by decide, by decide⟩, .inl ⟨_, _, rfl, rfl, _, rfl, _, n, rfl, rfl, hn0, ?_⟩⟩⟩
      exact k _ _ (Int.emod_nonneg _ (by omega)) (Int.emod_lt_of_pos _ hn0) (keep2 _) ⟨ns, p1, r1, _, upd_same, by rw [upd_ne nla]; exact hl1, hp1, h63, hr1, hy0, hy1⟩
  -- the first test
  refine ixl rfl ha rfl (.inl ⟨rfl, _, rfl, ?_⟩)
  have er : decide (V.int r = V.int 0) = decide (r = 0) := decide_eq_decide.mpr ⟨fun q => V.int.inj q, fun q => by rw [q]⟩
  rw [er]
  refine ite2 (fun _ => ?_) (fun _ => ?_)
  · refine ixl rfl ha rfl (ixl rfl ha rfl ⟨_, ns.length, rfl, .inl ⟨_, SqL.of hl, by rw [List.length_map]⟩, p, ns.length, rfl, rfl, _, rfl, ?_⟩)
    refine ite2 (fun hc => ?_) (fun hc => ?_)
    · have hc : p < ns.length := by simpa using hc
      obtain ⟨c, hcv⟩ : ∃ c, ns[p]? = some c := ⟨ns[p], by simp [hc]⟩
      have hat : atI (ns.map V.int) (p : Int) = some (.int c) := by
        unfold atI ixN
        rw [if_pos (by omega), if_pos (by rw [List.length_map]; omega)]
        simp [hcv]
      refine ixl rfl ha rfl (ixl rfl ha rfl (.inl ⟨l, _, p, .int c, rfl, rfl, SqL.of hl, hat, ?_⟩))
      refine ixl rfl ha rfl (.inl ⟨p, 1, rfl, rfl, setl rfl ha rfl ?_⟩)
      refine ⟨_, rfl, 10, 18, rfl, rfl, ⟨by decide, by decide, by decide⟩, c, _, rfl, rfl, _, rfl, ?_⟩
      refine ite2 (fun hc2 => ?_) (fun hc2 => ?_)
      · have hc2 : (10 : Int) ^ (18 : Int).toNat ≤ c := by simpa using hc2
        have hc3 : (0 : Int) ≤ c := Int.le_trans (by decide) hc2
        refine ⟨_, rfl, setl rfl upd_same rfl ?_⟩
        refine rest _ _ _ (p + 1) c x rfl upd_same (by omega) hc3 hx0 hx1 fun b o nb e => by rw [upd_ne nb, upd_ne nb]; exact e
      · refine ixl rfl upd_same rfl (.inl ⟨x, 46141, rfl, rfl, .inr ⟨by decide, by decide⟩, ?_⟩)
        refine ⟨_, rfl, c, 2147483549, rfl, rfl, by show (0 : Int) < 2147483549; decide, .inl ⟨_, 617, rfl, rfl, .inr ⟨by decide, by decide⟩, ?_⟩⟩
        refine .inl ⟨_, _, rfl, rfl, .inl ⟨_, 29, rfl, rfl, ⟨_, 2147483563, rfl, rfl, by show (0 : Int) < 2147483563; decide, setl rfl upd_same rfl ?_⟩⟩⟩
        refine rest _ _ _ (p + 1) r _ rfl upd_same (by omega) hr0 (Int.emod_nonneg _ (by decide)) (Int.emod_lt_of_pos _ (by decide)) fun b o nb e => by rw [upd_ne nb, upd_ne nb]; exact e
    · exact rest _ _ _ p r x rfl ha hp hr0 hx0 hx1 fun b o nb e => e
  · exact rest _ _ _ p r x rfl ha hp hr0 hx0 hx1 fun b o nb e => e
end

def b_claim : MS := (sRet (eTup (aCons (eC (.str "claim")) (aCons (eCB fTuple (aCons (eSortSet (eVar 0)) aNil)) (aCons (eCB fTuple (aCons (eSortSet (eVar 1)) aNil)) aNil)))))
@[irreducible] def f_claim : MF := (ar 2 (fnM 2 b_claim))
@[irreducible] def f_claim_d0 : MF := fun xs => (ar 2 (fnM 2 b_claim)) (xs ++ [.tup [], .tup []])
@[irreducible] def f_claim_d1 : MF := fun xs => (ar 2 (fnM 2 b_claim)) (xs ++ [.tup []])
@[irreducible] def f_claim_kd0lacking : MF := ar 1 fun xs => (ar 2 (fnM 2 b_claim)) ([.tup []] ++ xs)
def b_law_choice : MS := (sRet (eOp oIx (eVar 1) (eCall fDraw (aCons (eVar 0) (aCons (eCB fLen (aCons (eVar 1) aNil)) aNil)))))
@[irreducible] def f_law_choice : MF := (ar 2 (fnM 2 b_law_choice))
def b_law_letters : MS := (sRet (eC (.str "abcdefghijklmnopqrstuvwxyz")))
@[irreducible] def f_law_letters : MF := (ar 0 (fnM 0 b_law_letters))
def b_law_words_0 : MS := (sRet (eVar 8))
def b_law_words_1 : MS := (sDrop (eApp (eVar 8) (eOp oAdd (eOp oAdd (eSl (eVar 6) pNo (pSome (eVar 3))) (eVar 9)) (eSl (eVar 6) (pSome (eOp oAdd (eVar 3) (eC (.int 1)))) pNo))))
def b_law_words_2 : MS := (sSeq (sAsg (eOp oIx (eCall f_law_letters aNil) (eOp oMod (eOp oAdd (eVar 4) (eOp oMul (eVar 5) (eVar 7))) (eC (.int 26)))) (mName 9)) b_law_words_1)
def b_law_words_3 : MS := (sSeq (sFor (iRange (aCons (eVar 1) aNil)) (mName 7) b_law_words_2) b_law_words_0)
def b_law_words_4 : MS := (sSeq (sAsg (eLstC aNil) (mName 8)) b_law_words_3)
def b_law_words_5 : MS := (sSeq (sAsg (eJoin (eC (.str "")) (eLc (iRange (aCons (eVar 2) aNil)) (mName 7) tYesM (eCall f_law_choice (aCons (eVar 0) (aCons (eCall f_law_letters aNil) aNil))) [7])) (mName 6)) b_law_words_4)
def b_law_words : MS := (sSeq (sPar3 3 4 5 (aCons (eCall fDraw (aCons (eVar 0) (aCons (eVar 2) aNil))) (aCons (eCall fDraw (aCons (eVar 0) (aCons (eC (.int 26)) aNil))) (aCons (eCall f_law_choice (aCons (eVar 0) (aCons (eLst (aCons (eC (.int 1)) (aCons (eC (.int 3)) (aCons (eC (.int 5)) (aCons (eC (.int 7)) (aCons (eC (.int 9)) aNil)))))) aNil))) aNil)))) b_law_words_5)
@[irreducible] def f_law_words : MF := reg (ar 3 (fnM 10 b_law_words))
def b_law_kinds : MS := (sRet (eCall f_law_words (aCons (eVar 0) (aCons (eC (.int 3)) (aCons (eOp oAdd (eC (.int 1)) (eCall fDraw (aCons (eVar 0) (aCons (eC (.int 6)) aNil)))) aNil)))))
@[irreducible] def f_law_kinds : MF := (ar 1 (fnM 1 b_law_kinds))
def b_law_names : MS := (sRet (eCall f_law_words (aCons (eVar 0) (aCons (eVar 1) (aCons (eOp oAdd (eC (.int 1)) (eCall fDraw (aCons (eVar 0) (aCons (eC (.int 8)) aNil)))) aNil)))))
@[irreducible] def f_law_names : MF := (ar 2 (fnM 2 b_law_names))
def b_all_of : MS := (sRet (eTup (aCons (eC (.str "all")) (aStar (eVar 0) aNil))))
@[irreducible] def f_all_of : MF := (fnS 0 (fnM 1 b_all_of))
def b_named : MS := (sRet (eTup (aCons (eC (.str "named")) (aCons (eVar 0) aNil))))
@[irreducible] def f_named : MF := (ar 1 (fnM 1 b_named))
def b_when : MS := (sRet (eTup (aCons (eC (.str "when")) (aCons (eCB fTuple (aCons (eSortSet (eVar 1)) aNil)) (aCons (eCB fTuple (aCons (eSortSet (eVar 2)) aNil)) (aCons (eVar 0) aNil))))))
@[irreducible] def f_when : MF := (ar 3 (fnM 3 b_when))
@[irreducible] def f_when_d1 : MF := fun xs => (ar 3 (fnM 3 b_when)) (xs ++ [.tup [], .tup []])
@[irreducible] def f_when_klacking_had : MF := ar 3 fun xs => (ar 3 (fnM 3 b_when)) (xs.take 1 ++ (xs.drop 1).reverse)
def b_View__str__ : MS := (sRet (eJoin (eC (.str "+")) (eFld ["View"] (eVar 0) "held")))
@[irreducible] def f_View__str__ : MF := (ar 1 (fnM 1 b_View__str__))
def b_is_lowercase : MS := (sRet (eAnd (eChain oLe oLe (eC (.int 1)) (eCB fLen (aCons (eVar 0) aNil)) (eVar 1)) (eCB fAll (aCons (eLc (iSeq (eVar 0)) (mName 2) tYesM (eOp (oInB false) (eVar 2) (eC (.str "abcdefghijklmnopqrstuvwxyz"))) [2]) aNil))))
@[irreducible] def f_is_lowercase : MF := (ar 2 (fnM 3 b_is_lowercase))
def b_is_word : MS := (sRet (eCall f_is_lowercase (aCons (eVar 0) (aCons (eC (.int 6)) aNil))))
@[irreducible] def f_is_word : MF := (ar 1 (fnM 1 b_is_word))
def b_is_part : MS := (sRet (eOr (eCall f_is_word (aCons (eVar 0) aNil)) (eAnd (eOp oEq (eCB fLen (aCons (eVar 0) aNil)) (eC (.int 2))) (eAnd (eOp oEq (eOp oIx (eVar 0) (eC (.int 0))) (eC (.str "@"))) (eOp (oInB false) (eOp oIx (eVar 0) (eC (.int 1))) (eC (.str "0123456789")))))))
@[irreducible] def f_is_part : MF := (ar 1 (fnM 1 b_is_part))
def b_View__init___0 : MS := (sRz0 "InvalidView" "InvalidView")
def b_View__init___1 : MS := (sIf (mB (eOp oGt (eCB fLen (aCons (eFld ["View"] (eVar 0) "held") aNil)) (eC (.int 8)))) b_View__init___0 sNext)
def b_View__init___2 : MS := (sSeq (sFldM ["View"] (eVar 0) (eCB fTuple (aCons (eSortSC (iSeq (eVar 2)) (mName 3) tYesM (eVar 3) [3]) aNil)) "held") b_View__init___1)
def b_View__init___3 : MS := (sRz0 "InvalidView" "InvalidView")
def b_View__init___4 : MS := (sSeq (sIf (mNot (mB (eCB fAll (aCons (eLc (iSeq (eVar 2)) (mName 3) tYesM (eCall f_is_part (aCons (eVar 3) aNil)) [3]) aNil)))) b_View__init___3 sNext) b_View__init___2)
def b_View__init__ : MS := (sSeq (sAsg (eSplit (eVar 1) (eC (.str "+"))) (mName 2)) b_View__init___4)
@[irreducible] def f_View__init__ : MF := (ar 2 (fnM 4 b_View__init__))
def b_knows : MS := (sRet (eTup (aCons (eC (.str "knows")) (aCons (eCB (fOwn "View" f_View__str__ isStrM) (aCons (eNewF "View" f_View__init__ (aCons (eVar 0) aNil)) aNil)) (aCons (eVar 1) aNil)))))
@[irreducible] def f_knows : MF := (ar 2 (fnM 2 b_knows))
def b_everyone : MS := (sRet (eTup (aCons (eC (.str "everyone")) (aCons (eCB fTuple (aCons (eLcE (iSeq (eVar 1)) (mName 2) tYesM (eCB (fOwn "View" f_View__str__ isStrM) (aCons (eNewF "View" f_View__init__ (aCons (eVar 2) aNil)) aNil)) [2]) aNil)) (aCons (eVar 0) aNil)))))
@[irreducible] def f_everyone : MF := (fnS 1 (fnM 3 b_everyone))
def b_common : MS := (sRet (eTup (aCons (eC (.str "common")) (aCons (eCB fTuple (aCons (eLcE (iSeq (eVar 1)) (mName 2) tYesM (eCB (fOwn "View" f_View__str__ isStrM) (aCons (eNewF "View" f_View__init__ (aCons (eVar 2) aNil)) aNil)) [2]) aNil)) (aCons (eVar 0) aNil)))))
@[irreducible] def f_common : MF := (fnS 1 (fnM 3 b_common))
def b_always : MS := (sRet (eTup (aCons (eC (.str "always")) (aCons (eVar 0) aNil))))
@[irreducible] def f_always : MF := (ar 1 (fnM 1 b_always))
def b_sofar : MS := (sRet (eTup (aCons (eC (.str "sofar")) (aCons (eVar 0) aNil))))
@[irreducible] def f_sofar : MF := (ar 1 (fnM 1 b_sofar))
def b_sure : MS := (sRet (eTup (aCons (eC (.str "sure")) (aCons (eVar 0) aNil))))
@[irreducible] def f_sure : MF := (ar 1 (fnM 1 b_sure))
def b_law_same_0 (R : MF) : MS := (sRet (eAnd (eOp oEq (eCB fIsi (aCons (eVar 0) (aCons (eC (.ty "str")) aNil))) (eCB fIsi (aCons (eVar 1) (aCons (eC (.ty "str")) aNil)))) (eOp oEq (eVar 0) (eVar 1))))
def b_law_same_1 (R : MF) : MS := (sRet (eC (.bl false)))
def b_law_same_2 (R : MF) : MS := (sSeq (sIf (mOr (mB (eOp oNe (eCB fIsi (aCons (eVar 0) (aCons (eC (.ty "bool")) aNil))) (eCB fIsi (aCons (eVar 1) (aCons (eC (.ty "bool")) aNil))))) (mB (eOp oNe (eCB fIsi (aCons (eVar 0) (aCons (eC (.ty "int")) aNil))) (eCB fIsi (aCons (eVar 1) (aCons (eC (.ty "int")) aNil)))))) (b_law_same_1 R) sNext) (b_law_same_0 R))
def b_law_same_3 (R : MF) : MS := (sRet (eAnd (eOp oEq (eCB fLen (aCons (eVar 0) aNil)) (eCB fLen (aCons (eVar 1) aNil))) (eCB fAll (aCons (eLc (iZip (aCons (eVar 0) (aCons (eVar 1) aNil))) (mTupN 2 (msCons (mName 2) (msCons (mName 3) msNil))) tYesM (eCall R (aCons (eVar 2) (aCons (eVar 3) aNil))) [2, 3]) aNil))))
def b_law_same_4 (R : MF) : MS := (sRet (eC (.bl false)))
def b_law_same_5 (R : MF) : MS := (sSeq (sIf (mOr (mB (eOp oNe (eCB fIsi (aCons (eVar 0) (aCons (eC (.ty "list")) aNil))) (eCB fIsi (aCons (eVar 1) (aCons (eC (.ty "list")) aNil))))) (mB (eOp oNe (eCB fIsi (aCons (eVar 0) (aCons (eC (.ty "tuple")) aNil))) (eCB fIsi (aCons (eVar 1) (aCons (eC (.ty "tuple")) aNil)))))) (b_law_same_4 R) sNext) (b_law_same_3 R))
def b_law_same_6 (R : MF) : MS := (sSeq (sIf (mB (eIsi2 (eVar 1) "list" "tuple")) (b_law_same_5 R) sNext) (b_law_same_2 R))
def b_law_same_7 (R : MF) : MS := (sRet (eAnd (eOp oIs (eVar 0) (eC .non)) (eOp oIs (eVar 1) (eC .non))))
def b_law_same (R : MF) : MS := (sSeq (sIf (mOr (mB (eOp oIs (eVar 1) (eC .non))) (mB (eOp oIs (eVar 0) (eC .non)))) (b_law_same_7 R) sNext) (b_law_same_6 R))
def g_law_same : Nat → MF
  | 0 => fun _ _ _ _ => False
  | n + 1 => (ar 2 (fnM 4 (b_law_same (g_law_same n))))
@[irreducible] def f_law_same (n : Nat) : MF := g_law_same n
theorem f_law_same_z : f_law_same 0 = fun _ _ _ _ => False := by unfold f_law_same; rfl
theorem f_law_same_s (n : Nat) : f_law_same (n + 1) = (ar 2 (fnM 4 (b_law_same (f_law_same n)))) := by unfold f_law_same; rfl
def b_law_0 : MS := (sRet (eOp oEq (eLst (aCons (eC (.int 8)) (aCons (eC (.int 40)) aNil))) (eLst (aCons (eC (.int 8)) (aCons (eC (.int 40)) aNil)))))
def b_law_1 : MS := (sRet (eC (.bl false)))
def b_law_2 : MS := (sIf (mB (eOp oNe (eVar 17) (eOp oMul (eLst (aCons (eC (.str "InvalidView")) aNil)) (eC (.int 3))))) b_law_1 sNext)
def b_law_3 : MS := (sSeq (sDrop (eApp (eVar 17) (eOp oIx (eOutc XCS (eCall f_common (aCons (eVar 8) (aCons (eVar 16) (aCons (eOp oIx (eVar 9) (eC (.int 1))) aNil))))) (eC (.int 0))))) b_law_2)
def b_law_4 : MS := (sSeq (sAsg (eLstC (aCons (eOp oIx (eOutc XCS (eCall f_knows (aCons (eVar 16) (aCons (eVar 8) aNil)))) (eC (.int 0))) (aCons (eOp oIx (eOutc XCS (eCall f_everyone (aCons (eVar 8) (aCons (eOp oIx (eVar 9) (eC (.int 0))) (aCons (eVar 16) aNil))))) (eC (.int 0))) aNil))) (mName 17)) b_law_3)
def b_law_5 : MS := (sSeq (sAsg (eCall f_law_choice (aCons (eVar 1) (aCons (eLst (aCons (eC (.str "")) (aCons (eC (.str "@")) (aCons (eC (.str "Q")) (aCons (eOp oAdd (eOp oIx (eVar 9) (eC (.int 0))) (eC (.str "+"))) (aCons (eC (.str "@12")) aNil)))))) aNil))) (mName 16)) b_law_4)
def b_law_6 : MS := (sRet (eC (.bl false)))
def b_law_7 : MS := (sSeq (sIf (mOr (mNot (mB (eCall (f_law_same 6) (aCons (eVar 13) (aCons (eVar 15) aNil))))) (mB (eOp oNe (eLst (aCons (eVar 3) (aCons (eVar 5) aNil))) (eVar 6)))) b_law_6 sNext) b_law_5)
def b_law_8 : MS := (sSeq (sAsg (eOp oAdd (eVar 15) (eLst (aCons (eTup (aCons (eC (.str "always")) (aCons (eVar 14) aNil))) (aCons (eTup (aCons (eC (.str "sofar")) (aCons (eVar 14) aNil))) (aCons (eTup (aCons (eC (.str "sure")) (aCons (eVar 14) aNil))) (aCons (eTup (aCons (eC (.str "named")) (aCons (eVar 12) aNil))) (aCons (eTup (aCons (eC (.str "when")) (aCons (eOp oIx (eVar 7) (eC (.int 0))) (aCons (eOp oIx (eVar 7) (eC (.int 1))) (aCons (eVar 14) aNil))))) aNil))))))) (mName 15)) b_law_7)
def b_law_9 : MS := (sSeq (sAsg (eOp oAdd (eVar 15) (eLst (aCons (eTup (aCons (eC (.str "everyone")) (aCons (eTup (aCons (eOp oIx (eVar 10) (eC (.int 1))) (aCons (eOp oIx (eVar 10) (eC (.int 0))) aNil))) (aCons (eVar 14) aNil)))) (aCons (eTup (aCons (eC (.str "common")) (aCons (eVar 10) (aCons (eVar 14) aNil)))) aNil)))) (mName 15)) b_law_8)
def b_law_10 : MS := (sSeq (sAsg (eOp oAdd (eVar 15) (eLst (aCons (eTup (aCons (eC (.str "knows")) (aCons (eOp oIx (eVar 10) (eC (.int 0))) (aCons (eVar 14) aNil)))) (aCons (eTup (aCons (eC (.str "everyone")) (aCons (eSl (eVar 10) pNo (pSome (eC (.int 1)))) (aCons (eVar 14) aNil)))) aNil)))) (mName 15)) b_law_9)
def b_law_11 : MS := (sSeq (sAsg (eOp oAdd (eVar 15) (eLst (aCons (eTup (aCons (eC (.str "all")) (aCons (eVar 14) (aCons (eVar 14) (aCons (eTup (aCons (eC (.str "named")) (aCons (eVar 12) aNil))) aNil))))) (aCons (eTup (aCons (eC (.str "when")) (aCons (eTup aNil) (aCons (eTup aNil) (aCons (eVar 14) aNil))))) (aCons (eTup (aCons (eC (.str "when")) (aCons (eOp oIx (eVar 7) (eC (.int 0))) (aCons (eOp oIx (eVar 7) (eC (.int 1))) (aCons (eVar 14) aNil))))) aNil))))) (mName 15)) b_law_10)
def b_law_12 : MS := (sSeq (sAsg (eLst (aCons (eVar 14) (aCons (eTup (aCons (eC (.str "claim")) (aCons (eTup aNil) (aCons (eTup aNil) aNil)))) (aCons (eTup (aCons (eC (.str "claim")) (aCons (eOp oIx (eVar 7) (eC (.int 0))) (aCons (eTup aNil) aNil)))) (aCons (eTup (aCons (eC (.str "claim")) (aCons (eTup aNil) (aCons (eOp oIx (eVar 7) (eC (.int 1))) aNil)))) (aCons (eTup (aCons (eC (.str "all")) aNil)) aNil)))))) (mName 15)) b_law_11)
def b_law_13 : MS := (sSeq (sAsg (eTup (aCons (eC (.str "claim")) (aCons (eOp oIx (eVar 7) (eC (.int 0))) (aCons (eOp oIx (eVar 7) (eC (.int 1))) aNil)))) (mName 14)) b_law_12)
def b_law_14 : MS := (sSeq (sDrop (eApp (eVar 13) (eCallK f_when_klacking_had (aCons (eVar 8) aNil) (aCons (eCB fTuple (aCons (eVar 5) aNil)) (aCons (eCB fTuple (aCons (eVar 3) aNil)) aNil))))) b_law_13)
def b_law_15 : MS := (sSeq (sAsg (eOp oAddC (eVar 13) (eLst (aCons (eCall f_always (aCons (eVar 8) aNil)) (aCons (eCall f_sofar (aCons (eVar 8) aNil)) (aCons (eCall f_sure (aCons (eVar 8) aNil)) (aCons (eCall f_named (aCons (eVar 12) aNil)) aNil)))))) (mName 13)) b_law_14)
def b_law_16 : MS := (sSeq (sAsg (eOp oAddC (eVar 13) (eLst (aCons (eCall f_everyone (aCons (eVar 8) (aCons (eOp oIx (eVar 9) (eC (.int 0))) aNil))) (aCons (eCall f_everyone (aCons (eVar 8) (aCons (eOp oIx (eVar 9) (eC (.int 1))) (aCons (eOp oIx (eVar 9) (eC (.int 0))) aNil)))) (aCons (eCall f_common (aCons (eVar 8) (aCons (eOp oIx (eVar 9) (eC (.int 0))) (aCons (eOp oIx (eVar 9) (eC (.int 1))) aNil)))) aNil))))) (mName 13)) b_law_15)
def b_law_17 : MS := (sSeq (sAsg (eOp oAddC (eVar 13) (eLst (aCons (eCall f_when_d1 (aCons (eVar 8) aNil)) (aCons (eCallK f_when_klacking_had (aCons (eVar 8) aNil) (aCons (eVar 5) (aCons (eVar 3) aNil))) (aCons (eCall f_knows (aCons (eOp oIx (eVar 9) (eC (.int 0))) (aCons (eVar 8) aNil))) aNil))))) (mName 13)) b_law_16)
def b_law_18 : MS := (sSeq (sAsg (eLstC (aCons (eVar 8) (aCons (eCall f_claim_d0 aNil) (aCons (eCall f_claim_d1 (aCons (eVar 3) aNil)) (aCons (eCallK f_claim_kd0lacking aNil (aCons (eVar 5) aNil)) (aCons (eCall f_all_of aNil) (aCons (eCall f_all_of (aCons (eVar 8) (aCons (eVar 8) (aCons (eCall f_named (aCons (eVar 12) aNil)) aNil)))) aNil))))))) (mName 13)) b_law_17)
def b_law_19 : MS := (sSeq (sAsg (eOp oIx (eCall f_law_names (aCons (eVar 1) (aCons (eC (.int 1)) aNil))) (eC (.int 0))) (mName 12)) b_law_18)
def b_law_20 : MS := (sSeq (sAsg (eCB fTuple (aCons (eLc (iSeq (eVar 9)) (mName 11) tYesM (eJoin (eC (.str "+")) (eCB fSortS (aCons (eSplit (eVar 11) (eC (.str "+"))) aNil))) [11]) aNil)) (mName 10)) b_law_19)
def b_law_21 : MS := (sSeq (sAsg (eLc (iRange (aCons (eC (.int 2)) aNil)) (mName 4) tYesM (eOp oAdd (eOp oAdd (eCall f_law_choice (aCons (eVar 1) (aCons (eCall f_law_kinds (aCons (eVar 1) aNil)) aNil))) (eC (.str "+@"))) (eCB fStr (aCons (eCall fDraw (aCons (eVar 1) (aCons (eC (.int 10)) aNil))) aNil))) [4]) (mName 9)) b_law_20)
def b_law_22 : MS := (sSeq (sAsg (eCall f_claim (aCons (eVar 3) (aCons (eCB fTuple (aCons (eVar 5) aNil)) aNil))) (mName 8)) b_law_21)
def b_law_23 : MS := (sSeq (sAsg (eTup (aCons (eCB fTuple (aCons (eSortSet (eVar 3)) aNil)) (aCons (eCB fTuple (aCons (eSortSet (eVar 5)) aNil)) aNil))) (mName 7)) b_law_22)
def b_law_24 : MS := (sSeq (sAsg (eLst (aCons (eCB fList (aCons (eVar 3) aNil)) (aCons (eCB fList (aCons (eVar 5) aNil)) aNil))) (mName 6)) b_law_23)
def b_law_25 : MS := (sSeq (sAsg (eLc (iRange (aCons (eCall fDraw (aCons (eVar 1) (aCons (eC (.int 5)) aNil))) aNil)) (mName 4) tYesM (eCall fDraw (aCons (eVar 1) (aCons (eC (.int 9)) aNil))) [4]) (mName 5)) b_law_24)
def b_law_26 : MS := (sSeq (sAsg (eLc (iRange (aCons (eCall fDraw (aCons (eVar 1) (aCons (eC (.int 5)) aNil))) aNil)) (mName 4) tYesM (eCall fDraw (aCons (eVar 1) (aCons (eC (.int 9)) aNil))) [4]) (mName 3)) b_law_25)
def b_law : MS := (sSeq (sFor (iRange (aCons (eC (.int 4)) aNil)) (mName 2) b_law_26) b_law_0)
/-- the law, over plain values -/
def Law : Prop := b_law (none :: some .src :: List.replicate 16 none) [] { nx := fun _ _ => False, rt := fun v _ => v = .bl true }
end Sx

end
section
set_option Elab.async false
set_option linter.all false
set_option maxRecDepth 100000
set_option maxHeartbeats 2000000
namespace Sx
open PySem PySem.Spec PyProof.Rows L2 Cl RZ ZN


theorem out_ok : OutB (defBody s_law_outcome) := ⟨_, _, _, _, _, _, _, _, _, _, _, _, _, _, _, _, _, _, _, _, _, rfl⟩
theorem fld_ok : FldP (defBody s_law_fields) := fun {X a C dd fs code v} z hc h => by
  unfold fldG at h
  refine xs_if (b := inV (.str code) ((["NotSend", "AlreadyReceived", "NoEvent"] : List Str).map V.str)) z (pt_xin z hc (.cons (.cons (.cons (.nil))))) (fun b => by rw [if_pos b] at h; exact h) fun b => ?_
  rw [if_neg (by rw [b]; decide)] at h
  refine xs_if (b := inV (.str code) ((["SameProcess", "NoProcess"] : List Str).map V.str)) z (pt_xin z hc (.cons (.cons (.nil)))) (fun b => by rw [if_pos b] at h; exact h) fun b => ?_
  rw [if_neg (by rw [b]; decide)] at h
  refine xs_if (b := inV (.str code) ((["TooManyEvents", "TooDeep", "TooManyParts", "TooManyGaps", "TooManyCuts", "CapacityReached"] : List Str).map V.str)) z (pt_xin z hc (.cons (.cons (.cons (.cons (.cons (.cons (.nil)))))))) (fun b => by rw [if_pos b] at h; exact h) fun b => ?_
  rw [if_neg (by rw [b]; decide)] at h
  refine xs_if (b := inV (.str code) ((["CircularName", "InvalidName", "UnknownName"] : List Str).map V.str)) z (pt_xin z hc (.cons (.cons (.cons (.nil))))) (fun b => by rw [if_pos b] at h; exact h) fun b => ?_
  rw [if_neg (by rw [b]; decide)] at h
  refine xs_if (b := inV (.str code) ((["InvalidWord", "InvalidCommand"] : List Str).map V.str)) z (pt_xin z hc (.cons (.cons (.nil)))) (fun b => by rw [if_pos b] at h; exact h) fun b => ?_
  rw [if_neg (by rw [b]; decide)] at h
  refine xs_if (b := decide (V.str code = V.str "InvalidSize")) z (pt_xeq z hc) (fun b => by rw [if_pos b] at h; exact h) fun b => ?_
  rw [if_neg (by rw [b]; decide)] at h
  refine xs_if (b := decide (V.str code = V.str "NameInUse")) z (pt_xeq z hc) (fun b => by rw [if_pos b] at h; exact h) fun b => ?_
  rw [if_neg (by rw [b]; decide)] at h
  exact xs_last (b := decide (V.str code = V.str "InvalidDocument")) z (pt_xeq z hc) h
section
variable {P : Program} {w : World} {mg : Str → Option Value} {base : Heap} {Y : Ky}
theorem dxb_CutloreError (T : Txt Y mg) (F : XbF Y mg "CutloreError" "CutloreError.__init__" s_CutloreError__init__ "ValueError" "ValueError.__init__") : XbA P w Y mg base "CutloreError" "ValueError.__new__" HandSPX.veTail := by
  obtain ⟨CB, fB, fd, hm, hga, hrd, hf, F, vV⟩ := F
  refine ⟨CB, fB, hm, hga, hrd, hf, F.kp, fna_ok (fn_xbase (k := 0) PySem.Sxn.xb_VE F sc_CutloreError__init__ (fun cdv A outer s H E => pss_cons (ps_expr (pe_binit PySem.Sxn.xb_VE (by rfl) T.b_ValueError PyProof.Rows.Boot.«ValueError» (by decide) (by decide) (by decide +kernel) rfl vV (pa_cons (pv 0) (pa_cons (pv 1) pa_nil)))) (pss_one (ps_put PySem.Sxn.xb_VE (pv 0) (pv 1)))) (fun _ _ => ⟨rfl, rfl⟩)) (F.binds fun _ _ _ _ _ _ us hl => match us, hl with | [_, _], _ => rfl)⟩
theorem dx_InvalidView (T : Txt Y mg) (XB : XbA P w Y mg base "CutloreError" "ValueError.__new__" HandSPX.veTail) (F : XsF Y mg "InvalidView" "InvalidView.__init__" s_InvalidView__init__ "ValueError.__new__" HandSPX.veTail ["code"]) : XmA P w Y mg base "InvalidView" "InvalidView" 2 (fun C => sp0 C "InvalidView") := by
  obtain ⟨CB, fB, hmB, hga, hrd, hfB, hkB, FB⟩ := XB
  obtain ⟨C, hC, hm, O, hno, fI, fd, iC, tI, F⟩ := F
  exact ⟨C, hC, hm, _, _, _, _, PySem.Sxn.xb_VE, O, fI, iC, tI, fna_ok (fn_xsub0 (k := 1) O (hno _ (by simp)) F sc_InvalidView__init__ (fun cdv A outer s H E hr => pss_one (ps_expr (pe_cinit (by rfl) hmB (by decide) hga hrd hfB hkB FB hr (takes_of rfl rfl rfl rfl) (pa_cons (pv 0) (pa_cons pe_str pa_nil))))) (fun _ => rfl)) (F.binds fun _ _ _ _ _ _ us hl => match us, hl with | [_], _ => rfl)⟩
theorem d_claim_ok (T : Txt Y mg)  {f e1 e2 : Addr} {fd : FuncData} (F : FunD Y.K "claim" "claim" (defArgs s_claim) (defBody s_claim) (defScope s_claim) [.ref e1, .ref e2] [] f fd) : FnOk P w Y.K mg base (L2.CX P w) 1 f fd ["had", "lacking"] (spA Y (ar 2 (fnM 2 b_claim))) := by
  refine fn_okD F sc_claim rfl rfl fun cdv A outer s H E hr tk hp => ?_
  exact (dss_one (ds_ret (de_tup (da_cons de_str (da_cons (de_cty (cd_tuple rfl) (by rfl) T.b_tuple (by decide +kernel) (da_cons (de_sortSet rfl (by rfl) (by rfl) T.b_sorted (by rfl) T.b_set (de_var 0)) da_nil)) (da_cons (de_cty (cd_tuple rfl) (by rfl) T.b_tuple (by decide +kernel) (da_cons (de_sortSet rfl (by rfl) (by rfl) T.b_sorted (by rfl) T.b_set (de_var 1)) da_nil)) da_nil))))))
theorem d_claim (T : Txt Y mg)  (F : TpE2 Y.K mg "claim" s_claim) : DfA P w Y.K mg base "claim" 1 [] (spA Y f_claim) := by
  obtain ⟨f, fd, e1, e2, F, h1, h2, hm⟩ := F
  unfold f_claim
  exact ⟨f, (fna_pos0 (d_claim_ok T  F) (F.binds1 2 2 (by simp) rfl fun T kV doc pm an cdv ct us its l1 l2 => match us, its, l1, l2 with | [_, _], [_, _], _, _ => ⟨_, rfl, rfl⟩) rfl), hm, F.kp⟩
theorem d_claim_d0 (T : Txt Y mg)  (F : TpE2 Y.K mg "claim" s_claim) : DfA P w Y.K mg base "claim" 1 [] (spA Y f_claim_d0) := by
  obtain ⟨f, fd, e1, e2, F, h1, h2, hm⟩ := F
  unfold f_claim_d0
  exact ⟨f, (fna_df (d_claim_ok T  F) (F.binds1 0 0 (by simp) rfl fun T kV doc pm an cdv ct us its l1 l2 => match us, its, l1, l2 with | [], [_, _], _, _ => ⟨_, rfl, rfl⟩) (fun μ G => .cons h1.vr (.cons h2.vr .nil)) rfl), hm, F.kp⟩
theorem d_claim_d1 (T : Txt Y mg)  (F : TpE2 Y.K mg "claim" s_claim) : DfA P w Y.K mg base "claim" 1 [] (spA Y f_claim_d1) := by
  obtain ⟨f, fd, e1, e2, F, h1, h2, hm⟩ := F
  unfold f_claim_d1
  exact ⟨f, (fna_df (d_claim_ok T  F) (F.binds1 1 1 (by simp) rfl fun T kV doc pm an cdv ct us its l1 l2 => match us, its, l1, l2 with | [_], [_, _], _, _ => ⟨_, rfl, rfl⟩) (fun μ G => .cons h2.vr .nil) rfl), hm, F.kp⟩
theorem d_claim_kd0lacking (T : Txt Y mg)  (F : TpE2 Y.K mg "claim" s_claim) : DfA P w Y.K mg base "claim" 1 ["lacking"] (spA Y f_claim_kd0lacking) := by
  obtain ⟨f, fd, e1, e2, F, h1, h2, hm⟩ := F
  unfold f_claim_kd0lacking
  exact ⟨f, (fna_kD1 (dvs := [.ref e1, .ref e2]) (k1 := "lacking") (d_claim_ok T  F) (F.kbindsD 0 ["lacking"] (fun {_} us its ws => its.take 1 ++ ws) (by simp) (fun r d z => (Vals.take 1 d).append z) (fun T kV doc pm an cdv ct us its ws l1 l2 l3 => match us, its, ws, l1, l2, l3 with | [], [_, _], [_], _, _, _ => ⟨_, rfl, rfl⟩)) (fun μ G => .cons h1.vr .nil)), hm, F.kp⟩
theorem d_law_choice (T : Txt Y mg) (D_law_draw : DfA P w Y.K mg base "_law_draw" 1 [] (spA Y fDraw)) (F : Tp Y.K mg "_law_choice" s_law_choice) : DfA P w Y.K mg base "_law_choice" 2 [] (spA Y f_law_choice) := by
  obtain ⟨f, fd, F, hm⟩ := F
  unfold f_law_choice
  refine ⟨f, (fna_pos (fn_ok F sc_law_choice rfl rfl fun cdv A outer s H E hr tk hp => ?_) (F.binds fun _ _ _ _ _ _ us hl => match us, hl with | [_, _], _ => rfl) rfl), hm, F.kp⟩
  exact (dss_one (ds_ret (de_ix (xd_ix rfl) (de_var 1) (de_ca D_law_draw (hr.mono (by omega)) tk (by rfl) (da_cons (de_var 0) (da_cons (de_cb (cd_len rfl) (by rfl) T.b_len (by decide +kernel) (da_cons (de_var 1) da_nil)) da_nil))) (fun _ _ => rfl))))
theorem d_law_letters (T : Txt Y mg)  (F : Tp Y.K mg "_law_letters" s_law_letters) : DfA P w Y.K mg base "_law_letters" 1 [] (spA Y f_law_letters) := by
  obtain ⟨f, fd, F, hm⟩ := F
  unfold f_law_letters
  refine ⟨f, (fna_pos (fn_ok F sc_law_letters rfl rfl fun cdv A outer s H E hr tk hp => ?_) (F.binds fun _ _ _ _ _ _ us hl => match us, hl with | [], _ => rfl) rfl), hm, F.kp⟩
  exact (dss_one (ds_ret de_str))
theorem d_law_words (T : Txt Y mg) (D_law_letters : DfA P w Y.K mg base "_law_letters" 1 [] (spA Y f_law_letters)) (D_law_choice : DfA P w Y.K mg base "_law_choice" 2 [] (spA Y f_law_choice)) (D_law_draw : DfA P w Y.K mg base "_law_draw" 1 [] (spA Y fDraw)) (F : Tp Y.K mg "_law_words" s_law_words) : DfA P w Y.K mg base "_law_words" 3 [] (spA Y f_law_words) := by
  obtain ⟨f, fd, F, hm⟩ := F
  unfold f_law_words
  refine ⟨f, fna_reg (fna_pos (fn_ok F sc_law_words rfl rfl fun cdv A outer s H E hr tk hp => ?_) (F.binds fun _ _ _ _ _ _ us hl => match us, hl with | [_, _, _], _ => rfl) rfl), hm, F.kp⟩
  exact (dss_cons (ds_par3 (i := 3) (j := 4) (l := 5) (by rfl) sc_law_words.nd rfl rfl rfl (by decide) (by decide) (by decide) rfl rfl rfl (da_cons (de_ca D_law_draw (hr.mono (by omega)) tk (by rfl) (da_cons (de_var 0) (da_cons (de_var 2) da_nil))) (da_cons (de_ca D_law_draw (hr.mono (by omega)) tk (by rfl) (da_cons (de_var 0) (da_cons de_int da_nil))) (da_cons (de_ca D_law_choice (hr.mono (by omega)) tk (by rfl) (da_cons (de_var 0) (da_cons (de_lst (da_cons de_int (da_cons de_int (da_cons de_int (da_cons de_int (da_cons de_int da_nil)))))) da_nil))) da_nil))) (by rfl))
  (dss_cons (ds_set (i := 6) sc_law_words.nd rfl (by first | exact Or.inl rfl | exact Or.inr rfl) (de_join rfl de_str (de_lc (own := [("_law_k", 7)]) (by rfl) sc_law_words.nd (di_range (by rfl) T.b_range (da_cons (de_var 2) da_nil)) (blkOk_by (own := [("_law_k", 7)]) (N := N_law_words) (sc := defScope s_law_words) (by decide +kernel)) (fun _ _ _ _ _ => (dg_name (i := 7) sc_law_words.nd rfl (by first | exact Or.inl rfl | exact Or.inr rfl))) (fun _ _ _ _ _ => dts_nil) (fun _ _ _ _ _ => (de_ca D_law_choice (hr.mono (by omega)) takes0 (by rfl) (da_cons (de_var 0) (da_cons (de_ca0 D_law_letters (hr.mono (by omega)) takes0 (by rfl)) da_nil)))) (by decide))))
  (dss_cons (ds_set (i := 8) sc_law_words.nd rfl (by first | exact Or.inl rfl | exact Or.inr rfl) (de_lstC da_nil))
  (dss_cons (ds_for hp (by rfl) (di_range (by rfl) T.b_range (da_cons (de_var 1) da_nil)) (dg_name (i := 7) sc_law_words.nd rfl (by first | exact Or.inl rfl | exact Or.inr rfl))
  (dss_cons (ds_set (i := 9) sc_law_words.nd rfl (by first | exact Or.inl rfl | exact Or.inr rfl) (de_ix (xd_ix rfl) (de_ca0 D_law_letters (hr.mono (by omega)) tk (by rfl)) (de_op od_mod (de_op (od_add rfl) (de_var 4) (de_op (od_mul rfl) (de_var 5) (de_var 7))) de_int) (fun _ _ => rfl)))
  (dss_one (ds_expr (de_app rfl (de_var 8) (de_op (od_add rfl) (de_op (od_add rfl) (de_sl rfl (de_var 6) do_no (do_some (de_var 3))) (de_var 9)) (de_sl rfl (de_var 6) (do_some (de_op (od_add rfl) (de_var 3) de_int)) do_no)))))))
  (dss_one (ds_ret (de_var 8)))))))
theorem d_law_kinds (T : Txt Y mg) (D_law_words : DfA P w Y.K mg base "_law_words" 3 [] (spA Y f_law_words)) (D_law_draw : DfA P w Y.K mg base "_law_draw" 1 [] (spA Y fDraw)) (F : Tp Y.K mg "_law_kinds" s_law_kinds) : DfA P w Y.K mg base "_law_kinds" 4 [] (spA Y f_law_kinds) := by
  obtain ⟨f, fd, F, hm⟩ := F
  unfold f_law_kinds
  refine ⟨f, (fna_pos (fn_ok F sc_law_kinds rfl rfl fun cdv A outer s H E hr tk hp => ?_) (F.binds fun _ _ _ _ _ _ us hl => match us, hl with | [_], _ => rfl) rfl), hm, F.kp⟩
  exact (dss_one (ds_ret (de_ca D_law_words (hr.mono (by omega)) tk (by rfl) (da_cons (de_var 0) (da_cons de_int (da_cons (de_op (od_add rfl) de_int (de_ca D_law_draw (hr.mono (by omega)) tk (by rfl) (da_cons (de_var 0) (da_cons de_int da_nil)))) da_nil))))))
theorem d_law_names (T : Txt Y mg) (D_law_words : DfA P w Y.K mg base "_law_words" 3 [] (spA Y f_law_words)) (D_law_draw : DfA P w Y.K mg base "_law_draw" 1 [] (spA Y fDraw)) (F : Tp Y.K mg "_law_names" s_law_names) : DfA P w Y.K mg base "_law_names" 4 [] (spA Y f_law_names) := by
  obtain ⟨f, fd, F, hm⟩ := F
  unfold f_law_names
  refine ⟨f, (fna_pos (fn_ok F sc_law_names rfl rfl fun cdv A outer s H E hr tk hp => ?_) (F.binds fun _ _ _ _ _ _ us hl => match us, hl with | [_, _], _ => rfl) rfl), hm, F.kp⟩
  exact (dss_one (ds_ret (de_ca D_law_words (hr.mono (by omega)) tk (by rfl) (da_cons (de_var 0) (da_cons (de_var 1) (da_cons (de_op (od_add rfl) de_int (de_ca D_law_draw (hr.mono (by omega)) tk (by rfl) (da_cons (de_var 0) (da_cons de_int da_nil)))) da_nil))))))
theorem d_all_of (T : Txt Y mg)  (F : Tp Y.K mg "all_of" s_all_of) : DfA P w Y.K mg base "all_of" 1 [] (spA Y f_all_of) := by
  obtain ⟨f, fd, F, hm⟩ := F
  unfold f_all_of
  refine ⟨f, (fna_star (ps := []) (pv := "parts") F sc_all_of rfl rfl (fun _ _ _ _ _ _ us rest hl => match us, hl, rest with | [], _, [] => rfl | [], _, _ :: _ => rfl) fun cdv A outer s H E hr tk hp => ?_), hm, F.kp⟩
  exact (dss_one (ds_ret (de_tup (da_cons de_str (da_star rfl (de_var 0) da_nil)))))
theorem d_named (T : Txt Y mg)  (F : Tp Y.K mg "named" s_named) : DfA P w Y.K mg base "named" 1 [] (spA Y f_named) := by
  obtain ⟨f, fd, F, hm⟩ := F
  unfold f_named
  refine ⟨f, (fna_pos (fn_ok F sc_named rfl rfl fun cdv A outer s H E hr tk hp => ?_) (F.binds fun _ _ _ _ _ _ us hl => match us, hl with | [_], _ => rfl) rfl), hm, F.kp⟩
  exact (dss_one (ds_ret (de_tup (da_cons de_str (da_cons (de_var 0) da_nil)))))
theorem d_when_ok (T : Txt Y mg)  {f e1 e2 : Addr} {fd : FuncData} (F : FunD Y.K "when" "when" (defArgs s_when) (defBody s_when) (defScope s_when) [] [("had", .ref e1), ("lacking", .ref e2)] f fd) : FnOk P w Y.K mg base (L2.CX P w) 1 f fd ["part", "had", "lacking"] (spA Y (ar 3 (fnM 3 b_when))) := by
  refine fn_okD F sc_when rfl rfl fun cdv A outer s H E hr tk hp => ?_
  exact (dss_one (ds_ret (de_tup (da_cons de_str (da_cons (de_cty (cd_tuple rfl) (by rfl) T.b_tuple (by decide +kernel) (da_cons (de_sortSet rfl (by rfl) (by rfl) T.b_sorted (by rfl) T.b_set (de_var 1)) da_nil)) (da_cons (de_cty (cd_tuple rfl) (by rfl) T.b_tuple (by decide +kernel) (da_cons (de_sortSet rfl (by rfl) (by rfl) T.b_sorted (by rfl) T.b_set (de_var 2)) da_nil)) (da_cons (de_var 0) da_nil)))))))
theorem d_when_d1 (T : Txt Y mg)  (F : TpW2 Y.K mg "when" s_when "had" "lacking") : DfA P w Y.K mg base "when" 1 [] (spA Y f_when_d1) := by
  obtain ⟨f, fd, e1, e2, F, h1, h2, hm⟩ := F
  unfold f_when_d1
  exact ⟨f, (fna_df (d_when_ok T  F) (F.binds0 1 (by simp) rfl (fun D doc pm an cdv ct us ks l1 l2 => match us, ks, l1, l2 with | [_], [_, _], _, _ => ⟨_, _, _, _, _, _, rfl, rfl, _, _, _, _, _, _, rfl, rfl, rfl⟩)) (fun μ G => .cons h1.vr (.cons h2.vr .nil)) rfl), hm, F.kp⟩
theorem d_when_klacking_had (T : Txt Y mg)  (F : TpW2 Y.K mg "when" s_when "had" "lacking") : DfA P w Y.K mg base "when" 1 ["lacking", "had"] (spA Y f_when_klacking_had) := by
  obtain ⟨f, fd, e1, e2, F, h1, h2, hm⟩ := F
  unfold f_when_klacking_had
  exact ⟨f, (fna_kR (n := 1) (k1 := "lacking") (k2 := "had") (d_when_ok T  F) (F.kbinds0 1 ["lacking", "had"] [] (fun {_} us _ ws => us ++ ws.reverse) (by simp) (by simp) (fun r _ z => r.append (vals_rev z)) (fun D doc pm an cdv ct us mv ws l1 l2 l3 => match us, mv, ws, l1, l2, l3 with | [_], [], [_, _], _, _, _ => rfl))), hm, F.kp⟩
theorem d_View__str__ (T : Txt Y mg)  (F : TmA Y "View" "__str__" "View.__str__" s_View__str__) : MdA P w Y mg base "View" "__str__" 1 [] (spA Y f_View__str__) := by
  obtain ⟨C, hC, cl, f, fd, F, hm⟩ := F
  unfold f_View__str__
  refine ⟨C, hC, cl, f, (fna_pos (fn_ok F sc_View__str__ rfl rfl fun cdv A outer s H E hr tk hp => ?_) (F.binds fun _ _ _ _ _ _ us hl => match us, hl with | [_], _ => rfl) rfl), hm⟩
  exact (dss_one (ds_ret (de_join rfl de_str (de_fld rfl T.f_held (de_var 0)))))
theorem d_is_lowercase (T : Txt Y mg)  (F : Tp Y.K mg "is_lowercase" s_is_lowercase) : DfA P w Y.K mg base "is_lowercase" 1 [] (spA Y f_is_lowercase) := by
  obtain ⟨f, fd, F, hm⟩ := F
  unfold f_is_lowercase
  refine ⟨f, (fna_pos (fn_ok F sc_is_lowercase rfl rfl fun cdv A outer s H E hr tk hp => ?_) (F.binds fun _ _ _ _ _ _ us hl => match us, hl with | [_, _], _ => rfl) rfl), hm, F.kp⟩
  exact (dss_one (ds_ret (de_and (de_chain od_le od_le de_int (de_cb (cd_len rfl) (by rfl) T.b_len (by decide +kernel) (da_cons (de_var 0) da_nil)) (de_var 1)) (de_one (de_cb (cd_all rfl (by rfl)) (by rfl) T.b_all (by decide +kernel) (da_cons (de_lc (own := [("sign", 2)]) (by rfl) sc_is_lowercase.nd (di_seq rfl (de_var 0)) (blkOk_by (own := [("sign", 2)]) (N := N_is_lowercase) (sc := defScope s_is_lowercase) (by decide +kernel)) (fun _ _ _ _ _ => (dg_name (i := 2) sc_is_lowercase.nd rfl (by first | exact Or.inl rfl | exact Or.inr rfl))) (fun _ _ _ _ _ => dts_nil) (fun _ _ _ _ _ => (de_cmp (od_in rfl (rm65 hr)) (de_var 2) (de_gs rfl T.g_LETTERS) (by rfl))) (by decide)) da_nil))))))
theorem d_is_word (T : Txt Y mg) (D_is_lowercase : DfA P w Y.K mg base "is_lowercase" 1 [] (spA Y f_is_lowercase)) (F : Tp Y.K mg "is_word" s_is_word) : DfA P w Y.K mg base "is_word" 2 [] (spA Y f_is_word) := by
  obtain ⟨f, fd, F, hm⟩ := F
  unfold f_is_word
  refine ⟨f, (fna_pos (fn_ok F sc_is_word rfl rfl fun cdv A outer s H E hr tk hp => ?_) (F.binds fun _ _ _ _ _ _ us hl => match us, hl with | [_], _ => rfl) rfl), hm, F.kp⟩
  exact (dss_one (ds_ret (de_ca D_is_lowercase (hr.mono (by omega)) tk (by rfl) (da_cons (de_var 0) (da_cons (de_gi rfl T.g_MAX_WORD) da_nil)))))
theorem d_is_part (T : Txt Y mg) (D_is_word : DfA P w Y.K mg base "is_word" 2 [] (spA Y f_is_word)) (F : Tp Y.K mg "is_part" s_is_part) : DfA P w Y.K mg base "is_part" 3 [] (spA Y f_is_part) := by
  obtain ⟨f, fd, F, hm⟩ := F
  unfold f_is_part
  refine ⟨f, (fna_pos (fn_ok F sc_is_part rfl rfl fun cdv A outer s H E hr tk hp => ?_) (F.binds fun _ _ _ _ _ _ us hl => match us, hl with | [_], _ => rfl) rfl), hm, F.kp⟩
  exact (dss_one (ds_ret (de_or (de_ca D_is_word (hr.mono (by omega)) tk (by rfl) (da_cons (de_var 0) da_nil)) (de_one (de_and (de_cmp (od_eq rfl hr.units) (de_cb (cd_len rfl) (by rfl) T.b_len (by decide +kernel) (da_cons (de_var 0) da_nil)) de_int (nomark _)) (de_and (de_cmp (od_eq rfl hr.units) (de_ix (xd_ix rfl) (de_var 0) de_int (fun _ _ => rfl)) de_str (nomark _)) (de_one (de_cmp (od_in rfl (rm65 hr)) (de_ix (xd_ix rfl) (de_var 0) de_int (fun _ _ => rfl)) (de_gs rfl T.g_FIGURES) (by rfl)))))))))
theorem d_View__init__ (T : Txt Y mg) (D_is_part : DfA P w Y.K mg base "is_part" 3 [] (spA Y f_is_part)) (X_InvalidView : XmA P w Y mg base "InvalidView" "InvalidView" 2 (fun C => sp0 C "InvalidView")) (F : TcA Y mg "View" "View" "View.__init__" s_View__init__) : McA P w Y mg base "View" "View" 4 [] (spA Y f_View__init__) := by
  obtain ⟨C, hC, hm, f, fd, F, M⟩ := F
  unfold f_View__init__
  refine ⟨C, hC, hm, f, (fna_pos (fn_ok F sc_View__init__ rfl rfl fun cdv A outer s H E hr tk hp => ?_) (F.binds fun _ _ _ _ _ _ us hl => match us, hl with | [_, _], _ => rfl) rfl), M⟩
  exact (dss_cons (ds_set (i := 2) sc_View__init__.nd rfl (by first | exact Or.inl rfl | exact Or.inr rfl) (de_split (de_var 1) de_str))
  (dss_cons (ds_if (dt_not (dt_val (de_cb (cd_all rfl (by rfl)) (by rfl) T.b_all (by decide +kernel) (da_cons (de_lc (own := [("word", 3)]) (by rfl) sc_View__init__.nd (di_seq rfl (de_var 2)) (blkOk_by (own := [("word", 3)]) (N := N_View__init__) (sc := defScope s_View__init__) (by decide +kernel)) (fun _ _ _ _ _ => (dg_name (i := 3) sc_View__init__.nd rfl (by first | exact Or.inl rfl | exact Or.inr rfl))) (fun _ _ _ _ _ => dts_nil) (fun _ _ _ _ _ => (de_ca D_is_part (hr.mono (by omega)) takes0 (by rfl) (da_cons (de_var 3) da_nil))) (by decide)) da_nil))))
  (dss_one (ds_rz0 rfl (by rfl) X_InvalidView (hr.mono (by omega)) tk (by rfl)))
  dss_nil)
  (dss_cons (ds_fld rfl T.f_held (de_var 0) (de_cty (cd_tuple rfl) (by rfl) T.b_tuple (by decide +kernel) (da_cons (de_sortSC (by rfl) T.b_sorted (own := [("word", 3)]) (by rfl) sc_View__init__.nd (di_seq rfl (de_var 2)) (blkOk_by (own := [("word", 3)]) (N := N_View__init__) (sc := defScope s_View__init__) (by decide +kernel)) (fun _ _ _ _ _ => (dg_name (i := 3) sc_View__init__.nd rfl (by first | exact Or.inl rfl | exact Or.inr rfl))) (fun _ _ _ _ _ => dts_nil) (fun _ _ _ _ _ => (de_var 3)) (by decide)) da_nil)))
  (dss_one (ds_if (dt_cmp od_gt (de_cb (cd_len rfl) (by rfl) T.b_len (by decide +kernel) (da_cons (de_fld rfl T.f_held (de_var 0)) da_nil)) (de_cv rfl T.cv_View_MAX_PARTS (fun _ _ => .int _) (by rfl)) (nomark _))
  (dss_one (ds_rz0 rfl (by rfl) X_InvalidView (hr.mono (by omega)) tk (by rfl)))
  dss_nil)))))
theorem d_knows (T : Txt Y mg) (D_View__str__ : MdA P w Y mg base "View" "__str__" 1 [] (spA Y f_View__str__)) (D_View__init__ : McA P w Y mg base "View" "View" 4 [] (spA Y f_View__init__)) (F : Tp Y.K mg "knows" s_knows) : DfA P w Y.K mg base "knows" 6 [] (spA Y f_knows) := by
  obtain ⟨f, fd, F, hm⟩ := F
  unfold f_knows
  refine ⟨f, (fna_pos (fn_ok F sc_knows rfl rfl fun cdv A outer s H E hr tk hp => ?_) (F.binds fun _ _ _ _ _ _ us hl => match us, hl with | [_, _], _ => rfl) rfl), hm, F.kp⟩
  exact (dss_one (ds_ret (de_tup (da_cons de_str (da_cons (de_cty (cd_strO rfl D_View__str__ (hr.mono (by omega))) (by rfl) T.b_str (by decide +kernel) (da_cons (de_naF rfl D_View__init__ (hr.mono (by omega)) tk (by rfl) (da_cons (de_var 0) da_nil)) da_nil)) (da_cons (de_var 1) da_nil))))))
theorem d_everyone (T : Txt Y mg) (D_View__str__ : MdA P w Y mg base "View" "__str__" 1 [] (spA Y f_View__str__)) (D_View__init__ : McA P w Y mg base "View" "View" 4 [] (spA Y f_View__init__)) (F : Tp Y.K mg "everyone" s_everyone) : DfA P w Y.K mg base "everyone" 6 [] (spA Y f_everyone) := by
  obtain ⟨f, fd, F, hm⟩ := F
  unfold f_everyone
  refine ⟨f, (fna_star (ps := ["part"]) (pv := "views") F sc_everyone rfl rfl (fun _ _ _ _ _ _ us rest hl => match us, hl, rest with | [_], _, [] => rfl | [_], _, _ :: _ => rfl) fun cdv A outer s H E hr tk hp => ?_), hm, F.kp⟩
  exact (dss_one (ds_ret (de_tup (da_cons de_str (da_cons (de_cty (cd_tuple rfl) (by rfl) T.b_tuple (by decide +kernel) (da_cons (de_lcE rfl rfl tk (own := [("view", 2)]) (by rfl) sc_everyone.nd (di_seq rfl (de_var 1)) (blkOk_by (own := [("view", 2)]) (N := N_everyone) (sc := defScope s_everyone) (by decide +kernel)) (fun _ _ _ _ _ => (dg_name (i := 2) sc_everyone.nd rfl (by first | exact Or.inl rfl | exact Or.inr rfl))) (fun _ _ _ _ _ => dts_nil) (fun _ _ _ _ _ xe W tk => (de_cty (cd_strO rfl D_View__str__ (hr.mono (by omega))) (by rfl) T.b_str (by decide +kernel) (da_cons (de_naF rfl D_View__init__ (hr.mono (by omega)) tk (by rfl) (da_cons (de_var 2) da_nil)) da_nil))) (by decide)) da_nil)) (da_cons (de_var 0) da_nil))))))
theorem d_common (T : Txt Y mg) (D_View__str__ : MdA P w Y mg base "View" "__str__" 1 [] (spA Y f_View__str__)) (D_View__init__ : McA P w Y mg base "View" "View" 4 [] (spA Y f_View__init__)) (F : Tp Y.K mg "common" s_common) : DfA P w Y.K mg base "common" 6 [] (spA Y f_common) := by
  obtain ⟨f, fd, F, hm⟩ := F
  unfold f_common
  refine ⟨f, (fna_star (ps := ["part"]) (pv := "views") F sc_common rfl rfl (fun _ _ _ _ _ _ us rest hl => match us, hl, rest with | [_], _, [] => rfl | [_], _, _ :: _ => rfl) fun cdv A outer s H E hr tk hp => ?_), hm, F.kp⟩
  exact (dss_one (ds_ret (de_tup (da_cons de_str (da_cons (de_cty (cd_tuple rfl) (by rfl) T.b_tuple (by decide +kernel) (da_cons (de_lcE rfl rfl tk (own := [("view", 2)]) (by rfl) sc_common.nd (di_seq rfl (de_var 1)) (blkOk_by (own := [("view", 2)]) (N := N_common) (sc := defScope s_common) (by decide +kernel)) (fun _ _ _ _ _ => (dg_name (i := 2) sc_common.nd rfl (by first | exact Or.inl rfl | exact Or.inr rfl))) (fun _ _ _ _ _ => dts_nil) (fun _ _ _ _ _ xe W tk => (de_cty (cd_strO rfl D_View__str__ (hr.mono (by omega))) (by rfl) T.b_str (by decide +kernel) (da_cons (de_naF rfl D_View__init__ (hr.mono (by omega)) tk (by rfl) (da_cons (de_var 2) da_nil)) da_nil))) (by decide)) da_nil)) (da_cons (de_var 0) da_nil))))))
theorem d_always (T : Txt Y mg)  (F : Tp Y.K mg "always" s_always) : DfA P w Y.K mg base "always" 1 [] (spA Y f_always) := by
  obtain ⟨f, fd, F, hm⟩ := F
  unfold f_always
  refine ⟨f, (fna_pos (fn_ok F sc_always rfl rfl fun cdv A outer s H E hr tk hp => ?_) (F.binds fun _ _ _ _ _ _ us hl => match us, hl with | [_], _ => rfl) rfl), hm, F.kp⟩
  exact (dss_one (ds_ret (de_tup (da_cons de_str (da_cons (de_var 0) da_nil)))))
theorem d_sofar (T : Txt Y mg)  (F : Tp Y.K mg "sofar" s_sofar) : DfA P w Y.K mg base "sofar" 1 [] (spA Y f_sofar) := by
  obtain ⟨f, fd, F, hm⟩ := F
  unfold f_sofar
  refine ⟨f, (fna_pos (fn_ok F sc_sofar rfl rfl fun cdv A outer s H E hr tk hp => ?_) (F.binds fun _ _ _ _ _ _ us hl => match us, hl with | [_], _ => rfl) rfl), hm, F.kp⟩
  exact (dss_one (ds_ret (de_tup (da_cons de_str (da_cons (de_var 0) da_nil)))))
theorem d_sure (T : Txt Y mg)  (F : Tp Y.K mg "sure" s_sure) : DfA P w Y.K mg base "sure" 1 [] (spA Y f_sure) := by
  obtain ⟨f, fd, F, hm⟩ := F
  unfold f_sure
  refine ⟨f, (fna_pos (fn_ok F sc_sure rfl rfl fun cdv A outer s H E hr tk hp => ?_) (F.binds fun _ _ _ _ _ _ us hl => match us, hl with | [_], _ => rfl) rfl), hm, F.kp⟩
  exact (dss_one (ds_ret (de_tup (da_cons de_str (da_cons (de_var 0) da_nil)))))
theorem d_law_same (T : Txt Y mg)  (F0 : Tp Y.K mg "_law_same" s_law_same) : ∀ n, DfA P w Y.K mg base "_law_same" n [] (spA Y (f_law_same n))
  | 0 => by
    obtain ⟨f, fd, F, hm⟩ := id F0
    rw [f_law_same_z]
    exact ⟨f, fun _ _ _ _ _ _ _ _ _ _ _ _ _ _ _ h => by obtain ⟨_, _, _, _, _, _, _, z, _⟩ := h; exact z.elim, hm, F.kp⟩
  | n + 1 => by
    have D_law_same := d_law_same T  F0 n
    obtain ⟨f, fd, F, hm⟩ := id F0
    rw [f_law_same_s]
    refine ⟨f, (fna_pos (fn_ok F sc_law_same rfl rfl fun cdv A outer s H E hr tk hp => ?_) (F.binds fun _ _ _ _ _ _ us hl => match us, hl with | [_, _], _ => rfl) rfl), hm, F.kp⟩
    exact (dss_cons (ds_if (DW.dt (dw_or (dt_cmp od_is (de_var 1) de_non (nomark _)) (dw_or1 (dt_cmp od_is (de_var 0) de_non (nomark _)))))
  (dss_one (ds_ret (de_and (de_cmp od_is (de_var 0) de_non (nomark _)) (de_one (de_cmp od_is (de_var 1) de_non (nomark _))))))
  dss_nil)
  (dss_cons (ds_if (dt_val (de_isi2 (n := "list") (n' := "tuple") rfl (by rfl) T.b_isinstance (de_var 1) (by rfl) T.b_list (by decide +kernel) rfl (by rfl) T.b_tuple (by decide +kernel) rfl))
  (dss_cons (ds_if (DW.dt (dw_or (dt_cmp (od_ne rfl hr.units) (de_cb (cd_isi rfl) (by rfl) T.b_isinstance (by decide +kernel) (da_cons (de_var 0) (da_cons (de_ty (n := "list") (by rfl) T.b_list (by decide +kernel) rfl) da_nil))) (de_cb (cd_isi rfl) (by rfl) T.b_isinstance (by decide +kernel) (da_cons (de_var 1) (da_cons (de_ty (n := "list") (by rfl) T.b_list (by decide +kernel) rfl) da_nil))) (nomark _)) (dw_or1 (dt_cmp (od_ne rfl hr.units) (de_cb (cd_isi rfl) (by rfl) T.b_isinstance (by decide +kernel) (da_cons (de_var 0) (da_cons (de_ty (n := "tuple") (by rfl) T.b_tuple (by decide +kernel) rfl) da_nil))) (de_cb (cd_isi rfl) (by rfl) T.b_isinstance (by decide +kernel) (da_cons (de_var 1) (da_cons (de_ty (n := "tuple") (by rfl) T.b_tuple (by decide +kernel) rfl) da_nil))) (nomark _)))))
  (dss_one (ds_ret de_bl))
  dss_nil)
  (dss_one (ds_ret (de_and (de_cmp (od_eq rfl hr.units) (de_cb (cd_len rfl) (by rfl) T.b_len (by decide +kernel) (da_cons (de_var 0) da_nil)) (de_cb (cd_len rfl) (by rfl) T.b_len (by decide +kernel) (da_cons (de_var 1) da_nil)) (nomark _)) (de_one (de_cb (cd_all rfl (by rfl)) (by rfl) T.b_all (by decide +kernel) (da_cons (de_lc (own := [("_law_one", 2), ("_law_other", 3)]) (by rfl) sc_law_same.nd (di_zip rfl (by rfl) T.b_zip (da_cons (de_var 0) (da_cons (de_var 1) da_nil))) (blkOk_by (own := [("_law_one", 2), ("_law_other", 3)]) (N := N_law_same) (sc := defScope s_law_same) (by decide +kernel)) (fun _ _ _ _ _ => (dg_tup (n := 2) rfl (by rfl) (dgs_cons (dg_name (i := 2) sc_law_same.nd rfl (by first | exact Or.inl rfl | exact Or.inr rfl)) (dgs_cons (dg_name (i := 3) sc_law_same.nd rfl (by first | exact Or.inl rfl | exact Or.inr rfl)) dgs_nil)))) (fun _ _ _ _ _ => dts_nil) (fun _ _ _ _ _ => (de_ca D_law_same (hr.mono (by omega)) takes0 (by rfl) (da_cons (de_var 2) (da_cons (de_var 3) da_nil)))) (by decide)) da_nil)))))))
  dss_nil)
  (dss_cons (ds_if (DW.dt (dw_or (dt_cmp (od_ne rfl hr.units) (de_cb (cd_isi rfl) (by rfl) T.b_isinstance (by decide +kernel) (da_cons (de_var 0) (da_cons (de_ty (n := "bool") (by rfl) T.b_bool (by decide +kernel) rfl) da_nil))) (de_cb (cd_isi rfl) (by rfl) T.b_isinstance (by decide +kernel) (da_cons (de_var 1) (da_cons (de_ty (n := "bool") (by rfl) T.b_bool (by decide +kernel) rfl) da_nil))) (nomark _)) (dw_or1 (dt_cmp (od_ne rfl hr.units) (de_cb (cd_isi rfl) (by rfl) T.b_isinstance (by decide +kernel) (da_cons (de_var 0) (da_cons (de_ty (n := "int") (by rfl) T.b_int (by decide +kernel) rfl) da_nil))) (de_cb (cd_isi rfl) (by rfl) T.b_isinstance (by decide +kernel) (da_cons (de_var 1) (da_cons (de_ty (n := "int") (by rfl) T.b_int (by decide +kernel) rfl) da_nil))) (nomark _)))))
  (dss_one (ds_ret de_bl))
  dss_nil)
  (dss_one (ds_ret (de_and (de_cmp (od_eq rfl hr.units) (de_cb (cd_isi rfl) (by rfl) T.b_isinstance (by decide +kernel) (da_cons (de_var 0) (da_cons (de_ty (n := "str") (by rfl) T.b_str (by decide +kernel) rfl) da_nil))) (de_cb (cd_isi rfl) (by rfl) T.b_isinstance (by decide +kernel) (da_cons (de_var 1) (da_cons (de_ty (n := "str") (by rfl) T.b_str (by decide +kernel) rfl) da_nil))) (nomark _)) (de_one (de_cmp (od_eq rfl hr.units) (de_var 0) (de_var 1) (nomark _)))))))))
end
end Sx

end
section
set_option Elab.async false
set_option linter.all false
set_option maxRecDepth 100000
set_option maxHeartbeats 2000000
namespace Sx
open PySem PySem.Spec PyProof.Rows L2 Cl RZ ZN


section
variable {P : Program} {w : World} {mg : Str → Option Value} {base : Heap} {Y : Ky}
theorem fn_law {c P' : Addr} (LT : LamT Y base mg ("law" ++ ".<locals>.") c P') (T : Txt Y mg) (D_law_source : DfA P w Y.K mg base "_law_source" 1 [] (spSrc Y.K)) (D_common : DfA P w Y.K mg base "common" 6 [] (spA Y f_common)) (D_everyone : DfA P w Y.K mg base "everyone" 6 [] (spA Y f_everyone)) (D_knows : DfA P w Y.K mg base "knows" 6 [] (spA Y f_knows)) (D_law_choice : DfA P w Y.K mg base "_law_choice" 2 [] (spA Y f_law_choice)) (D_law_same : ∀ n, DfA P w Y.K mg base "_law_same" n [] (spA Y (f_law_same n))) (D_when_klacking_had : DfA P w Y.K mg base "when" 1 ["lacking", "had"] (spA Y f_when_klacking_had)) (D_named : DfA P w Y.K mg base "named" 1 [] (spA Y f_named)) (D_sure : DfA P w Y.K mg base "sure" 1 [] (spA Y f_sure)) (D_sofar : DfA P w Y.K mg base "sofar" 1 [] (spA Y f_sofar)) (D_always : DfA P w Y.K mg base "always" 1 [] (spA Y f_always)) (D_when_d1 : DfA P w Y.K mg base "when" 1 [] (spA Y f_when_d1)) (D_all_of : DfA P w Y.K mg base "all_of" 1 [] (spA Y f_all_of)) (D_claim_kd0lacking : DfA P w Y.K mg base "claim" 1 ["lacking"] (spA Y f_claim_kd0lacking)) (D_claim_d1 : DfA P w Y.K mg base "claim" 1 [] (spA Y f_claim_d1)) (D_claim_d0 : DfA P w Y.K mg base "claim" 1 [] (spA Y f_claim_d0)) (D_law_names : DfA P w Y.K mg base "_law_names" 4 [] (spA Y f_law_names)) (D_law_kinds : DfA P w Y.K mg base "_law_kinds" 4 [] (spA Y f_law_kinds)) (D_law_draw : DfA P w Y.K mg base "_law_draw" 1 [] (spA Y fDraw)) (D_claim : DfA P w Y.K mg base "claim" 1 [] (spA Y f_claim)) (pure : Law) {f : Addr} {fd : FuncData} (F : Fun Y.K "law" "law" s_law f fd) (hcd : fd.code = .ref c) : FnOk P w Y.K mg base (L2.CX P w) 10 f fd ["_law_script"] (spLawT Y) := by
  refine law_okT (n := 16) (m := b_law) F hcd sc_law rfl pure fun A outer s H E hr tk hp => ⟨_, _, rfl, ps_set (i := 1) sc_law.nd rfl (by first | exact Or.inl rfl | exact Or.inr rfl) (pe_ca D_law_source (hr.mono (by omega)) tk (by rfl) (pa_cons (pv 0) pa_nil) (by decide) rfl rfl), ?_⟩
  exact (dss_cons (ds_for hp (by rfl) (di_range (by rfl) T.b_range (da_cons de_int da_nil)) (dg_name (i := 2) sc_law.nd rfl (by first | exact Or.inl rfl | exact Or.inr rfl))
  (dss_cons (ds_setLc (i := 3) (own := [("_law_k", 4)]) (by rfl) sc_law.nd rfl rfl (sw_true rfl rfl rfl (by decide +kernel)) (di_range (by rfl) T.b_range (da_cons (de_ca D_law_draw (hr.mono (by omega)) tk (by rfl) (da_cons (de_var 1) (da_cons de_int da_nil))) da_nil)) (blkOk_by (own := [("_law_k", 4)]) (N := N_law) (sc := defScope s_law) (by decide +kernel)) (fun _ _ _ _ _ => (dg_name (i := 4) sc_law.nd rfl (by first | exact Or.inl rfl | exact Or.inr rfl))) (fun _ _ _ _ _ => dts_nil) (fun _ _ _ _ _ => (de_ca D_law_draw (hr.mono (by omega)) takes0 (by rfl) (da_cons (de_var 1) (da_cons de_int da_nil)))) (by decide))
  (dss_cons (ds_setLc (i := 5) (own := [("_law_k", 4)]) (by rfl) sc_law.nd rfl rfl (sw_true rfl rfl rfl (by decide +kernel)) (di_range (by rfl) T.b_range (da_cons (de_ca D_law_draw (hr.mono (by omega)) tk (by rfl) (da_cons (de_var 1) (da_cons de_int da_nil))) da_nil)) (blkOk_by (own := [("_law_k", 4)]) (N := N_law) (sc := defScope s_law) (by decide +kernel)) (fun _ _ _ _ _ => (dg_name (i := 4) sc_law.nd rfl (by first | exact Or.inl rfl | exact Or.inr rfl))) (fun _ _ _ _ _ => dts_nil) (fun _ _ _ _ _ => (de_ca D_law_draw (hr.mono (by omega)) takes0 (by rfl) (da_cons (de_var 1) (da_cons de_int da_nil)))) (by decide))
  (dss_cons (ds_set (i := 6) sc_law.nd rfl (by first | exact Or.inl rfl | exact Or.inr rfl) (de_lst (da_cons (de_cty (cd_list rfl) (by rfl) T.b_list (by decide +kernel) (da_cons (de_var 3) da_nil)) (da_cons (de_cty (cd_list rfl) (by rfl) T.b_list (by decide +kernel) (da_cons (de_var 5) da_nil)) da_nil))))
  (dss_cons (ds_set (i := 7) sc_law.nd rfl (by first | exact Or.inl rfl | exact Or.inr rfl) (de_tup (da_cons (de_cty (cd_tuple rfl) (by rfl) T.b_tuple (by decide +kernel) (da_cons (de_sortSet rfl (by rfl) (by rfl) T.b_sorted (by rfl) T.b_set (de_var 3)) da_nil)) (da_cons (de_cty (cd_tuple rfl) (by rfl) T.b_tuple (by decide +kernel) (da_cons (de_sortSet rfl (by rfl) (by rfl) T.b_sorted (by rfl) T.b_set (de_var 5)) da_nil)) da_nil))))
  (dss_cons (ds_set (i := 8) sc_law.nd rfl (by first | exact Or.inl rfl | exact Or.inr rfl) (de_ca D_claim (hr.mono (by omega)) tk (by rfl) (da_cons (de_var 3) (da_cons (de_cty (cd_tuple rfl) (by rfl) T.b_tuple (by decide +kernel) (da_cons (de_var 5) da_nil)) da_nil))))
  (dss_cons (ds_set (i := 9) sc_law.nd rfl (by first | exact Or.inl rfl | exact Or.inr rfl) (de_lc (own := [("_law_k", 4)]) (by rfl) sc_law.nd (di_range (by rfl) T.b_range (da_cons de_int da_nil)) (blkOk_by (own := [("_law_k", 4)]) (N := N_law) (sc := defScope s_law) (by decide +kernel)) (fun _ _ _ _ _ => (dg_name (i := 4) sc_law.nd rfl (by first | exact Or.inl rfl | exact Or.inr rfl))) (fun _ _ _ _ _ => dts_nil) (fun _ _ _ _ _ => (de_op (od_add rfl) (de_op (od_add rfl) (de_ca D_law_choice (hr.mono (by omega)) takes0 (by rfl) (da_cons (de_var 1) (da_cons (de_ca D_law_kinds (hr.mono (by omega)) takes0 (by rfl) (da_cons (de_var 1) da_nil)) da_nil))) de_str) (de_cty cd_str (by rfl) T.b_str (by decide +kernel) (da_cons (de_ca D_law_draw (hr.mono (by omega)) takes0 (by rfl) (da_cons (de_var 1) (da_cons de_int da_nil))) da_nil)))) (by decide)))
  (dss_cons (ds_set (i := 10) sc_law.nd rfl (by first | exact Or.inl rfl | exact Or.inr rfl) (de_cty (cd_tuple rfl) (by rfl) T.b_tuple (by decide +kernel) (da_cons (de_lc (own := [("_law_view", 11)]) (by rfl) sc_law.nd (di_seq rfl (de_var 9)) (blkOk_by (own := [("_law_view", 11)]) (N := N_law) (sc := defScope s_law) (by decide +kernel)) (fun _ _ _ _ _ => (dg_name (i := 11) sc_law.nd rfl (by first | exact Or.inl rfl | exact Or.inr rfl))) (fun _ _ _ _ _ => dts_nil) (fun _ _ _ _ _ => (de_join rfl de_str (de_cb (cd_sortS rfl) (by rfl) T.b_sorted (by decide +kernel) (da_cons (de_split (de_var 11) de_str) da_nil)))) (by decide)) da_nil)))
  (dss_cons (ds_set (i := 12) sc_law.nd rfl (by first | exact Or.inl rfl | exact Or.inr rfl) (de_ix (xd_ix rfl) (de_ca D_law_names (hr.mono (by omega)) tk (by rfl) (da_cons (de_var 1) (da_cons de_int da_nil))) de_int (fun _ _ => rfl)))
  (dss_cons (ds_set (i := 13) sc_law.nd rfl (by first | exact Or.inl rfl | exact Or.inr rfl) (de_lstC (da_cons (de_var 8) (da_cons (de_ca0 D_claim_d0 (hr.mono (by omega)) tk (by rfl)) (da_cons (de_ca D_claim_d1 (hr.mono (by omega)) tk (by rfl) (da_cons (de_var 3) da_nil)) (da_cons (de_caK0 D_claim_kd0lacking (hr.mono (by omega)) tk (by rfl) (dk_cons (de_var 5) dk_nil)) (da_cons (de_ca0 D_all_of (hr.mono (by omega)) tk (by rfl)) (da_cons (de_ca D_all_of (hr.mono (by omega)) tk (by rfl) (da_cons (de_var 8) (da_cons (de_var 8) (da_cons (de_ca D_named (hr.mono (by omega)) tk (by rfl) (da_cons (de_var 12) da_nil)) da_nil)))) da_nil))))))))
  (dss_cons (ds_set (i := 13) sc_law.nd rfl (by first | exact Or.inl rfl | exact Or.inr rfl) (de_op (od_addC rfl) (de_var 13) (de_lst (da_cons (de_ca D_when_d1 (hr.mono (by omega)) tk (by rfl) (da_cons (de_var 8) da_nil)) (da_cons (de_caK D_when_klacking_had (hr.mono (by omega)) tk (by rfl) (da_cons (de_var 8) da_nil) (dk_cons (de_var 5) (dk_cons (de_var 3) dk_nil))) (da_cons (de_ca D_knows (hr.mono (by omega)) tk (by rfl) (da_cons (de_ix (xd_ix rfl) (de_var 9) de_int (fun _ _ => rfl)) (da_cons (de_var 8) da_nil))) da_nil))))))
  (dss_cons (ds_set (i := 13) sc_law.nd rfl (by first | exact Or.inl rfl | exact Or.inr rfl) (de_op (od_addC rfl) (de_var 13) (de_lst (da_cons (de_ca D_everyone (hr.mono (by omega)) tk (by rfl) (da_cons (de_var 8) (da_cons (de_ix (xd_ix rfl) (de_var 9) de_int (fun _ _ => rfl)) da_nil))) (da_cons (de_ca D_everyone (hr.mono (by omega)) tk (by rfl) (da_cons (de_var 8) (da_cons (de_ix (xd_ix rfl) (de_var 9) de_int (fun _ _ => rfl)) (da_cons (de_ix (xd_ix rfl) (de_var 9) de_int (fun _ _ => rfl)) da_nil)))) (da_cons (de_ca D_common (hr.mono (by omega)) tk (by rfl) (da_cons (de_var 8) (da_cons (de_ix (xd_ix rfl) (de_var 9) de_int (fun _ _ => rfl)) (da_cons (de_ix (xd_ix rfl) (de_var 9) de_int (fun _ _ => rfl)) da_nil)))) da_nil))))))
  (dss_cons (ds_set (i := 13) sc_law.nd rfl (by first | exact Or.inl rfl | exact Or.inr rfl) (de_op (od_addC rfl) (de_var 13) (de_lst (da_cons (de_ca D_always (hr.mono (by omega)) tk (by rfl) (da_cons (de_var 8) da_nil)) (da_cons (de_ca D_sofar (hr.mono (by omega)) tk (by rfl) (da_cons (de_var 8) da_nil)) (da_cons (de_ca D_sure (hr.mono (by omega)) tk (by rfl) (da_cons (de_var 8) da_nil)) (da_cons (de_ca D_named (hr.mono (by omega)) tk (by rfl) (da_cons (de_var 12) da_nil)) da_nil)))))))
  (dss_cons (ds_expr (de_app rfl (de_var 13) (de_caK D_when_klacking_had (hr.mono (by omega)) tk (by rfl) (da_cons (de_var 8) da_nil) (dk_cons (de_cty (cd_tuple rfl) (by rfl) T.b_tuple (by decide +kernel) (da_cons (de_var 5) da_nil)) (dk_cons (de_cty (cd_tuple rfl) (by rfl) T.b_tuple (by decide +kernel) (da_cons (de_var 3) da_nil)) dk_nil)))))
  (dss_cons (ds_set (i := 14) sc_law.nd rfl (by first | exact Or.inl rfl | exact Or.inr rfl) (de_tup (da_cons de_str (da_cons (de_ix (xd_ix rfl) (de_var 7) de_int (fun _ _ => rfl)) (da_cons (de_ix (xd_ix rfl) (de_var 7) de_int (fun _ _ => rfl)) da_nil)))))
  (dss_cons (ds_set (i := 15) sc_law.nd rfl (by first | exact Or.inl rfl | exact Or.inr rfl) (de_lst (da_cons (de_var 14) (da_cons (de_tup (da_cons de_str (da_cons (de_tup da_nil) (da_cons (de_tup da_nil) da_nil)))) (da_cons (de_tup (da_cons de_str (da_cons (de_ix (xd_ix rfl) (de_var 7) de_int (fun _ _ => rfl)) (da_cons (de_tup da_nil) da_nil)))) (da_cons (de_tup (da_cons de_str (da_cons (de_tup da_nil) (da_cons (de_ix (xd_ix rfl) (de_var 7) de_int (fun _ _ => rfl)) da_nil)))) (da_cons (de_tup (da_cons de_str da_nil)) da_nil)))))))
  (dss_cons (ds_set (i := 15) sc_law.nd rfl (by first | exact Or.inl rfl | exact Or.inr rfl) (de_op (od_add rfl) (de_var 15) (de_lst (da_cons (de_tup (da_cons de_str (da_cons (de_var 14) (da_cons (de_var 14) (da_cons (de_tup (da_cons de_str (da_cons (de_var 12) da_nil))) da_nil))))) (da_cons (de_tup (da_cons de_str (da_cons (de_tup da_nil) (da_cons (de_tup da_nil) (da_cons (de_var 14) da_nil))))) (da_cons (de_tup (da_cons de_str (da_cons (de_ix (xd_ix rfl) (de_var 7) de_int (fun _ _ => rfl)) (da_cons (de_ix (xd_ix rfl) (de_var 7) de_int (fun _ _ => rfl)) (da_cons (de_var 14) da_nil))))) da_nil))))))
  (dss_cons (ds_set (i := 15) sc_law.nd rfl (by first | exact Or.inl rfl | exact Or.inr rfl) (de_op (od_add rfl) (de_var 15) (de_lst (da_cons (de_tup (da_cons de_str (da_cons (de_ix (xd_ix rfl) (de_var 10) de_int (fun _ _ => rfl)) (da_cons (de_var 14) da_nil)))) (da_cons (de_tup (da_cons de_str (da_cons (de_sl rfl (de_var 10) do_no (do_some de_int)) (da_cons (de_var 14) da_nil)))) da_nil)))))
  (dss_cons (ds_set (i := 15) sc_law.nd rfl (by first | exact Or.inl rfl | exact Or.inr rfl) (de_op (od_add rfl) (de_var 15) (de_lst (da_cons (de_tup (da_cons de_str (da_cons (de_tup (da_cons (de_ix (xd_ix rfl) (de_var 10) de_int (fun _ _ => rfl)) (da_cons (de_ix (xd_ix rfl) (de_var 10) de_int (fun _ _ => rfl)) da_nil))) (da_cons (de_var 14) da_nil)))) (da_cons (de_tup (da_cons de_str (da_cons (de_var 10) (da_cons (de_var 14) da_nil)))) da_nil)))))
  (dss_cons (ds_set (i := 15) sc_law.nd rfl (by first | exact Or.inl rfl | exact Or.inr rfl) (de_op (od_add rfl) (de_var 15) (de_lst (da_cons (de_tup (da_cons de_str (da_cons (de_var 14) da_nil))) (da_cons (de_tup (da_cons de_str (da_cons (de_var 14) da_nil))) (da_cons (de_tup (da_cons de_str (da_cons (de_var 14) da_nil))) (da_cons (de_tup (da_cons de_str (da_cons (de_var 12) da_nil))) (da_cons (de_tup (da_cons de_str (da_cons (de_ix (xd_ix rfl) (de_var 7) de_int (fun _ _ => rfl)) (da_cons (de_ix (xd_ix rfl) (de_var 7) de_int (fun _ _ => rfl)) (da_cons (de_var 14) da_nil))))) da_nil))))))))
  (dss_cons (ds_if (DW.dt (dw_or (dt_not (dt_val (de_ca (D_law_same 6) (hr.mono (by omega)) tk (by rfl) (da_cons (de_var 13) (da_cons (de_var 15) da_nil))))) (dw_or1 (dt_cmp (od_ne rfl hr.units) (de_lst (da_cons (de_var 3) (da_cons (de_var 5) da_nil))) (de_var 6) (nomark _)))))
  (dss_one (ds_ret de_bl))
  dss_nil)
  (dss_cons (ds_set (i := 16) sc_law.nd rfl (by first | exact Or.inl rfl | exact Or.inr rfl) (de_ca D_law_choice (hr.mono (by omega)) tk (by rfl) (da_cons (de_var 1) (da_cons (de_lst (da_cons de_str (da_cons de_str (da_cons de_str (da_cons (de_op (od_add rfl) (de_ix (xd_ix rfl) (de_var 9) de_int (fun _ _ => rfl)) de_str) (da_cons de_str da_nil)))))) da_nil))))
  (dss_cons (ds_set (i := 17) sc_law.nd rfl (by first | exact Or.inl rfl | exact Or.inr rfl) (de_lstC (da_cons (de_ix (xd_ix rfl) (de_outc (k := 6) rfl T.outF LT (by rfl) (hr.mono (by omega)) (lamS2_by (N := N_law) (sc := defScope s_law) (by decide +kernel)) (.inl ⟨rfl, rfl, fun _ _ _ _ _ _ => rfl⟩) (by rfl) (fun A outer s H E f c' hr tk hp => (de_ca D_knows (hr.mono (by omega)) tk (by rfl) (da_cons (de_var 16) (da_cons (de_var 8) da_nil))))) de_int (fun _ _ => rfl)) (da_cons (de_ix (xd_ix rfl) (de_outc (k := 6) rfl T.outF LT (by rfl) (hr.mono (by omega)) (lamS2_by (N := N_law) (sc := defScope s_law) (by decide +kernel)) (.inr ⟨"_law_a", 0, _, _, rfl, rfl, rfl, fun _ _ _ _ _ _ _ => ⟨_, rfl, fun _ => rfl⟩⟩) (by rfl) (fun A outer s H E f c' hr tk hp => (de_ca D_everyone (hr.mono (by omega)) tk (by rfl) (da_cons (de_var 8) (da_cons (de_ix (xd_ix rfl) (de_var 9) de_int (fun _ _ => rfl)) (da_cons (de_var 16) da_nil)))))) de_int (fun _ _ => rfl)) da_nil))))
  (dss_cons (ds_expr (de_app rfl (de_var 17) (de_ix (xd_ix rfl) (de_outc (k := 6) rfl T.outF LT (by rfl) (hr.mono (by omega)) (lamS2_by (N := N_law) (sc := defScope s_law) (by decide +kernel)) (.inl ⟨rfl, rfl, fun _ _ _ _ _ _ => rfl⟩) (by rfl) (fun A outer s H E f c' hr tk hp => (de_ca D_common (hr.mono (by omega)) tk (by rfl) (da_cons (de_var 8) (da_cons (de_var 16) (da_cons (de_ix (xd_ix rfl) (de_var 9) de_int (fun _ _ => rfl)) da_nil)))))) de_int (fun _ _ => rfl))))
  (dss_one (ds_if (dt_cmp (od_ne rfl hr.units) (de_var 17) (de_op (od_mul rfl) (de_lst (da_cons de_str da_nil)) de_int) (nomark _))
  (dss_one (ds_ret de_bl))
  dss_nil))))))))))))))))))))))))))
  (dss_one (ds_ret (de_cmp (od_eq rfl hr.units) (de_lst (da_cons (de_gi rfl T.g_MAX_DEPTH) (da_cons (de_gi rfl T.g_MAX_PARTS) da_nil))) (de_lst (da_cons de_int (da_cons de_int da_nil))) (nomark _)))))
end
end Sx

end
section
set_option Elab.async false
set_option linter.all false
set_option maxRecDepth 100000
set_option maxHeartbeats 2000000
/-! SXP: reckoning over plain values -/
namespace Sx
open PySem L2 Cl
/-- tuples and lists of numbers -/
abbrev tupI (xs : List Int) : Val := .tup (xs.map .int)
abbrev lstI (xs : List Int) : Val := .lst (xs.map .int)
/-! ### equality -/
theorem oEq_sc {u v : Val} {b : Bool} {h : Mh} {q : VQ} (e : scEq u v = some b) (k : q (.bl b) h) : oEq u v h q := .inl ⟨b, e, k⟩
theorem oNe_sc {u v : Val} {b : Bool} {h : Mh} {q : VQ} (e : scEq u v = some b) (k : q (.bl (!b)) h) : oNe u v h q := .inl ⟨b, e, k⟩
theorem onB_t {b : Bool} {T F : Prop} (e : b = true) (k : T) : onB (.bl b) T F := by subst e; exact k
theorem onB_f {b : Bool} {T F : Prop} (e : b = false) (k : F) : onB (.bl b) T F := by subst e; exact k
theorem onB_i {b : Bool} {T F : Prop} (k : if b = true then T else F) : onB (.bl b) T F := by cases b <;> simpa [onB] using k
/-! ### comprehensions -/
section
variable {α : Type} {al : Mh → Prop} {g : MG} {t : MT} {e : ME} {env : Me} {h : Mh}
/-- items drawn: R says what may come of an item; none: it is left out -/
theorem lc_gen (R : α → Option Val → Prop) (i : α → Val) (hal : al h) : ∀ (L : List α) (acc : List Val) {q : List Val → Mh → Prop},
    (∀ a ∈ L, ∀ (k : VQ) (n : Mh → Prop), (∀ o, R a o → match o with | some y => k y h | none => n h) → g (i a) env h fun env2 h2 => t env2 h2 (fun b h3 => if b = true then e env2 h3 k F0 else n h3) F0) →
    (∀ os : List (Option Val), Paired R L os → q (acc ++ os.filterMap id) h) → lcGo al g t e env (L.map i) acc h q
  | [], acc, q, _, k => ⟨hal, by simpa using k [] .nil⟩
  | a :: L, acc, q, he, k => ⟨hal, he a (by simp) _ _ fun o ho => by
    cases o with
    | none => exact lc_gen R i hal L acc (fun b hb => he b (by simp [hb])) fun os r => by simpa using k (none :: os) (.cons ho r)
    | some y => exact lc_gen R i hal L (acc ++ [y]) (fun b hb => he b (by simp [hb])) fun os r => by simpa using k (some y :: os) (.cons ho r)⟩
/-- every item is taken, and f says what comes of it -/
theorem lc_map (i f : α → Val) (hal : al h) : ∀ (L : List α) (acc : List Val) {q : List Val → Mh → Prop}, (∀ a ∈ L, ∀ k : VQ, k (f a) h → g (i a) env h fun env2 h2 => e env2 h2 k F0) → q (acc ++ L.map f) h → lcGo al g tYesM e env (L.map i) acc h q
  | [], acc, q, _, k => ⟨hal, by simpa using k⟩
  | a :: L, acc, q, he, k => by
    simp only [List.map_cons, lcGo, tYesM, ↓reduceIte]
    refine ⟨hal, he a (by simp) _ ?_⟩
    exact lc_map i f hal L (acc ++ [f a]) (fun b hb => he b (by simp [hb])) (by simpa using k)
/-- .. some are left out by p -/
theorem lc_filter (i : α → Val) (p : α → Bool) (f : α → Val) (hal : al h) : ∀ (L : List α) (acc : List Val) {q : List Val → Mh → Prop},
    (∀ a ∈ L, ∀ (k : VQ) (n : Mh → Prop), (if p a = true then k (f a) h else n h) → g (i a) env h fun env2 h2 => t env2 h2 (fun b h3 => if b = true then e env2 h3 k F0 else n h3) F0) →
    q (acc ++ (L.filter p).map f) h → lcGo al g t e env (L.map i) acc h q
  | [], acc, q, _, k => ⟨hal, by simpa using k⟩
  | a :: L, acc, q, he, k => ⟨hal, he a (by simp) _ _ (by
    cases hp : p a with
    | true => rw [if_pos rfl]; exact lc_filter i p f hal L (acc ++ [f a]) (fun b hb => he b (by simp [hb])) (by simpa [hp] using k)
    | false => rw [if_neg Bool.false_ne_true]; exact lc_filter i p f hal L acc (fun b hb => he b (by simp [hb])) (by simpa [hp] using k))⟩
/-- every item is taken; R says what may come of it -/
theorem lc_dem (R : α → Val → Prop) (i : α → Val) (hal : al h) : ∀ (L : List α) (acc : List Val) {q : List Val → Mh → Prop}, (∀ a ∈ L, ∀ k : VQ, (∀ y, R a y → k y h) → g (i a) env h fun env2 h2 => e env2 h2 k F0) →
    (∀ ys, Paired R L ys → q (acc ++ ys) h) → lcGo al g tYesM e env (L.map i) acc h q
  | [], acc, q, _, k => ⟨hal, by simpa using k [] .nil⟩
  | a :: L, acc, q, he, k => by
    simp only [List.map_cons, lcGo, tYesM, ↓reduceIte]
    refine ⟨hal, he a (by simp) _ fun y hy => ?_⟩
    exact lc_dem R i hal L (acc ++ [y]) (fun b hb => he b (by simp [hb])) fun ys r => by simpa using k (y :: ys) (.cons hy r)
end
/-! ### loops -/
theorem for_inv {α : Type} {al : Mh → Prop} {g : MG} {b : MS} {d : MD} (i : α → Val) (L : List α) (I : Nat → Me → Mh → Prop) {env : Me} {h : Mh} (h0 : I 0 env h)
    (step : ∀ (j : Nat) (a : α) (env : Me) (h : Mh), L[j]? = some a → I j env h → ∀ N : Me → Mh → Prop, (∀ env' h', I (j + 1) env' h' → N env' h') → al h ∧ g (i a) env h fun env2 h2 => b env2 h2 { d with nx := N, ct := N, bk := d.nx })
    (fin : ∀ env h, I L.length env h → al h ∧ d.nx env h) : forGo al g b (L.map i) env h d := by
  have go : ∀ (n j : Nat) (env : Me) (h : Mh), L.length = j + n → I j env h → forGo al g b ((L.drop j).map i) env h d := by
    intro n
    induction n with
    | zero =>
      intro j env h hl hI
      rw [List.drop_eq_nil_of_le (by omega)]
      have : j = L.length := by omega
      subst this
      exact fin env h hI
    | succ n ih =>
      intro j env h hl hI
      have hj : j < L.length := by omega
      rw [List.drop_eq_getElem_cons hj]
      exact step j L[j] env h (List.getElem?_eq_getElem hj) hI _ fun env' h' hI' => ih (j + 1) env' h' (by omega) hI'
  simpa using go L.length 0 env h (by omega) h0
theorem pairsM_map {α β : Type} (f : α → Val) (g : β → Val) : ∀ (xs : List α) (ys : List β), pairsM (xs.map f) (ys.map g) = (xs.zip ys).map fun p => .tup [f p.1, g p.2]
  | [], _ => rfl
  | _ :: _, [] => rfl
  | x :: xs, y :: ys => by
    show Val.tup [f x, g y] :: pairsM (xs.map f) (ys.map g) = _
    rw [pairsM_map f g xs ys]; rfl
theorem atI_ok {α : Type} {xs : List α} {r : Int} (h0 : 0 ≤ r) (h1 : r < xs.length) : ∃ x, atI xs r = some x ∧ x ∈ xs := by
  have hz : r.toNat < xs.length := by omega
  refine ⟨xs[r.toNat], ?_, List.getElem_mem hz⟩
  unfold atI ixN
  rw [if_pos h0, if_pos h1]
  simp [hz]
theorem atI_nat {α : Type} {xs : List α} {i : Nat} {x : α} (h : xs[i]? = some x) : atI xs (i : Int) = some x := by
  have hlt := (List.getElem?_eq_some_iff.mp h).1
  unfold atI ixN
  rw [if_pos (by omega), if_pos (by omega)]
  simpa using h
theorem olds_map {α : Type} {n : Nat} {f : α → Val} (hf : ∀ a, old n (f a) = true) : ∀ xs : List α, olds n (xs.map f) = true
  | [] => rfl
  | x :: xs => by show (old n (f x) && olds n (xs.map f)) = true; rw [hf, olds_map hf xs]; rfl
theorem olds_mem {n : Nat} : ∀ {xs : List Val}, (∀ a ∈ xs, old n a = true) → olds n xs = true
  | [], _ => rfl
  | x :: xs, h => by show (old n x && olds n xs) = true; rw [h x (by simp), olds_mem fun a ha => h a (by simp [ha])]; rfl
theorem frz_l {n k : Nat} {ls : List Cell} {xs : List Val} (hk : n ≤ k) (e : ls[k - n]? = some (.lst xs)) (o : olds n xs = true) : frz n ls (.ref k) = some (.lst xs) := by
  unfold frz
  dsimp only
  rw [if_neg (by omega), e]
  show (if olds n xs = true then _ else _) = _
  rw [if_pos o]
theorem frz_v {n : Nat} {ls : List Cell} {v : Val} (hv : ∀ k, v ≠ .ref k) (o : old n v = true) : frz n ls v = some v := by
  unfold frz
  split
  · exact absurd rfl (hv _)
  · rw [if_pos o]
end Sx

end
section
set_option Elab.async false
set_option linter.all false
set_option maxRecDepth 100000
set_option maxHeartbeats 2000000
/-! XP0: readings of cells, branches -/
namespace Sx
open PySem L2 Cl
theorem lst_ref {h : Mh} {n : Nat} {xs : List Val} (e : h[n]? = some (.lst xs)) : lstOf h (.ref n) = some xs := by
  unfold lstOf
  simp [e]
theorem any_ref {h : Mh} {n : Nat} {xs : List Val} (e : h[n]? = some (.lst xs)) : anyOf h (.ref n) = some xs := lst_ref e
theorem if_b {b : Bool} {P Q : Prop} (t : b = true → P) (f : b = false → Q) : if b = true then P else Q := by
  cases b
  · rw [if_neg Bool.false_ne_true]; exact f rfl
  · rw [if_pos rfl]; exact t rfl
theorem ins_ref {h : Mh} {n : Nat} {c : Str} {fs : List (Str × Val)} (e : h[n]? = some (.ins c fs)) : insOf h (.ref n) = some (c, fs) := by
  unfold insOf
  simp [e]
theorem set_mid {h T : Mh} {c d : Cell} : (h ++ c :: T).set h.length d = h ++ d :: T := by simp
theorem get_mid {h T : Mh} {c : Cell} : (h ++ c :: T)[h.length]? = some c := by simp
theorem any_of_lst {h : Mh} {v : Val} {xs : List Val} (e : lstOf h v = some xs) : anyOf h v = some xs := by
  cases v <;> first | exact e | cases e
theorem all_t2 {α : Type} {L : List α} : (L.map fun _ => true).all id = true := by rw [List.all_map]; exact List.all_eq_true.mpr fun _ _ => rfl
end Sx

end
section
set_option Elab.async false
set_option linter.all false
set_option maxRecDepth 100000
set_option maxHeartbeats 2000000
namespace Sx
open PySem L2 Cl RZ
/-- plain values, so many levels deep at most -/
inductive Pl : Nat → Val → Prop
  | non {n : Nat} : Pl (n + 1) .non
  | int {n : Nat} (i : Int) : Pl (n + 1) (.int i)
  | bl {n : Nat} (i : Bool) : Pl (n + 1) (.bl i)
  | str {n : Nat} (i : Str) : Pl (n + 1) (.str i)
  | tup {n : Nat} {xs : List Val} : (∀ x ∈ xs, Pl n x) → xs.length ≤ 90000 → Pl (n + 1) (.tup xs)
  | lst {n : Nat} {xs : List Val} : (∀ x ∈ xs, Pl n x) → xs.length ≤ 90000 → Pl (n + 1) (.lst xs)
theorem pairs_self : ∀ xs : List Val, pairsM xs xs = xs.map fun x => .tup [x, x]
  | [] => rfl
  | x :: xs => by show Val.tup [x, x] :: pairsM xs xs = _; rw [pairs_self xs]; rfl
theorem all_t {xs : List Val} : (xs.map fun _ => true).all id = true := by rw [List.all_map]; exact List.all_eq_true.mpr fun _ _ => rfl
theorem p_same : ∀ {n : Nat} {v : Val} {h : Mh} {q : VQ} {x : XQ}, Pl n v → q (.bl true) h → f_law_same n [v, v] h q x
  | _, _, h, q, x, .non, k => by
    rw [f_law_same_s]
    exact ⟨rfl, k⟩
  | _, _, h, q, x, .int i, k => by
    rw [f_law_same_s]
    refine ⟨rfl, "int", false, false, rfl, rfl, rfl, _, _, rfl, rfl, _, _, rfl, rfl, .inl ⟨_, rfl, _, _, rfl, rfl, _, _, rfl, rfl, .inl ⟨_, rfl, _, _, rfl, rfl, _, _, rfl, rfl, .inl ⟨_, rfl, .inl ⟨_, rfl, ?_⟩⟩⟩⟩⟩
    show q (.bl (decide (i = i))) h
    rw [decide_eq_true rfl]; exact k
  | _, _, h, q, x, .bl i, k => by
    rw [f_law_same_s]
    refine ⟨rfl, "bool", false, false, rfl, rfl, rfl, _, _, rfl, rfl, _, _, rfl, rfl, .inl ⟨_, rfl, _, _, rfl, rfl, _, _, rfl, rfl, .inl ⟨_, rfl, _, _, rfl, rfl, _, _, rfl, rfl, .inl ⟨_, rfl, .inl ⟨_, rfl, ?_⟩⟩⟩⟩⟩
    show q (.bl (decide (i = i))) h
    rw [decide_eq_true rfl]; exact k
  | _, _, h, q, x, .str i, k => by
    rw [f_law_same_s]
    refine ⟨rfl, "str", false, false, rfl, rfl, rfl, _, _, rfl, rfl, _, _, rfl, rfl, .inl ⟨_, rfl, _, _, rfl, rfl, _, _, rfl, rfl, .inl ⟨_, rfl, _, _, rfl, rfl, _, _, rfl, rfl, .inl ⟨_, rfl, .inl ⟨_, rfl, ?_⟩⟩⟩⟩⟩
    show q (.bl (decide (i = i))) h
    rw [decide_eq_true rfl]; exact k
  | n + 1, _, h, q, x, .tup (xs := xs) hx hl, k => by
    have ih : ∀ y ∈ xs, ∀ (h : Mh) (q : VQ) (x : XQ), q (.bl true) h → f_law_same n [y, y] h q x := fun y hy h q x k => p_same (hx y hy) k
    rw [f_law_same_s]
    generalize f_law_same n = F at ih ⊢
    refine ⟨rfl, "tuple", false, true, rfl, rfl, rfl, _, _, rfl, rfl, _, _, rfl, rfl, .inl ⟨_, rfl, _, _, rfl, rfl, _, _, rfl, rfl, .inl ⟨_, rfl, _, rfl, _, rfl, .inl ⟨_, rfl, ?_⟩⟩⟩⟩
    refine onB_t (decide_eq_true rfl) (.inr ⟨_, _, rfl, rfl, by rw [pairs_self, List.length_map]; exact hl, ?_⟩)
    rw [pairs_self]
    exact lc_map _ (fun _ => .bl true) trivial _ _ (fun y hy k hk => ⟨_, rfl, rfl, rfl, ih y hy _ _ _ hk⟩) ⟨xs.map fun _ => true, by simp [lstOf], by rw [all_t]; exact k⟩
  | n + 1, _, h, q, x, .lst (xs := xs) hx hl, k => by
    have ih : ∀ y ∈ xs, ∀ (h : Mh) (q : VQ) (x : XQ), q (.bl true) h → f_law_same n [y, y] h q x := fun y hy h q x k => p_same (hx y hy) k
    rw [f_law_same_s]
    generalize f_law_same n = F at ih ⊢
    refine ⟨rfl, "list", true, false, rfl, rfl, rfl, _, _, rfl, rfl, _, _, rfl, rfl, .inl ⟨_, rfl, _, _, rfl, rfl, _, _, rfl, rfl, .inl ⟨_, rfl, _, rfl, _, rfl, .inl ⟨_, rfl, ?_⟩⟩⟩⟩
    refine onB_t (decide_eq_true rfl) (.inl ⟨_, _, rfl, rfl, by rw [pairs_self, List.length_map]; exact hl, ?_⟩)
    rw [pairs_self]
    exact lc_map _ (fun _ => .bl true) ⟨rfl, rfl⟩ _ _ (fun y hy k hk => ⟨_, rfl, rfl, rfl, ih y hy _ _ _ hk⟩) ⟨xs.map fun _ => true, by simp [lstOf], by rw [all_t]; exact k⟩
end Sx

end
section
set_option Elab.async false
set_option linter.all false
set_option maxRecDepth 100000
set_option maxHeartbeats 2000000
/-! XNI: lists of numbers -/
namespace Sx
open PySem L2 Cl RZ
abbrev nI (ns : List Nat) : List Val := ns.map fun (n : Nat) => .int (n : Int)
theorem ints_nat : ∀ {out : List Int}, (∀ k ∈ out, 0 ≤ k) → out.map Val.int = nI (out.map Int.toNat)
  | [], _ => rfl
  | o :: out, h => by
    have h0 := h o (by simp)
    show Val.int o :: out.map Val.int = Val.int (o.toNat : Int) :: nI (out.map Int.toNat)
    rw [ints_nat fun k hk => h k (by simp [hk])]
    congr 2
    omega
theorem sort_nat {out : List Int} {ns : List Nat} (hp : out.Pairwise (· < ·)) (hm : ∀ k, k ∈ out ↔ k ∈ ns.map fun (n : Nat) => (n : Int)) : ∃ o : List Nat, out.map Val.int = nI o ∧ o.Pairwise (· < ·) ∧ ∀ k, k ∈ o ↔ k ∈ ns := by
  have h0 : ∀ k ∈ out, 0 ≤ k := fun k hk => by
    obtain ⟨n, _, rfl⟩ := List.mem_map.mp ((hm k).mp hk)
    omega
  refine ⟨out.map Int.toNat, ints_nat h0, ?_, fun k => ?_⟩
  · rw [List.pairwise_map]
    refine hp.imp_of_mem fun ha hb h => ?_
    have := h0 _ ha
    have := h0 _ hb
    omega
  · constructor
    · intro h
      obtain ⟨z, hz, rfl⟩ := List.mem_map.mp h
      obtain ⟨n, hn, e⟩ := List.mem_map.mp ((hm z).mp hz)
      have : z.toNat = n := by omega
      rw [this]; exact hn
    · intro h
      exact List.mem_map.mpr ⟨(k : Int), (hm _).mpr (List.mem_map.mpr ⟨k, h, rfl⟩), by simp⟩
theorem sorted_len : ∀ {o : List Nat} {a n : Nat}, o.Pairwise (· < ·) → (∀ k ∈ o, a ≤ k ∧ k < n) → o.length ≤ n - a
  | [], _, _, _, _ => by simp
  | x :: o, a, n, hp, h => by
    have hp := List.pairwise_cons.mp hp
    have hx := h x (by simp)
    have := sorted_len (o := o) (a := x + 1) (n := n) hp.2 fun k hk => ⟨hp.1 k hk, (h k (by simp [hk])).2⟩
    simp only [List.length_cons]
    omega
theorem keys_nI (ns : List Nat) : (ns.map fun (n : Nat) => (Sum.inl (n : Int) : L2.Key)).map keyM = nI ns := by simp [keyM]
/-- sorted(set(x)) of numbers below 63 -/
theorem sort_nI {ns : List Nat} {q : Val → Prop} (hb : ∀ n ∈ ns, n < 63) (k : ∀ o : List Nat, o.Pairwise (· < ·) → (∀ e, e ∈ o ↔ e ∈ ns) → q (.lst (nI o))) : sortKeys (ns.map fun (n : Nat) => (Sum.inl (n : Int) : L2.Key)) q := by
  refine .inl ⟨ns.map fun (n : Nat) => (n : Int), (List.range 63).map fun (n : Nat) => (n : Int), by simp, by simp, fun n h => ?_, fun out h1 h2 => ?_⟩
  · obtain ⟨m, hm, rfl⟩ := List.mem_map.mp h
    exact List.mem_map.mpr ⟨m, List.mem_range.mpr (hb m hm), rfl⟩
  · obtain ⟨o, e1, e2, e3⟩ := sort_nat h1 h2
    rw [e1]
    exact k o e2 e3
theorem paired_nats {α : Type} {c : Nat} {L : List α} : ∀ {ys : List Val}, Paired (fun (_ : α) (y : Val) => ∃ n : Nat, y = .int (n : Int) ∧ n < c) L ys → ∃ ns : List Nat, ys = nI ns ∧ ns.length = L.length ∧ ∀ n ∈ ns, n < c := fun {ys} h => by
  induction h with
  | nil => exact ⟨[], rfl, rfl, by simp⟩
  | cons a b ih =>
    obtain ⟨s, rfl, hs⟩ := a
    obtain ⟨ss, rfl, hl, hp⟩ := ih
    exact ⟨s :: ss, rfl, by simp [hl], by simpa using ⟨hs, hp⟩⟩
end Sx

end
section
set_option Elab.async false
set_option linter.all false
set_option maxRecDepth 100000
set_option maxHeartbeats 2000000
/-! XI1s: same over lists that stand in cells (XI1 for laws without rows: never both at once) -/
namespace Sx
open PySem PyProof.Rows L2 Cl RZ
/-- alike, where lists may stand in cells -/
inductive Sm (h : Mh) : Nat → Val → Val → Prop
  | pl {n : Nat} {v : Val} : Pl n v → Sm h n v v
  | ll {n : Nat} {u v : Val} {us vs : List Val} : lstOf h u = some us → lstOf h v = some vs → tyM h u = some "list" → tyM h v = some "list" → us.length = vs.length → us.length ≤ 90000 → (∀ p ∈ us.zip vs, Sm h n p.1 p.2) → Sm h (n + 1) u v
theorem pairs_zip : ∀ {xs ys : List Val}, pairsM xs ys = (xs.zip ys).map fun p => .tup [p.1, p.2]
  | [], _ => by simp [pairsM]
  | _ :: _, [] => by simp [pairsM]
  | x :: xs, y :: ys => by show Val.tup [x, y] :: pairsM xs ys = _; rw [pairs_zip (xs := xs) (ys := ys)]; rfl
theorem ty_list_any {h : Mh} {u : Val} {us : List Val} (e : lstOf h u = some us) : anyOf h u = some us := by
  cases u with
  | lst => exact e
  | ref n => exact e
  | _ => cases e
theorem p_sameS : ∀ {n : Nat} {u v : Val} {h : Mh} {q : VQ} {x : XQ}, Sm h n u v → q (.bl true) h → f_law_same n [u, v] h q x
  | _, _, _, h, q, x, .pl p, k => p_same p k
  | n + 1, u, v, h, q, x, .ll (us := us) (vs := vs) e1 e2 t1 t2 hl h9 hp, k => by
    have ih : ∀ y ∈ us.zip vs, ∀ (q : VQ) (x : XQ), q (.bl true) h → f_law_same n [y.1, y.2] h q x := fun y hy q x k => p_sameS (hp y hy) k
    rw [f_law_same_s]
    generalize f_law_same n = F at ih ⊢
    cases u with
    | lst us' =>
      cases v with
      | lst vs' =>
        cases e1; cases e2
        refine ⟨rfl, "list", true, false, rfl, rfl, rfl, _, _, rfl, rfl, _, _, rfl, rfl, .inl ⟨_, rfl, _, _, rfl, rfl, _, _, rfl, rfl, .inl ⟨_, rfl, _, rfl, _, rfl, .inl ⟨_, rfl, ?_⟩⟩⟩⟩
        refine onB_t (decide_eq_true (by rw [hl])) (.inl ⟨_, _, rfl, rfl, by rw [pairs_zip, List.length_map, List.length_zip]; omega, ?_⟩)
        rw [pairs_zip]
        exact lc_map _ (fun _ => .bl true) ⟨rfl, rfl⟩ _ _ (fun y hy k hk => ⟨_, rfl, rfl, rfl, ih y hy _ _ hk⟩) ⟨(us.zip vs).map fun _ => true, by simp [lstOf], by rw [all_t2]; exact k⟩
      | ref m =>
        cases e1
        refine ⟨rfl, "list", true, false, t2, rfl, rfl, _, _, rfl, rfl, _, _, t2, rfl, .inl ⟨_, rfl, _, _, rfl, rfl, _, _, t2, rfl, .inl ⟨_, rfl, _, rfl, _, ty_list_any e2, .inl ⟨_, rfl, ?_⟩⟩⟩⟩
        refine onB_t (decide_eq_true (by rw [hl])) (.inl ⟨_, _, rfl, e2, by rw [pairs_zip, List.length_map, List.length_zip]; omega, ?_⟩)
        rw [pairs_zip]
        exact lc_map _ (fun _ => .bl true) ⟨rfl, e2⟩ _ _ (fun y hy k hk => ⟨_, rfl, rfl, rfl, ih y hy _ _ hk⟩) ⟨(us.zip vs).map fun _ => true, by simp [lstOf], by rw [all_t2]; exact k⟩
      | _ => cases e2
    | ref m =>
      cases v with
      | lst vs' =>
        cases e2
        refine ⟨rfl, "list", true, false, rfl, rfl, rfl, _, _, t1, rfl, _, _, rfl, rfl, .inl ⟨_, rfl, _, _, t1, rfl, _, _, rfl, rfl, .inl ⟨_, rfl, _, ty_list_any e1, _, rfl, .inl ⟨_, rfl, ?_⟩⟩⟩⟩
        refine onB_t (decide_eq_true (by rw [hl])) (.inl ⟨_, _, e1, rfl, by rw [pairs_zip, List.length_map, List.length_zip]; omega, ?_⟩)
        rw [pairs_zip]
        exact lc_map _ (fun _ => .bl true) ⟨e1, rfl⟩ _ _ (fun y hy k hk => ⟨_, rfl, rfl, rfl, ih y hy _ _ hk⟩) ⟨(us.zip vs).map fun _ => true, by simp [lstOf], by rw [all_t2]; exact k⟩
      | ref m' =>
        refine ⟨rfl, "list", true, false, t2, rfl, rfl, _, _, t1, rfl, _, _, t2, rfl, .inl ⟨_, rfl, _, _, t1, rfl, _, _, t2, rfl, .inl ⟨_, rfl, _, ty_list_any e1, _, ty_list_any e2, .inl ⟨_, rfl, ?_⟩⟩⟩⟩
        refine onB_t (decide_eq_true (by rw [hl])) (.inl ⟨_, _, e1, e2, by rw [pairs_zip, List.length_map, List.length_zip]; omega, ?_⟩)
        rw [pairs_zip]
        exact lc_map _ (fun _ => .bl true) ⟨e1, e2⟩ _ _ (fun y hy k hk => ⟨_, rfl, rfl, rfl, ih y hy _ _ hk⟩) ⟨(us.zip vs).map fun _ => true, by simp [lstOf], by rw [all_t2]; exact k⟩
      | _ => cases e2
    | _ => cases e1
theorem ty_ref {h : Mh} {n : Nat} {xs : List Val} (e : h[n]? = some (.lst xs)) : tyM h (.ref n) = some "list" := by
  unfold tyM
  simp [e]
theorem zip_self {α : Type} : ∀ {xs : List α} {p : α × α}, p ∈ xs.zip xs → p.1 = p.2 ∧ p.1 ∈ xs
  | [], p, h => by simp at h
  | x :: xs, p, h => by
    rw [List.zip_cons_cons] at h
    rcases List.mem_cons.mp h with rfl | h
    · exact ⟨rfl, by simp⟩
    · have := zip_self h
      exact ⟨this.1, by simp [this.2]⟩
theorem Sm.self {h : Mh} {n : Nat} {u v : Val} {xs : List Val} (e1 : lstOf h u = some xs) (e2 : lstOf h v = some xs) (t1 : tyM h u = some "list") (t2 : tyM h v = some "list") (hl : xs.length ≤ 90000) (hp : ∀ y ∈ xs, Pl n y) : Sm h (n + 1) u v :=
  .ll e1 e2 t1 t2 rfl hl fun p hm => by
    rcases p with ⟨y, z⟩
    obtain ⟨e, m⟩ := zip_self hm
    dsimp only at e m ⊢
    subst e
    exact .pl (hp _ m)
theorem pl_nI (n : Nat) (ns : List Nat) : ∀ y ∈ nI ns, Pl (n + 1) y := fun y hy => by
  obtain ⟨m, _, rfl⟩ := List.mem_map.mp hy
  exact .int _
end Sx

end
section
set_option Elab.async false
set_option linter.all false
set_option maxRecDepth 100000
set_option maxHeartbeats 2000000
/-! MODEL: recorded runs in plain terms -/
namespace Sx
open PySem L2 Cl
/-- the columns of a table of numbers, folded -/
def foldV (op : Int → Int → Int) : List Int → Int
  | [] => 0
  | n :: ns => ns.foldl op n
def foldM (op : Int → Int → Int) (cs : List (List Int)) (w : Nat) : List Int := (List.range w).map fun i => foldV op (cs.map fun c => c.getD i 0)
inductive Ev where
  | step
  | send (t : Nat)
  | recv (e : Nat)
structure Row where
  p : Nat
  k : Str
  e : Ev
def Row.word (r : Row) : Str := match r.e with | .step => "step" | .send _ => "send" | .recv _ => "receive"
def Row.oth (r : Row) : Val := match r.e with | .step => .non | .send t => .int (t : Int) | .recv e => .int (e : Int)
def rowV (r : Row) : Val := .tup [.int (r.p : Int), .str r.word, .str r.k, r.oth]
def srcsOf (r : Row) : List Nat := match r.e with | .recv e => [e] | _ => []
def prOf (rows : List Row) (k : Nat) : Nat := (rows[k]?.map (·.p)).getD 0
def lineOf (rows : List Row) (p : Nat) : List Nat := (List.range rows.length).filter fun k => prOf rows k == p
def lastN (ln : List Nat) : List Nat := ln.drop (ln.length - 1)
def ownV (w p n : Nat) : List Int := (List.range w).map fun q => if q = p then (n : Int) + 1 else 0
def newP (w p : Nat) (ps : List (List Int)) (ln es : List Nat) : List Int := foldM max (ownV w p ln.length :: (lastN ln ++ es).map fun e => ps.getD e []) w
def stepP (w : Nat) (acc : List Row × List (List Int)) (r : Row) : List Row × List (List Int) := (acc.1 ++ [r], acc.2 ++ [newP w r.p acc.2 (lineOf acc.1 r.p) (srcsOf r)])
def pastsOf (w : Nat) (rows : List Row) : List (List Int) := (rows.foldl (stepP w) ([], [])).2
theorem foldl_fst (w : Nat) : ∀ (rows : List Row) (acc : List Row × List (List Int)), (rows.foldl (stepP w) acc).1 = acc.1 ++ rows
  | [], acc => by simp
  | r :: rows, acc => by
    rw [List.foldl_cons, foldl_fst w rows]
    simp [stepP]
theorem pastsOf_snoc (w : Nat) (rows : List Row) (r : Row) : pastsOf w (rows ++ [r]) = pastsOf w rows ++ [newP w r.p (pastsOf w rows) (lineOf rows r.p) (srcsOf r)] := by
  unfold pastsOf
  rw [List.foldl_append]
  show (stepP w (rows.foldl (stepP w) ([], [])) r).2 = _
  have e := foldl_fst w rows ([], [])
  show (rows.foldl (stepP w) ([], [])).2 ++ [newP w r.p (rows.foldl (stepP w) ([], [])).2 (lineOf (rows.foldl (stepP w) ([], [])).1 r.p) (srcsOf r)] = _
  rw [e]
  rfl
theorem pastsOf_len (w : Nat) (rows : List Row) : (pastsOf w rows).length = rows.length := by
  have h : ∀ (rows : List Row) (acc : List Row × List (List Int)), (rows.foldl (stepP w) acc).2.length = acc.2.length + rows.length := fun rows => by
    induction rows with
    | nil => intro acc; simp
    | cons r rows ih => intro acc; rw [List.foldl_cons, ih]; simp [stepP]; omega
  have := h rows ([], [])
  simpa [pastsOf] using this
theorem newP_len (w p : Nat) (ps : List (List Int)) (ln es : List Nat) : (newP w p ps ln es).length = w := by simp [newP, foldM]
theorem snoc_ind {α : Type} {P : List α → Prop} (h0 : P []) (h1 : ∀ xs x, P xs → P (xs ++ [x])) (xs : List α) : P xs := by
  have : ∀ ys : List α, P ys.reverse := fun ys => by
    induction ys with
    | nil => exact h0
    | cons y ys ih => rw [List.reverse_cons]; exact h1 _ _ ih
  have := this xs.reverse
  rwa [List.reverse_reverse] at this
theorem pastsOf_w (w : Nat) (rows : List Row) : ∀ c ∈ pastsOf w rows, c.length = w := by
  induction rows using snoc_ind with
  | h0 => intro c h; simp [pastsOf] at h
  | h1 rows r ih =>
    intro c h
    rw [pastsOf_snoc] at h
    rcases List.mem_append.mp h with h | h
    · exact ih c h
    · rw [List.mem_singleton.mp h]; exact newP_len ..
theorem prOf_old {rows : List Row} {r : Row} {k : Nat} (h : k < rows.length) : prOf (rows ++ [r]) k = prOf rows k := by unfold prOf; rw [List.getElem?_append_left h]
theorem prOf_new {rows : List Row} {r : Row} : prOf (rows ++ [r]) rows.length = r.p := by simp [prOf]
theorem lineOf_snoc (rows : List Row) (r : Row) (p : Nat) : lineOf (rows ++ [r]) p = lineOf rows p ++ (if r.p = p then [rows.length] else []) := by
  unfold lineOf
  rw [List.length_append, List.length_singleton, List.range_succ, List.filter_append]
  congr 1
  · apply List.filter_congr
    intro k hk
    rw [prOf_old (List.mem_range.mp hk)]
  · by_cases h : r.p = p
    · rw [if_pos h]; simp [prOf_new, h]
    · rw [if_neg h]; simp [prOf_new, h]
theorem lineOf_lt {rows : List Row} {p k : Nat} (h : k ∈ lineOf rows p) : k < rows.length := List.mem_range.mp (List.mem_filter.mp h).1
theorem lineOf_len (rows : List Row) (p : Nat) : (lineOf rows p).length ≤ rows.length := by
  have := List.length_filter_le (fun k => prOf rows k == p) (List.range rows.length)
  simpa [lineOf] using this
end Sx

end
section
set_option Elab.async false
set_option linter.all false
set_option maxRecDepth 100000
set_option maxHeartbeats 2000000
namespace Sx
open PySem L2 Cl
def leB (a b : List Int) : Bool := (a.zip b).all fun p => decide (p.1 ≤ p.2)
theorem sq_ints {d : Val} {c : List Int} (h : d = tupI c ∨ d = lstI c) : sqV d = some (c.map .int) := by rcases h with h | h <;> (rw [h]; rfl)
theorem paired_mem {α β : Type} {R : α → β → Prop} : ∀ {xs : List α} {ys : List β}, Paired R xs ys → ∀ x ∈ xs, ∃ y ∈ ys, R x y
  | _, _, .nil, x, h => by simp at h
  | _, _, .cons a b, x, h => by
    rcases List.mem_cons.mp h with e | h
    · subst e; exact ⟨_, by simp, a⟩
    · obtain ⟨y, hy, r⟩ := paired_mem b x h
      exact ⟨y, by simp [hy], r⟩
theorem cols_ints {ds : List Val} {cs : List (List Int)} {w i : Nat} (hd : Paired (fun d c => d = tupI c ∨ d = lstI c) ds cs) (hc : ∀ c ∈ cs, c.length = w) (hi : i < w) : (ds.map fun d => ((sqV d).getD []).getD i .non) = (cs.map fun c => c.getD i 0).map .int := by
  induction hd with
  | nil => rfl
  | cons a b ih =>
    rename_i d c ds cs
    simp only [List.map_cons]
    rw [ih fun c hc' => hc c (by simp [hc']), sq_ints a]
    have hl := hc c (by simp)
    have : i < c.length := by omega
    simp [List.getD_eq_getElem?_getD, this]
end Sx

end
section
set_option Elab.async false
set_option linter.all false
set_option maxRecDepth 100000
set_option maxHeartbeats 2000000
namespace Cl
open PySem L2 RZ
theorem joinL_len (S : List Nat) : ∀ ls : List (List Nat), (TL.joinL S ls).length ≤ (ls.map List.length).sum + ls.length * S.length
  | [] => by simp [TL.joinL]
  | [p] => by simp [TL.joinL]
  | p :: q :: r => by
    have h := joinL_len S (q :: r)
    show (p ++ (S ++ TL.joinL S (q :: r))).length ≤ _
    rw [List.length_append, List.length_append]
    simp only [List.map_cons, List.sum_cons, List.length_cons, Nat.succ_mul] at h ⊢
    omega
theorem join_len (a : Str) (ys : List Str) : (Txt.join a ys).length ≤ (ys.map (·.length)).sum + ys.length * a.length := by
  rw [TL.join_eq, TL.len_tl, TL.tl_join]
  have h := joinL_len (TL.tl a) (ys.map TL.tl)
  rw [List.map_map, List.length_map] at h
  have e : (List.length ∘ TL.tl) = (fun s : Str => s.length) := by funext s; simp [TL.len_tl]
  rw [e] at h
  rw [TL.len_tl a]
  exact h
theorem sum_le {ys : List Str} {k : Nat} (h : ∀ y ∈ ys, y.length ≤ k) : (ys.map (·.length)).sum ≤ ys.length * k := by
  induction ys with
  | nil => simp
  | cons y ys ih =>
    have h1 := h y (by simp)
    have h2 := ih fun z hz => h z (by simp [hz])
    simp only [List.map_cons, List.sum_cons, List.length_cons, Nat.succ_mul]
    omega
theorem paired_strs {α : Type} {C : Str → Prop} : ∀ {L : List α} {ds : List PyData}, Paired (fun (_ : α) d => ∃ k : Str, d = .str k ∧ C k) L ds → ∃ ks : List Str, ds = ks.map .str ∧ ks.length = L.length ∧ ∀ k ∈ ks, C k
  | _, _, .nil => ⟨[], rfl, rfl, by simp⟩
  | _, _, .cons ⟨k, e, c⟩ t => by
    obtain ⟨ks, e1, e2, e3⟩ := paired_strs t
    refine ⟨k :: ks, by rw [e, e1]; rfl, by simp [e2], fun j hj => ?_⟩
    rcases List.mem_cons.mp hj with h | h
    · rw [h]; exact c
    · exact e3 j h
theorem one_len (c : Nat) : (⟨#[c]⟩ : Str).length = 1 := rfl
end Cl

end
section
set_option Elab.async false
set_option linter.all false
set_option maxRecDepth 100000
set_option maxHeartbeats 2000000
/-! TEXT2: letters of joined and cut texts -/
namespace Cl
open PySem L2 RZ
theorem joinL_nil : ∀ ls : List (List Nat), TL.joinL [] ls = ls.flatten
  | [] => by simp [TL.joinL]
  | [p] => by simp [TL.joinL]
  | p :: q :: r => by
    show p ++ ([] ++ TL.joinL [] (q :: r)) = _
    rw [joinL_nil (q :: r)]
    simp
theorem join_cps (a : Str) (ha : TL.tl a = []) (ys : List Str) : TL.tl (Txt.join a ys) = (ys.map TL.tl).flatten := by
  rw [TL.join_eq, TL.tl_join, ha, joinL_nil]
theorem len_cps (w : Str) : w.cps.toList.length = w.length := by simp [Str.length]
theorem cut_take (z : Str) (r : Nat) (h : r ≤ z.length) : TL.tl (cutS z none (some (r : Int))) = (TL.tl z).take r := by
  unfold cutS
  rw [HT.sIx_none, HT.sIx_nat, Nat.min_eq_left h]
  simp [TL.tl]
theorem cut_drop (z : Str) (r : Nat) (h : r ≤ z.length) : TL.tl (cutS z (some (r : Int)) none) = (TL.tl z).drop r := by
  unfold cutS
  rw [HT.sIx_none, HT.sIx_nat, Nat.min_eq_left h]
  have e := len_cps z
  show ((z.cps.toList.drop r).take (z.length - r)).toArray.toList = z.cps.toList.drop r
  rw [List.toList_toArray, List.take_of_length_le (by rw [List.length_drop]; omega)]
/-- so many signs, all of them good -/
def wordN (g : Nat → Prop) (n : Nat) (w : Str) : Prop := w.length = n ∧ ∀ c ∈ TL.tl w, g c
theorem wordN_join {g : Nat → Prop} (a : Str) (ha : TL.tl a = []) : ∀ {ys : List Str}, (∀ y ∈ ys, wordN g 1 y) → wordN g ys.length (Txt.join a ys) := fun {ys} h => by
  unfold wordN
  rw [TL.len_tl, join_cps a ha]
  refine ⟨?_, fun c hc => ?_⟩
  · induction ys with
    | nil => rfl
    | cons y ys ih =>
      have h1 := (h y (by simp)).1
      rw [TL.len_tl] at h1
      rw [List.map_cons, List.flatten_cons, List.length_append, h1, ih fun z hz => h z (by simp [hz])]
      simp; omega
  · obtain ⟨l, hl, hc⟩ := List.mem_flatten.mp hc
    obtain ⟨y, hy, rfl⟩ := List.mem_map.mp hl
    exact (h y hy).2 c hc
theorem wordN_swap {g : Nat → Prop} {n r c : Nat} {w : Str} (h : wordN g n w) (hr : r < n) (hc : g c) : wordN g n (cutS w none (some (r : Int)) ++ ⟨#[c]⟩ ++ cutS w (some ((r : Int) + 1)) none) := by
  have e1 := cut_take w r (by rw [h.1]; omega)
  have e2 := cut_drop w (r + 1) (by rw [h.1]; omega)
  have ec : (((r + 1 : Nat) : Int)) = (r : Int) + 1 := by omega
  rw [ec] at e2
  unfold wordN
  have hl := h.1
  rw [TL.len_tl] at hl
  have ht : TL.tl (cutS w none (some (r : Int)) ++ ⟨#[c]⟩ ++ cutS w (some ((r : Int) + 1)) none) = (TL.tl w).take r ++ [c] ++ (TL.tl w).drop (r + 1) := by
    rw [TL.tl_append, TL.tl_append, e1, e2]
  rw [TL.len_tl, ht]
  refine ⟨?_, fun d hd => ?_⟩
  · simp [hl]; omega
  · rcases List.mem_append.mp hd with hd | hd
    · rcases List.mem_append.mp hd with hd | hd
      · exact h.2 d (List.mem_of_mem_take hd)
      · rw [List.mem_singleton.mp hd]; exact hc
    · exact h.2 d (List.mem_of_mem_drop hd)
end Cl

end
section
set_option Elab.async false
set_option linter.all false
set_option maxRecDepth 100000
set_option maxHeartbeats 2000000
namespace Sx
open PySem L2 Cl RZ
abbrev letters : Str := "abcdefghijklmnopqrstuvwxyz"
def isLet (c : Nat) : Bool := decide (c ∈ letters.cps.toList)
abbrev letW : Nat → Str → Prop := wordN fun c => isLet c = true
theorem p_choice {xs : List Val} {h : Mh} {q : VQ} {x : XQ} (h0 : xs ≠ []) (h1 : xs.length ≤ 100000) (k : ∀ v ∈ xs, q v h) : f_law_choice [.src, .lst xs] h q x := by
  unfold f_law_choice
  have : 0 < xs.length := by cases xs <;> simp_all
  refine ⟨rfl, xs, rfl, by show (0 : Int) < xs.length; omega, by show (xs.length : Int) < _; omega, fun r r0 r1 => ?_⟩
  obtain ⟨v, e, hv⟩ := atI_ok r0 r1
  exact ⟨xs, v, rfl, e, k v hv⟩
theorem p_choiceS {w : Str} {h : Mh} {q : VQ} {x : XQ} (h0 : 0 < w.length) (h1 : w.length ≤ 100000) (k : ∀ c ∈ w.cps.toList, q (.str ⟨#[c]⟩) h) : f_law_choice [.src, .str w] h q x := by
  unfold f_law_choice
  refine ⟨rfl, h1, by show (0 : Int) < w.length; omega, by show (w.length : Int) < _; omega, fun r r0 r1 => ?_⟩
  obtain ⟨v, e, hv⟩ := atI_ok (xs := w.cps.toList) r0 (by rw [len_cps]; exact r1)
  exact ⟨h1, v, e, k v hv⟩
theorem letters_len : letters.length = 26 := by decide +kernel
theorem paired_strs {α : Type} {L : List α} {P : Str → Prop} : ∀ {ys : List Val}, Paired (fun (_ : α) (y : Val) => ∃ s : Str, y = .str s ∧ P s) L ys → ∃ ss : List Str, ys = ss.map .str ∧ ss.length = L.length ∧ ∀ s ∈ ss, P s := fun {ys} h => by
  induction h with
  | nil => exact ⟨[], rfl, rfl, by simp⟩
  | cons a b ih =>
    obtain ⟨s, rfl, hs⟩ := a
    obtain ⟨ss, rfl, hl, hp⟩ := ih
    exact ⟨s :: ss, rfl, by simp [hl], by simpa using ⟨hs, hp⟩⟩
theorem sum_le {k : Nat} : ∀ {ys : List Str}, (∀ y ∈ ys, y.length ≤ k) → (ys.map (·.length)).sum ≤ ys.length * k
  | [], _ => by simp
  | y :: ys, h => by
    have h1 := h y (by simp)
    have h2 := sum_le (ys := ys) fun z hz => h z (by simp [hz])
    simp only [List.map_cons, List.sum_cons, List.length_cons, Nat.add_mul, Nat.one_mul]
    omega
theorem p_letters {h : Mh} {q : VQ} {x : XQ} (k : q (.str "abcdefghijklmnopqrstuvwxyz") h) : f_law_letters [] h q x := by
  unfold f_law_letters
  exact ⟨rfl, k⟩
theorem p_words {n m : Nat} {h : Mh} {q : VQ} {x : XQ} (hn : n ≤ 50) (hm1 : 1 ≤ m) (hm2 : m ≤ 10) (k : ∀ ws : List Str, ws.length = n → (∀ w ∈ ws, letW m w) → q (.lst (ws.map .str)) h) : f_law_words [.src, .int n, .int m] h q x := by
  unfold f_law_words
  refine ⟨rfl, by show (0 : Int) < m; omega, by show (m : Int) < _; omega, fun r r0 r1 => ⟨by decide, by decide, fun f f0 f1 => ⟨by decide, p_choice (by simp) (by simp) fun v hv => ?_⟩⟩⟩
  obtain ⟨st, rfl, st0, st9⟩ : ∃ st : Int, v = .int st ∧ 0 ≤ st ∧ st ≤ 9 := by
    simp only [List.mem_cons, List.not_mem_nil, or_false] at hv
    rcases hv with e | e | e | e | e <;> exact ⟨_, e, by decide, by decide⟩
  refine ⟨by show (-100000 : Int) ≤ m; omega, by show (m : Int) ≤ 100000; omega, by simp; omega, ?_⟩
  refine lc_dem (fun _ y => ∃ s : Str, y = .str s ∧ letW 1 s) _ trivial _ _ (fun i _ k hk => p_letters (p_choiceS (by decide +kernel) (by decide +kernel) fun c hc => hk _ ⟨_, rfl, rfl, fun c' hc' => ?_⟩)) fun ys hys => ?_
  · have : c' = c := by simpa [TL.tl] using hc'
    rw [this]; exact decide_eq_true hc
  obtain ⟨ss, rfl, hl, hw⟩ := paired_strs hys
  simp only [List.length_range] at hl
  have hl : ss.length = m := by simpa using hl
  have hsum := sum_le (k := 1) fun y h => Nat.le_of_eq (hw y h).1
  have hb := wordN_join (g := fun c => isLet c = true) "" rfl hw
  rw [hl] at hb
  have h00 : (Str.ofString "").length = 0 := rfl
  refine ⟨ss, by simp [anyOf, lstOf], by rw [h00]; omega, by simp, ?_⟩
  obtain ⟨r', rfl⟩ := Int.eq_ofNat_of_zero_le r0
  generalize Txt.join "" ss = t at hb ⊢
  refine ⟨by show (-100000 : Int) ≤ n; omega, by show (n : Int) ≤ 100000; omega, ?_⟩
  refine for_inv _ _ (fun j env h' => ∃ (ws : List Str) (k9 k7 : Option Val), env = [some .src, some (.int n), some (.int m), some (.int r'), some (.int f), some (.int st), some (.str t), k7, some (.ref h.length), k9] ∧ h' = h ++ [.lst (ws.map .str)] ∧ ws.length = j ∧ ∀ w ∈ ws, letW m w) ⟨[], none, none, rfl, rfl, rfl, by simp⟩ ?_ ?_
  · rintro j a env h' ha ⟨ws, k9, k7, rfl, rfl, hj, hws⟩ N hN
    have hz0 : 0 ≤ (f + st * (a : Int)) % 26 := Int.emod_nonneg _ (by decide)
    have hz1 : (f + st * (a : Int)) % 26 < 26 := Int.emod_lt_of_pos _ (by decide)
    have hjn : j < n := by
      have := (List.getElem?_eq_some_iff.mp ha).1
      simpa using this
    have ha2 : a < n := by
      have := List.mem_of_getElem? ha
      simpa using this
    have e26 : letters.cps.toList.length = 26 := by decide +kernel
    obtain ⟨c, hc, hcm⟩ := atI_ok (xs := letters.cps.toList) hz0 (by rw [e26]; exact hz1)
    have hw := wordN_swap (r := r') (c := c) hb (by omega) (decide_eq_true hcm)
    have c1 := cutS_length t none (some (r' : Int))
    have c2 := cutS_length t (some ((r' : Int) + 1)) none
    have htl := hb.1
    have e1 := Str.length_append (cutS t none (some (r' : Int))) ⟨#[c]⟩
    have e0 : (⟨#[c]⟩ : Str).length = 1 := rfl
    have eh : (h ++ [Cell.lst (ws.map .str)])[h.length]? = some (.lst (ws.map .str)) := by simp
    refine ⟨trivial, p_letters ⟨.inl ⟨by omega, by omega⟩, by show (0 : Int) < 26; decide, by decide +kernel, c, hc, ⟨_, eh⟩, by omega, by omega, by omega, by omega, _, eh, by simp; omega, ?_⟩⟩
    refine hN _ _ ⟨ws ++ [cutS t none (some (r' : Int)) ++ ⟨#[c]⟩ ++ cutS t (some ((r' : Int) + 1)) none], _, _, rfl, ?_, by simp [hj], ?_⟩
    rotate_left
    · intro w hw'
      rcases List.mem_append.mp hw' with h | h
      · exact hws w h
      · rw [List.mem_singleton.mp h]; exact hw
    · simp
  · rintro env h' ⟨ws, k9, k7, rfl, rfl, hj, hws⟩
    refine ⟨trivial, [.lst (ws.map .str)], .lst (ws.map .str), rfl, ?_, k ws (by simpa using hj) hws⟩
    exact frz_l (Nat.le_refl _) (by simp) (olds_map (fun _ => rfl) _)
theorem p_kinds {h : Mh} {q : VQ} {x : XQ} (k : ∀ ws : List Str, ws.length = 3 → (∀ w ∈ ws, ∃ m, 1 ≤ m ∧ m ≤ 6 ∧ letW m w) → q (.lst (ws.map .str)) h) : f_law_kinds [.src] h q x := by
  unfold f_law_kinds
  refine ⟨rfl, by decide, by decide, fun r r0 r1 => ?_⟩
  obtain ⟨r', rfl⟩ := Int.eq_ofNat_of_zero_le r0
  have ec : (1 : Int) + (r' : Int) = ((1 + r' : Nat) : Int) := by omega
  show f_law_words [.src, .int (3 : Nat), .int (1 + (r' : Int))] h q _
  rw [ec]
  exact p_words (by omega) (by omega) (by omega) fun ws h1 h2 => k ws h1 fun w hw => ⟨_, by omega, by omega, h2 w hw⟩
end Sx

end
section
set_option Elab.async false
set_option linter.all false
set_option maxRecDepth 100000
set_option maxHeartbeats 2000000
/-! XLWc: (split from XLW) words, asked of the program and of the law -/
namespace Sx
open PySem PyProof.Rows L2 Cl RZ
def lowB (w : Str) (n : Int) : Bool := decide ((1 : Int) ≤ w.length) && (decide ((w.length : Int) ≤ n) && w.cps.toList.all isLet)
section
variable {h : Mh} {q : VQ} {x : XQ}
theorem p_lowB {w : Str} {n : Int} (hl : w.length ≤ 80000) (k : q (.bl (lowB w n)) h) : f_is_lowercase [.str w, .int n] h q x := by
  unfold f_is_lowercase
  refine ⟨rfl, by omega, ?_⟩
  cases h1 : decide ((1 : Int) ≤ w.length) with
  | false =>
    refine onB_f h1 ?_
    unfold lowB at k
    rw [h1] at k; exact k
  | true =>
    refine onB_t h1 ?_
    cases h2 : decide ((w.length : Int) ≤ n) with
    | false =>
      refine onB_f h2 ?_
      unfold lowB at k
      rw [h1, h2] at k; exact k
    | true =>
      refine onB_t h2 ?_
      unfold lowB at k
      rw [h1, h2] at k
      refine .inr (.inr ⟨by show (w.cps.toList.map _).length ≤ 90000; rw [List.length_map, len_cps]; omega, ?_⟩)
      refine lc_map (fun (c : Nat) => .str ⟨#[c]⟩) (fun c => .bl (isLet c)) trivial _ _ (fun c hc k hk => .inl ⟨_, _, rfl, rfl, ?_⟩) ⟨w.cps.toList.map isLet, ?_, ?_⟩
      · exact hk
      · show some _ = some _
        simp
      · rw [List.all_map]; exact k
theorem p_isw {w : Str} (hl : w.length ≤ 80000) (k : q (.bl (lowB w 6)) h) : f_is_word [.str w] h q x := by
  unfold f_is_word
  exact ⟨rfl, p_lowB hl k⟩
theorem low_word {m : Nat} {p : Str} (m1 : 1 ≤ m) (m6 : m ≤ 6) (hw : letW m p) : lowB p 6 = true := by
  have := hw.1
  have ha : p.cps.toList.all isLet = true := List.all_eq_true.mpr fun c hc => hw.2 c hc
  unfold lowB
  rw [decide_eq_true (by omega), decide_eq_true (by omega), ha]; rfl
end
end Sx

end
section
set_option Elab.async false
set_option linter.all false
set_option maxRecDepth 100000
set_option maxHeartbeats 2000000
/-! XVV: parts of views -/
namespace Sx
open PySem PyProof.Rows L2 Cl RZ
/-! ### parts -/
def procS (n : Nat) : Str := "@" ++ (toString (n : Int) : Str)
theorem procS_eq : ∀ n < 10, procS n = ⟨#[64, 48 + n]⟩ := by decide +kernel
def PartOk (w : Nat) (p : Str) : Prop := (∃ n < w, p = procS n) ∨ ∃ m, 1 ≤ m ∧ m ≤ 6 ∧ letW m p
theorem part_len {w : Nat} {p : Str} (w6 : w ≤ 10) (h : PartOk w p) : p.length ≤ 6 := by
  rcases h with ⟨n, hn, rfl⟩ | ⟨m, _, m6, hw⟩
  · rw [procS_eq n (by omega)]; show 2 ≤ 6; omega
  · rw [hw.1]; exact m6
theorem part_plus {w : Nat} {p : Str} (w6 : w ≤ 10) (h : PartOk w p) : 43 ∉ TL.tl p := by
  rcases h with ⟨n, hn, rfl⟩ | ⟨m, _, m6, hw⟩
  · rw [procS_eq n (by omega)]
    show 43 ∉ [64, 48 + n]
    simp; omega
  · intro z
    have := hw.2 43 z
    revert this; decide +kernel
def viewT (ws : List Str) : Str := Txt.join "+" ws
theorem split_view {w : Nat} {ws : List Str} (w6 : w ≤ 10) (hne : ws ≠ []) (h : ∀ p ∈ ws, PartOk w p) : Txt.split (viewT ws) "+" = ws :=
  TL.split_join (s := 43) (S := []) rfl (by decide +kernel) hne fun p hp => part_plus w6 (h p hp)
theorem view_len {w : Nat} {ws : List Str} (w6 : w ≤ 10) (h8 : ws.length ≤ 8) (h : ∀ p ∈ ws, PartOk w p) : (viewT ws).length ≤ 100 := by
  have h1 := join_len "+" ws
  have h2 := Cl.sum_le (ys := ws) (k := 6) fun y hy => part_len w6 (h y hy)
  have h3 : ("+" : Str).length = 1 := by decide +kernel
  rw [h3] at h1
  unfold viewT
  omega
theorem inM_strs (s : Str) (out : List Str) : inM (.str s) (out.map .str) = decide (s ∈ out) := by
  induction out with
  | nil => simp [inM]
  | cons t out ih =>
    have : inM (.str s) (Val.str t :: out.map .str) = (t == s || inM (.str s) (out.map .str)) := rfl
    rw [List.map_cons, this, ih]
    by_cases c : t = s
    · simp [c]
    · simp [c, Ne.symm c]
theorem flatM_strs (out : List Str) : (out.map Val.str).all flatM = true := by simp [flatM]
/-! ### the law's views -/
theorem strs_keys (ws : List Str) : (ws.map fun s => (Sum.inr s : L2.Key)).map keyM = ws.map .str := by simp [keyM]
theorem sort_strs {ws : List Str} {q : Val → Prop} (h64 : ws.length < 64) (k : ∀ out : List Str, sortedS out = true → out.Nodup → (∀ j, j ∈ out ↔ j ∈ ws) → q (.lst (out.map .str))) : sortKeys (ws.map fun s => (Sum.inr s : L2.Key)) q :=
  .inr ⟨ws, ws, rfl, h64, fun _ h => h, k⟩
/-- a view's parts -/
structure VOk (w : Nat) (ws : List Str) : Prop where
  ne : ws ≠ []
  l8 : ws.length ≤ 8
  ok : ∀ p ∈ ws, PartOk w p
  so : sortedS ws = true
  nd : ws.Nodup
theorem view_one (s : Str) : viewT [s] = s := by
  unfold viewT
  rw [TL.join_eq]
  rfl
end Sx

end
section
set_option Elab.async false
set_option linter.all false
set_option maxRecDepth 100000
set_option maxHeartbeats 2000000
/-! XV1p: parts of views, the view as a thing -/
namespace Sx
open PySem PyProof.Rows L2 Cl RZ
section
variable {h : Mh} {q : VQ} {x : XQ}
theorem low_proc {n : Nat} (hn : n < 10) : lowB (procS n) 6 = false := by
  rw [procS_eq n hn]
  have : ∀ m < 10, lowB ⟨#[64, 48 + m]⟩ 6 = false := by decide +kernel
  exact this n hn
theorem p_is_part {w : Nat} {p : Str} (w6 : w ≤ 10) (hp : PartOk w p) (k : q (.bl true) h) : f_is_part [.str p] h q x := by
  unfold f_is_part
  have hl := part_len w6 hp
  refine ⟨rfl, p_isw (by omega) ?_⟩
  rcases hp with ⟨n, hn, rfl⟩ | ⟨m, m1, m6, hw⟩
  · rw [low_proc (by omega)]
    have e0 := procS_eq n (by omega)
    have hl : (procS n).length = 2 := by rw [e0]; rfl
    refine ⟨by omega, .inl ⟨_, rfl, ?_⟩⟩
    refine onB_t (decide_eq_true (by rw [hl]; rfl)) ?_
    refine ⟨by omega, 64, by rw [e0]; rfl, .inl ⟨_, rfl, onB_t (by decide +kernel) ⟨by omega, 48 + n, by rw [e0]; rfl, .inl ⟨48 + n, _, rfl, rfl, ?_⟩⟩⟩⟩
    have : ∀ m < 10, decide (48 + m ∈ ("0123456789" : Str).cps.toList) = true := by decide +kernel
    show q (.bl (decide (48 + n ∈ ("0123456789" : Str).cps.toList))) h
    rw [this n (by omega)]; exact k
  · rw [low_word m1 m6 hw]; exact k
end
/-! ### the view as a thing -/
def viewV (out : List Str) : Val := .obj "View" ["held"] [.tup (out.map .str)]
section
variable {w : Nat} {h : Mh} {q : VQ} {x : XQ}
theorem p_view_init {ws : List Str} (w6 : w ≤ 10) (h8 : ws.length ≤ 8) (hne : ws ≠ []) (hws : ∀ p ∈ ws, PartOk w p) (k : ∀ out : List Str, sortedS out = true → out.Nodup → (∀ j, j ∈ out ↔ j ∈ ws) → q .non (h ++ [.ins "View" [("held", .tup (out.map .str))]])) : f_View__init__ [.ref h.length, .str (viewT ws)] (h ++ [.ins "View" []]) q x := by
  unfold f_View__init__
  have hl := view_len w6 h8 hws
  have eI : ∀ fs, (h ++ [Cell.ins "View" fs])[h.length]? = some (.ins "View" fs) := fun fs => by simp
  refine ⟨rfl, by decide +kernel, by omega, ?_⟩
  rw [split_view w6 hne hws]
  refine .inl ⟨_, rfl, by rw [List.length_map]; omega, ?_⟩
  refine lc_map (al := fun h => lstOf h (.lst (ws.map .str)) = some (ws.map .str)) Val.str (fun _ => .bl true) rfl ws [] (fun p hp k hk => p_is_part w6 (hws p hp) hk) ⟨ws.map fun _ => true, by simp [anyOf, lstOf], ?_⟩
  have ht : (ws.map fun _ => true).all id = true := by rw [List.all_map]; exact List.all_eq_true.mpr fun _ _ => rfl
  rw [ht]
  refine .inl ⟨_, rfl, by rw [List.length_map]; omega, ?_⟩
  have sc : ∀ (L : List Str) (acc : List L2.Key) (env : Me) (qq : List L2.Key → Mh → Prop), env.length = 4 → qq (acc ++ L.map Sum.inr) (h ++ [.ins "View" []]) → scGo (fun h => lstOf h (.lst (ws.map .str)) = some (ws.map .str)) (mName 3) tYesM (eVar 3) env (L.map .str) acc (h ++ [.ins "View" []]) qq := by
    intro L
    induction L with
    | nil => intro acc env qq _ k; exact ⟨rfl, by simpa using k⟩
    | cons s L ih =>
      intro acc env qq he k
      simp only [List.map_cons, scGo, tYesM, ↓reduceIte, mName]
      refine ⟨rfl, ?_⟩
      unfold eVar
      have : (env.set 3 (some (Val.str s)))[3]? = some (some (.str s)) := by rw [List.getElem?_set_self (by omega)]
      rw [this]
      exact ⟨.inr s, rfl, ih _ _ _ he (by simpa using k)⟩
  refine sc ws [] _ _ rfl (.inr ⟨ws, ws, rfl, by omega, fun n hn => hn, fun out o1 o2 o3 => ?_⟩)
  have ol : out.length ≤ 8 := Nat.le_trans (nodup_le o2 fun x hx => (o3 x).mp hx) h8
  refine ⟨_, rfl, _, _, eI _, by simp, by simp, ?_⟩
  have e2 : (h ++ [Cell.ins "View" []]).set h.length (.ins "View" (putM "held" (.tup (out.map .str)) [])) = h ++ [.ins "View" [("held", .tup (out.map .str))]] := by simp [putM]
  rw [e2]
  refine ⟨_, _, _, ins_ref (eI _), by simp, rfl, _, rfl, ?_⟩
  have e3 : decide ((8 : Int) < ((out.map Val.str).length : Int)) = false := decide_eq_false (by rw [List.length_map]; omega)
  show if decide ((8 : Int) < ((out.map Val.str).length : Int)) = true then _ else _
  rw [e3, if_neg Bool.false_ne_true]
  exact k out o1 o2 o3
theorem held_fld (out : List Str) (h : Mh) : insOf h (viewV out) = some (("View" : Str), [(("held" : Str), Val.tup (out.map .str))]) := rfl
end
end Sx

end
section
set_option Elab.async false
set_option linter.all false
set_option maxRecDepth 100000
set_option maxHeartbeats 2000000
/-! XLS: sorted texts are told by what they hold -/
namespace Sx
open PySem PySem.Spec PyProof.Rows L2 Cl RZ
theorem ltc_irr : ∀ a : List Nat, ltCps a a = false
  | [] => rfl
  | x :: a => by simp [ltCps, ltc_irr a]
theorem ltc_tri : ∀ a b : List Nat, ltCps a b = false → ltCps b a = false → a = b
  | [], [], _, _ => rfl
  | [], _ :: _, h, _ => by simp [ltCps] at h
  | _ :: _, [], _, h => by simp [ltCps] at h
  | x :: a, y :: b, h1, h2 => by
    simp only [ltCps, Bool.or_eq_false_iff, Bool.and_eq_false_iff, decide_eq_false_iff_not, beq_eq_false_iff_ne] at h1 h2
    have e : x = y := by omega
    subst e
    rw [ltc_tri a b (by simpa using h1.2) (by simpa using h2.2)]
theorem ltc_tr : ∀ a b c : List Nat, ltCps a b = true → ltCps b c = true → ltCps a c = true
  | [], _, [], _, h => by rename_i b _; cases b <;> simp [ltCps] at h
  | [], _, _ :: _, _, _ => rfl
  | _ :: _, [], _, h, _ => by simp [ltCps] at h
  | _ :: _, _ :: _, [], _, h => by simp [ltCps] at h
  | x :: a, y :: b, z :: c, h1, h2 => by
    simp only [ltCps, Bool.or_eq_true, Bool.and_eq_true, decide_eq_true_eq, beq_iff_eq] at h1 h2 ⊢
    rcases h1 with h1 | ⟨e1, h1⟩ <;> rcases h2 with h2 | ⟨e2, h2⟩
    · left; omega
    · left; omega
    · left; omega
    · exact .inr ⟨by omega, ltc_tr a b c h1 h2⟩
abbrev ltS (a b : Str) : Prop := ltCps a.cps.toList b.cps.toList = true
theorem pw_ext {α : Type} {r : α → α → Prop} (asy : ∀ a b, r a b → r b a → False) : ∀ xs ys : List α, xs.Pairwise r → ys.Pairwise r → (∀ k, k ∈ xs ↔ k ∈ ys) → xs = ys
  | [], [], _, _, _ => rfl
  | [], y :: ys, _, _, h => absurd ((h y).mpr (by simp)) (by simp)
  | x :: xs, [], _, _, h => absurd ((h x).mp (by simp)) (by simp)
  | x :: xs, y :: ys, p1, p2, h => by
    obtain ⟨a1, a2⟩ := List.pairwise_cons.mp p1
    obtain ⟨b1, b2⟩ := List.pairwise_cons.mp p2
    have e : x = y := by
      rcases List.mem_cons.mp ((h x).mp (by simp)) with e | hx
      · exact e
      rcases List.mem_cons.mp ((h y).mpr (by simp)) with e | hy
      · exact e.symm
      exact (asy x y (a1 y hy) (b1 x hx)).elim
    subst e
    congr 1
    refine pw_ext asy xs ys a2 b2 fun k => ⟨fun hk => ?_, fun hk => ?_⟩
    · rcases List.mem_cons.mp ((h k).mp (List.mem_cons_of_mem _ hk)) with e | z
      · subst e; exact (asy _ _ (a1 _ hk) (a1 _ hk)).elim
      · exact z
    · rcases List.mem_cons.mp ((h k).mpr (List.mem_cons_of_mem _ hk)) with e | z
      · subst e; exact (asy _ _ (b1 _ hk) (b1 _ hk)).elim
      · exact z
theorem cps_inj {a b : Str} (h : a.cps.toList = b.cps.toList) : a = b := by
  cases a; cases b
  congr
  exact Array.toList_inj.mp h
theorem rising_pw : ∀ (r : List Str) (p : Str), risingS p r = true → (p :: r).Nodup → (p :: r).Pairwise ltS
  | [], p, _, _ => by simp
  | x :: r, p, h, hn => by
    have h : (!ltCps x.cps.toList p.cps.toList && risingS x r) = true := h
    obtain ⟨h1, h2⟩ := Bool.and_eq_true_iff.mp h
    have h1 : ltCps x.cps.toList p.cps.toList = false := by simpa using h1
    obtain ⟨n1, n2⟩ := List.nodup_cons.mp hn
    have ih := rising_pw r x h2 n2
    have hlt : ltS p x := by
      cases c : ltCps p.cps.toList x.cps.toList with
      | true => exact c
      | false => exact absurd (cps_inj (ltc_tri _ _ c h1)) fun e => n1 (by rw [e]; simp)
    refine List.pairwise_cons.mpr ⟨fun y hy => ?_, ih⟩
    rcases List.mem_cons.mp hy with rfl | hy
    · exact hlt
    · exact ltc_tr _ _ _ hlt ((List.pairwise_cons.mp ih).1 y hy)
theorem sorted_uniq {a b : List Str} (a1 : sortedS a = true) (a2 : a.Nodup) (b1 : sortedS b = true) (b2 : b.Nodup) (h : ∀ j, j ∈ a ↔ j ∈ b) : a = b := by
  have pw : ∀ l : List Str, sortedS l = true → l.Nodup → l.Pairwise ltS := fun l => by
    cases l with
    | nil => intro _ _; simp
    | cons p r => exact fun h1 h2 => rising_pw r p h1 h2
  refine pw_ext (fun x y h1 h2 => ?_) _ _ (pw a a1 a2) (pw b b1 b2) h
  have := ltc_tr _ _ _ h1 h2
  rw [ltc_irr] at this; cases this
end Sx

end
section
set_option Elab.async false
set_option linter.all false
set_option maxRecDepth 100000
set_option maxHeartbeats 2000000
/-! XDT: == of plain values that are the same -/
namespace Sx
open PySem L2 Cl RZ
def plB : Nat → Val → Bool
  | 0, _ => false
  | n + 1, v => match v with
    | .non => true
    | .bl _ => true
    | .int _ => true
    | .str x => PyData.strOk x
    | .tup xs => xs.all (plB n)
    | .lst xs => xs.all (plB n)
    | _ => false
theorem pl_dats {n : Nat} (ih : ∀ v, plB n v = true → ∃ d, datV v = some d ∧ PyData.canLay0 d = true ∧ PyData.depth d ≤ n ∧ PyData.eqv d d = true) : ∀ xs : List Val, xs.all (plB n) = true → ∃ ds, datVs xs = some ds ∧ PyData.canLayAll0 ds = true ∧ PyData.depthAll ds ≤ n ∧ PyData.eqvAll ds ds = true
  | [], _ => ⟨[], by simp [datVs], by simp [PyData.canLayAll0], by simp [PyData.depthAll], by simp [PyData.eqvAll]⟩
  | x :: xs, h => by
    obtain ⟨h1, h2⟩ := Bool.and_eq_true_iff.mp (show (plB n x && xs.all (plB n)) = true from h)
    obtain ⟨d, a1, a2, a3, a4⟩ := ih x h1
    obtain ⟨ds, b1, b2, b3, b4⟩ := pl_dats ih xs h2
    refine ⟨d :: ds, by unfold datVs; rw [a1, b1], by simp [PyData.canLayAll0, a2, b2], ?_, by simp [PyData.eqvAll, a4, b4]⟩
    simp only [PyData.depthAll]; omega
theorem pl_dat : ∀ (n : Nat) (v : Val), plB n v = true → ∃ d, datV v = some d ∧ PyData.canLay0 d = true ∧ PyData.depth d ≤ n ∧ PyData.eqv d d = true
  | 0, v, h => by cases h
  | n + 1, v, h => by
    cases v with
    | non => exact ⟨_, rfl, by simp [PyData.canLay0], by simp [PyData.depth], by simp [PyData.eqv]⟩
    | bl b => exact ⟨_, rfl, by simp [PyData.canLay0], by simp [PyData.depth], by simp [PyData.eqv]⟩
    | int b => exact ⟨_, rfl, by simp [PyData.canLay0], by simp [PyData.depth], by simp [PyData.eqv]⟩
    | str b => exact ⟨_, rfl, by simp only [PyData.canLay0]; exact h, by simp [PyData.depth], by simp [PyData.eqv]⟩
    | tup xs =>
      obtain ⟨ds, b1, b2, b3, b4⟩ := pl_dats (pl_dat n) xs h
      exact ⟨.tuple ds, by unfold datV; rw [b1]; rfl, by simp only [PyData.canLay0]; exact b2, by simp only [PyData.depth]; omega, by simp only [PyData.eqv]; exact b4⟩
    | lst xs =>
      obtain ⟨ds, b1, b2, b3, b4⟩ := pl_dats (pl_dat n) xs h
      exact ⟨.list ds, by unfold datV; rw [b1]; rfl, by simp only [PyData.canLay0]; exact b2, by simp only [PyData.depth]; omega, by simp only [PyData.eqv]; exact b4⟩
    | obj => cases h
    | ref => cases h
    | src => cases h
    | ty => cases h
    | cls => cases h
/-- the value at hand: a cell's list as it stands -/
def valOf (h : Mh) : Val → Option Val
  | .ref n => match h[n]? with
    | some (.lst xs) => some (.lst xs)
    | _ => none
  | v => some v
theorem dat_val {h : Mh} {v z : Val} (e : valOf h v = some z) (hz : ∀ n, z ≠ .ref n) : datOf h v = datV z := by
  cases v with
  | ref n =>
    unfold valOf at e
    unfold datOf
    dsimp only at e ⊢
    cases hn : h[n]? with
    | none => rw [hn] at e; cases e
    | some c =>
      rw [hn] at e
      cases c with
      | lst xs => cases e; rfl
      | ins c fs => cases e
      | dct kvs => cases e
  | _ => cases e; rfl
theorem pl_nref {n : Nat} {z : Val} (p : plB n z = true) : ∀ m, z ≠ .ref m := fun m e => by
  subst e
  cases n <;> cases p
theorem pl_at {n : Nat} {h : Mh} {v z : Val} (hv : valOf h v = some z) (p : plB n z = true) (hn : n ≤ 60) : ∃ d, datOf h v = some d ∧ SeqAt.shaped d = true ∧ PyData.eqv d d = true := by
  obtain ⟨d, d1, d2, d3, d4⟩ := pl_dat n z p
  exact ⟨d, (dat_val hv (pl_nref p)).trans d1, by unfold SeqAt.shaped; rw [d2, decide_eq_true (by omega)]; rfl, d4⟩
theorem eq_pl {n : Nat} {h : Mh} {v u z : Val} {q : VQ} (hv : valOf h v = some z) (hu : valOf h u = some z) (p : plB n z = true) (hn : n ≤ 60) (k : q (.bl true) h) : oEq v u h q := by
  obtain ⟨d, d1, d2, d3, d4⟩ := pl_dat n z p
  have sh : SeqAt.shaped d = true := by unfold SeqAt.shaped; rw [d2, decide_eq_true (by omega)]; rfl
  exact .inr ⟨d, d, (dat_val hv (pl_nref p)).trans d1, (dat_val hu (pl_nref p)).trans d1, sh, sh, by rw [d4]; exact k⟩
theorem ne_pl {n : Nat} {h : Mh} {v u z : Val} {q : VQ} (hv : valOf h v = some z) (hu : valOf h u = some z) (p : plB n z = true) (hn : n ≤ 60) (k : q (.bl false) h) : oNe v u h q := by
  obtain ⟨d, d1, d2, d3, d4⟩ := pl_dat n z p
  have sh : SeqAt.shaped d = true := by unfold SeqAt.shaped; rw [d2, decide_eq_true (by omega)]; rfl
  exact .inr ⟨d, d, (dat_val hv (pl_nref p)).trans d1, (dat_val hu (pl_nref p)).trans d1, sh, sh, by rw [d4]; exact k⟩
theorem val_mid {h T : Mh} {xs : List Val} : valOf (h ++ .lst xs :: T) (.ref h.length) = some (.lst xs) := by
  unfold valOf
  simp
theorem pl_s (n : Nat) (v : Val) (p : plB n v = true) (hn : n ≤ 60) : ∃ d, (∀ h, datOf h v = some d) ∧ SeqAt.shaped d = true ∧ PyData.eqv d d = true := by
  obtain ⟨d, d1, d2, d3, d4⟩ := pl_dat n v p
  refine ⟨d, fun h => ?_, by unfold SeqAt.shaped; rw [d2, decide_eq_true (by omega)]; rfl, d4⟩
  cases v with
  | ref m => exact absurd rfl (pl_nref p m)
  | _ => exact d1
theorem val_ref {h : Mh} {n : Nat} {xs : List Val} (e : h[n]? = some (.lst xs)) : valOf h (.ref n) = some (.lst xs) := by
  unfold valOf
  simp [e]
end Sx

end
section
set_option Elab.async false
set_option linter.all false
set_option maxRecDepth 100000
set_option maxHeartbeats 2000000
/-! XL1q: (split from XL1) sorted texts are told by what they hold; parts that are none; views of any parts -/
namespace Sx
open PySem PySem.Spec PyProof.Rows L2 Cl RZ
/-! ### parts, and texts that are none -/
def isAt (p : Str) : Bool := match p.cps.toList with
  | [c, d] => decide (c = 64) && decide (d ∈ ("0123456789" : Str).cps.toList)
  | _ => false
def gB (p : Str) : Bool := lowB p 6 || isAt p
def odds : List Str := ["", "@", "@10", "Ab", "abcdefg", "@a", " a", "a-"]
def Cand (p : Str) : Prop := PartOk 10 p ∨ p ∈ odds
theorem part_g {p : Str} (h : PartOk 10 p) : gB p = true := by
  unfold gB
  rcases h with ⟨n, hn, rfl⟩ | ⟨m, m1, m6, hw⟩
  · have : ∀ n < 10, isAt (procS n) = true := by decide +kernel
    rw [this n hn]; simp
  · rw [low_word m1 m6 hw]; rfl
theorem odd_g {p : Str} (h : p ∈ odds) : gB p = false := by
  have : ∀ p ∈ odds, gB p = false := by decide +kernel
  exact this p h
theorem cand_len {p : Str} (h : Cand p) : p.length ≤ 7 := by
  rcases h with h | h
  · have := part_len (w := 10) (by omega) h; omega
  · have : ∀ p ∈ odds, p.length ≤ 7 := by decide +kernel
    exact this p h
/-- no plus, and short -/
def NoPl (p : Str) : Prop := 43 ∉ TL.tl p ∧ p.length ≤ 20
theorem cand_np {p : Str} (h : Cand p) : NoPl p := by
  refine ⟨?_, by have := cand_len h; omega⟩
  rcases h with h | h
  · exact part_plus (w := 10) (by omega) h
  · have : ∀ p ∈ odds, 43 ∉ TL.tl p := by decide +kernel
    exact this p h
theorem low_np {p : Str} {n : Int} (h : lowB p n = true) : 43 ∉ TL.tl p := fun z => by
  unfold lowB at h
  have h3 := (Bool.and_eq_true_iff.mp (Bool.and_eq_true_iff.mp h).2).2
  have := List.all_eq_true.mp h3 43 z
  revert this; decide +kernel
section
variable {h : Mh} {q : VQ} {x : XQ}
theorem p_is_partA {p : Str} (hl : p.length ≤ 80000) (k : q (.bl (gB p)) h) : f_is_part [.str p] h q x := by
  unfold f_is_part
  refine ⟨rfl, p_isw (by omega) ?_⟩
  unfold gB at k
  cases c0 : lowB p 6 with
  | true => rw [c0] at k; exact k
  | false =>
  rw [c0] at k
  have k : q (.bl (isAt p)) h := k
  refine ⟨by omega, .inl ⟨_, rfl, ?_⟩⟩
  show onB (.bl (decide ((p.length : Int) = 2))) _ _
  have el := len_cps p
  refine onB_i (if_b (fun hb => ?_) fun hb => ?_)
  rotate_left
  · have h2 : p.length ≠ 2 := by have := of_decide_eq_false hb; omega
    have : isAt p = false := by
      unfold isAt
      split
      · rename_i e; rw [e] at el; exact absurd el.symm h2
      · rfl
    rw [this] at k; exact k
  have h2 : p.length = 2 := by have := of_decide_eq_true hb; omega
  obtain ⟨c, d, e⟩ : ∃ c d, p.cps.toList = [c, d] := by
    rw [h2] at el
    match p.cps.toList, el with
    | [c, d], _ => exact ⟨c, d, rfl⟩
  have ek : isAt p = (decide (c = 64) && decide (d ∈ ("0123456789" : Str).cps.toList)) := by unfold isAt; rw [e]
  rw [ek] at k
  refine ⟨by omega, c, atI_nat (i := 0) (by rw [e]; rfl), .inl ⟨_, rfl, ?_⟩⟩
  show onB (.bl (decide ((⟨#[c]⟩ : Str) = "@"))) _ _
  have ec : decide ((⟨#[c]⟩ : Str) = "@") = decide (c = 64) := decide_eq_decide.mpr ⟨fun z => by
    have e2 : (#[c] : Array Nat) = #[64] := congrArg Str.cps z
    simpa using e2, fun z => by rw [z]; rfl⟩
  rw [ec]
  refine onB_i (if_b (fun hb2 => ?_) fun hb2 => by rw [hb2] at k; exact k)
  rw [hb2] at k
  exact ⟨by omega, d, atI_nat (i := 1) (by rw [e]; rfl), .inl ⟨d, _, rfl, rfl, k⟩⟩
abbrev noView : Exn := ⟨"InvalidView", ["code"], [.str "InvalidView"]⟩
theorem split_cand {ws : List Str} (hne : ws ≠ []) (h : ∀ p ∈ ws, NoPl p) : Txt.split (viewT ws) "+" = ws :=
  TL.split_join (s := 43) (S := []) rfl (by decide +kernel) hne fun p hp => (h p hp).1
theorem cand_view_len {ws : List Str} (hl : ws.length ≤ 20) (h : ∀ p ∈ ws, NoPl p) : (viewT ws).length ≤ 1000 := by
  have h1 := join_len "+" ws
  have h2 := Cl.sum_le (ys := ws) (k := 20) fun y hy => (h y hy).2
  have h3 : ("+" : Str).length = 1 := by decide +kernel
  rw [h3] at h1
  unfold viewT
  omega
/-- a view of any parts -/
theorem p_view_initG {ws due : List Str} (hl : ws.length ≤ 20) (hne : ws ≠ []) (hws : ∀ p ∈ ws, NoPl p) (d1 : sortedS due = true) (d2 : due.Nodup) (d3 : ∀ j, j ∈ due ↔ j ∈ ws)
    (kg : ws.all gB = true → due.length ≤ 8 → q .non (h ++ [.ins "View" [("held", .tup (due.map .str))]])) (kb : (ws.all gB && decide (due.length ≤ 8)) = false → ∀ fs, x noView (h ++ [.ins "View" fs])) :
    f_View__init__ [.ref h.length, .str (viewT ws)] (h ++ [.ins "View" []]) q x := by
  unfold f_View__init__
  have hvl := cand_view_len hl hws
  have eI : ∀ fs, (h ++ [Cell.ins "View" fs])[h.length]? = some (.ins "View" fs) := fun fs => by simp
  refine ⟨rfl, by decide +kernel, by omega, ?_⟩
  rw [split_cand hne hws]
  refine .inl ⟨_, rfl, by rw [List.length_map]; omega, ?_⟩
  refine lc_map (al := fun h => lstOf h (.lst (ws.map .str)) = some (ws.map .str)) Val.str (fun p => .bl (gB p)) rfl ws [] (fun p hp k hk => p_is_partA (by have := (hws p hp).2; omega) hk) ⟨ws.map gB, by simp [anyOf, lstOf], ?_⟩
  rw [List.all_map]
  show if (!(ws.all (id ∘ gB))) = true then _ else _
  have eg : ws.all (id ∘ gB) = ws.all gB := rfl
  rw [eg]
  refine if_b (fun hb => ?_) fun hb => ?_
  · have hb : ws.all gB = false := by simpa using hb
    exact kb (by rw [hb]; rfl) []
  have hb : ws.all gB = true := by simpa using hb
  refine .inl ⟨_, rfl, by rw [List.length_map]; omega, ?_⟩
  have sc : ∀ (L : List Str) (acc : List L2.Key) (env : Me) (qq : List L2.Key → Mh → Prop), env.length = 4 → qq (acc ++ L.map Sum.inr) (h ++ [.ins "View" []]) → scGo (fun h => lstOf h (.lst (ws.map .str)) = some (ws.map .str)) (mName 3) tYesM (eVar 3) env (L.map .str) acc (h ++ [.ins "View" []]) qq := by
    intro L
    induction L with
    | nil => intro acc env qq _ k; exact ⟨rfl, by simpa using k⟩
    | cons s L ih =>
      intro acc env qq he k
      simp only [List.map_cons, scGo, tYesM, ↓reduceIte, mName]
      refine ⟨rfl, ?_⟩
      unfold eVar
      have : (env.set 3 (some (Val.str s)))[3]? = some (some (.str s)) := by rw [List.getElem?_set_self (by omega)]
      rw [this]
      exact ⟨.inr s, rfl, ih _ _ _ he (by simpa using k)⟩
  refine sc ws [] _ _ rfl (.inr ⟨ws, ws, rfl, by omega, fun n hn => hn, fun out o1 o2 o3 => ?_⟩)
  obtain rfl : out = due := sorted_uniq o1 o2 d1 d2 fun j => (o3 j).trans (d3 j).symm
  have ol : out.length ≤ 20 := Nat.le_trans (nodup_le o2 fun x hx => (o3 x).mp hx) hl
  refine ⟨_, rfl, _, _, eI _, by simp, by simp, ?_⟩
  have e2 : (h ++ [Cell.ins "View" []]).set h.length (.ins "View" (putM "held" (.tup (out.map .str)) [])) = h ++ [.ins "View" [("held", .tup (out.map .str))]] := by simp [putM]
  rw [e2]
  refine ⟨_, _, _, ins_ref (eI _), by simp, rfl, _, rfl, ?_⟩
  show if decide ((8 : Int) < ((out.map Val.str).length : Int)) = true then _ else _
  rw [List.length_map]
  refine if_b (fun hc => ?_) fun hc => ?_
  · have : 8 < out.length := by have := of_decide_eq_true hc; omega
    exact kb (by rw [decide_eq_false (by omega : ¬ out.length ≤ 8)]; simp) _
  · exact kg hb (by have := of_decide_eq_false hc; omega)
theorem old_heldL (n : Nat) (out : List Str) : olds n ([(("held" : Str), Val.tup (out.map Val.str))].map (·.2)) = true := by
  show (olds n (out.map Val.str) && true) = true
  rw [olds_map (fun _ => rfl) out]; rfl
/-- View(text) as an expression -/
theorem view_newG {ws due : List Str} {env : Me} {m : ME} (hm : ∀ q x, q (.str (viewT ws)) h → m env h q x) (hl : ws.length ≤ 20) (hne : ws ≠ []) (hws : ∀ p ∈ ws, NoPl p) (d1 : sortedS due = true) (d2 : due.Nodup) (d3 : ∀ j, j ∈ due ↔ j ∈ ws)
    (kg : (ws.all gB && decide (due.length ≤ 8)) = true → q (viewV due) h) (kb : (ws.all gB && decide (due.length ≤ 8)) = false → x noView h) : eNewF "View" f_View__init__ (aCons m aNil) env h q x := by
  refine hm _ _ ?_
  refine p_view_initG hl hne hws d1 d2 d3 (fun g1 g2 => ⟨rfl, _, [], rfl, old_heldL _ _, kg (by rw [g1, decide_eq_true g2]; rfl)⟩) fun hb fs => ⟨[.ins "View" fs], rfl, rfl, kb hb⟩
end
end Sx

end
section
set_option Elab.async false
set_option linter.all false
set_option maxRecDepth 100000
set_option maxHeartbeats 2000000
/-! RC6: the builders of sayings (k14) -/
namespace Sx
open PySem PyProof.Rows L2 Cl RZ
/-- D: the numbers of ns, ascending, each once -/
structure Du (ns D : List Nat) : Prop where
  pw : D.Pairwise (· < ·)
  mem : ∀ j, j ∈ D ↔ j ∈ ns
  sm : ∀ n ∈ ns, n < 9
  ln : ns.length ≤ 4
theorem pw_uniq : ∀ {a b : List Nat}, a.Pairwise (· < ·) → b.Pairwise (· < ·) → (∀ j, j ∈ a ↔ j ∈ b) → a = b
  | [], [], _, _, _ => rfl
  | [], y :: b, _, _, h => absurd ((h y).mpr (by simp)) (by simp)
  | x :: a, [], _, _, h => absurd ((h x).mp (by simp)) (by simp)
  | x :: a, y :: b, p, q, h => by
    obtain ⟨p1, p2⟩ := List.pairwise_cons.mp p
    obtain ⟨q1, q2⟩ := List.pairwise_cons.mp q
    have e : x = y := by
      rcases List.mem_cons.mp ((h x).mp (by simp)) with z | z
      · exact z
      · rcases List.mem_cons.mp ((h y).mpr (by simp)) with w | w
        · exact w.symm
        · have := q1 x z; have := p1 y w; omega
    subst e
    rw [pw_uniq p2 q2 fun j => ⟨fun hj => ?_, fun hj => ?_⟩]
    · rcases List.mem_cons.mp ((h j).mp (List.mem_cons_of_mem _ hj)) with z | z
      · have := p1 j hj; omega
      · exact z
    · rcases List.mem_cons.mp ((h j).mpr (List.mem_cons_of_mem _ hj)) with z | z
      · have := q1 j hj; omega
      · exact z
section
variable {h : Mh} {q : VQ} {x : XQ} {a b A B : List Nat} {v1 v2 : Val}
theorem e_ss {ns D : List Nat} {m : ME} {env : Me} {v : Val} (d : Du ns D) (hm : ∀ (q : VQ) (x : XQ), q v h → m env h q x) (ha : anyOf h v = some (nI ns)) (k : q (.lst (nI D)) h) : eSortSet m env h q x := by
  refine hm _ _ ⟨ns.map fun (n : Nat) => (Sum.inl (n : Int) : L2.Key), by rw [ha, keys_nI], by rw [List.length_map]; have := d.ln; omega, sort_nI (fun n hn => by have := d.sm n hn; omega) fun o o1 o2 => ?_⟩
  obtain rfl : o = D := pw_uniq o1 d.pw fun j => (o2 j).trans (d.mem j).symm
  exact k
/-- tuple(sorted(set(v))) -/
theorem e_tss {ns D : List Nat} {m : ME} {env : Me} {v : Val} (d : Du ns D) (hm : ∀ (q : VQ) (x : XQ), q v h → m env h q x) (ha : anyOf h v = some (nI ns)) (k : q (.tup (nI D)) h) : eCB fTuple (aCons (eSortSet m) aNil) env h q x := e_ss d hm ha ⟨_, rfl, k⟩
abbrev clV (A B : List Nat) : Val := .tup [.str "claim", .tup (nI A), .tup (nI B)]
abbrev whV (A B : List Nat) (v : Val) : Val := .tup [.str "when", .tup (nI A), .tup (nI B), v]
theorem du_nil : Du [] [] := ⟨.nil, by simp, by simp, by simp⟩
theorem p_clb (d1 : Du a A) (d2 : Du b B) (h1 : anyOf h v1 = some (nI a)) (h2 : anyOf h v2 = some (nI b)) (k : q (clV A B) h) : (ar 2 (fnM 2 b_claim)) [v1, v2] h q x := by
  refine ⟨rfl, e_tss d1 (fun q x k => k) h1 (e_tss d2 (fun q x k => k) h2 ⟨by simp, k⟩)⟩
theorem p_claim (d1 : Du a A) (d2 : Du b B) (h1 : anyOf h v1 = some (nI a)) (h2 : anyOf h v2 = some (nI b)) (k : q (clV A B) h) : f_claim [v1, v2] h q x := by
  unfold f_claim
  exact p_clb d1 d2 h1 h2 k
theorem p_claim0 (k : q (clV [] []) h) : f_claim_d0 [] h q x := by
  unfold f_claim_d0
  exact p_clb du_nil du_nil rfl rfl k
theorem p_claim1 (d1 : Du a A) (h1 : anyOf h v1 = some (nI a)) (k : q (clV A []) h) : f_claim_d1 [v1] h q x := by
  unfold f_claim_d1
  exact p_clb d1 du_nil h1 rfl k
theorem p_claimk (d2 : Du b B) (h2 : anyOf h v2 = some (nI b)) (k : q (clV [] B) h) : f_claim_kd0lacking [v2] h q x := by
  unfold f_claim_kd0lacking
  exact ⟨rfl, p_clb du_nil d2 rfl h2 k⟩
theorem p_whb {v : Val} (d1 : Du a A) (d2 : Du b B) (h1 : anyOf h v1 = some (nI a)) (h2 : anyOf h v2 = some (nI b)) (k : q (whV A B v) h) : (ar 3 (fnM 3 b_when)) [v, v1, v2] h q x := by
  refine ⟨rfl, e_tss d1 (fun q x k => k) h1 (e_tss d2 (fun q x k => k) h2 ⟨by simp, k⟩)⟩
theorem p_when1 {v : Val} (k : q (whV [] [] v) h) : f_when_d1 [v] h q x := by
  unfold f_when_d1
  exact p_whb du_nil du_nil rfl rfl k
theorem p_whenk {v : Val} (d1 : Du a A) (d2 : Du b B) (h1 : anyOf h v1 = some (nI a)) (h2 : anyOf h v2 = some (nI b)) (k : q (whV A B v) h) : f_when_klacking_had [v, v2, v1] h q x := by
  unfold f_when_klacking_had
  exact ⟨rfl, p_whb d1 d2 h1 h2 k⟩
theorem p_allof {vs : List Val} (hl : vs.length ≤ 1000) (k : q (.tup (.str "all" :: vs)) h) : f_all_of vs h q x := by
  unfold f_all_of
  exact ⟨by simp, by omega, vs, rfl, by simp; omega, by rw [List.append_nil]; exact k⟩
theorem p_always {v : Val} (k : q (.tup [.str "always", v]) h) : f_always [v] h q x := by
  unfold f_always
  exact ⟨rfl, by simp, k⟩
theorem p_sofar {v : Val} (k : q (.tup [.str "sofar", v]) h) : f_sofar [v] h q x := by
  unfold f_sofar
  exact ⟨rfl, by simp, k⟩
theorem p_sure {v : Val} (k : q (.tup [.str "sure", v]) h) : f_sure [v] h q x := by
  unfold f_sure
  exact ⟨rfl, by simp, k⟩
theorem p_named {v : Val} (k : q (.tup [.str "named", v]) h) : f_named [v] h q x := by
  unfold f_named
  exact ⟨rfl, by simp, k⟩
/-- str(View(m)) -/
theorem e_strv {ws due : List Str} {m : ME} {env : Me} (hm : ∀ (q : VQ) (x : XQ), q (.str (viewT ws)) h → m env h q x) (hl : ws.length ≤ 20) (hne : ws ≠ []) (hws : ∀ p ∈ ws, NoPl p) (d1 : sortedS due = true) (d2 : due.Nodup) (d3 : ∀ j, j ∈ due ↔ j ∈ ws)
    (kg : (ws.all gB && decide (due.length ≤ 8)) = true → q (.str (viewT due)) h) (kb : (ws.all gB && decide (due.length ≤ 8)) = false → x noView h) : eCB (fOwn "View" f_View__str__ isStrM) (aCons (eNewF "View" f_View__init__ (aCons m aNil)) aNil) env h q x := by
  refine (show eNewF "View" f_View__init__ (aCons m aNil) env h (fun v h1 => fOwn "View" f_View__str__ isStrM [v] h1 q) x from view_newG hm hl hne hws d1 d2 d3 (fun g => ⟨_, rfl, ?_⟩) kb)
  have dl : due.length ≤ 20 := Nat.le_trans (nodup_le d2 fun x hx => (d3 x).mp hx) hl
  have h2 := Cl.sum_le (ys := due) (k := 20) fun y hy => (hws y ((d3 y).mp hy)).2
  have h1 : ("+" : Str).length = 1 := by decide +kernel
  unfold f_View__str__
  exact ⟨rfl, _, _, _, held_fld due h, by simp, rfl, due, rfl, by rw [h1]; omega, ⟨_, rfl⟩, kg g⟩
/-- ws: the parts of a view as they are written; due: in order, each once -/
structure VW (ws due : List Str) : Prop where
  hl : ws.length ≤ 20
  hne : ws ≠ []
  hws : ∀ p ∈ ws, NoPl p
  d1 : sortedS due = true
  d2 : due.Nodup
  d3 : ∀ j, j ∈ due ↔ j ∈ ws
abbrev gdV (p : List Str × List Str) : Bool := p.1.all gB && decide (p.2.length ≤ 8)
abbrev eltV (j : Nat) : ME := eCB (fOwn "View" f_View__str__ isStrM) (aCons (eNewF "View" f_View__init__ (aCons (eVar j) aNil)) aNil)
theorem lcE_views {al : Mh → Prop} (hal : al h) : ∀ (L : List (List Str × List Str)) (acc : List Val) (env : Me) {q : List Val → Mh → Prop} {x : XQ}, 2 < env.length → (∀ p ∈ L, VW p.1 p.2) → ((∀ p ∈ L, gdV p = true) → q (acc ++ L.map fun p => .str (viewT p.2)) h) → ((∃ p ∈ L, gdV p = false) → x noView h) →
    lcGoE x al (mName 2) tYesM (eltV 2) env (L.map fun p => .str (viewT p.1)) acc h q
  | [], acc, env, q, x, _, _, kg, _ => ⟨hal, by simpa using kg (by simp)⟩
  | p :: L, acc, env, q, x, he, hv, kg, kb => by
    obtain ⟨a1, a2, a3, a4, a5, a6⟩ := hv p (by simp)
    have e2 : (env.set 2 (some (Val.str (viewT p.1))))[2]? = some (some (.str (viewT p.1))) := List.getElem?_set_self he
    simp only [List.map_cons, lcGoE, tYesM, ↓reduceIte, mName]
    refine ⟨hal, e_strv (ws := p.1) (due := p.2) (fun q x k => ?_) a1 a2 a3 a4 a5 a6 (fun g => ?_) fun g => kb ⟨p, by simp, g⟩⟩
    · unfold eVar
      rw [e2]
      exact k
    · exact lcE_views hal L _ _ he (fun r hr => hv r (by simp [hr])) (fun ga => by
        have := kg fun r hr => by
          rcases List.mem_cons.mp hr with rfl | hr
          · exact g
          · exact ga r hr
        simpa using this) fun ⟨r, hr, gr⟩ => kb ⟨r, by simp [hr], gr⟩
theorem p_knows {ws due : List Str} {v : Val} (w : VW ws due) (kg : gdV (ws, due) = true → q (.tup [.str "knows", .str (viewT due), v]) h) (kb : gdV (ws, due) = false → x noView h) : f_knows [.str (viewT ws), v] h q x := by
  unfold f_knows
  exact ⟨rfl, e_strv (fun q x k => k) w.hl w.hne w.hws w.d1 w.d2 w.d3 (fun g => ⟨by simp, kg g⟩) kb⟩
theorem p_everyone {L : List (List Str × List Str)} {v : Val} (hL : L.length ≤ 10) (hv : ∀ p ∈ L, VW p.1 p.2) (kg : (∀ p ∈ L, gdV p = true) → q (.tup [.str "everyone", .tup (L.map fun p => .str (viewT p.2)), v]) h) (kb : (∃ p ∈ L, gdV p = false) → x noView h) :
    f_everyone (v :: L.map fun p => .str (viewT p.1)) h q x := by
  unfold f_everyone
  refine ⟨by simp, by simp; omega, .inr (.inl ⟨by show (L.map _).length ≤ 90000; rw [List.length_map]; omega, ?_⟩)⟩
  exact lcE_views trivial L [] _ (by simp [wipeM]) hv (fun g => ⟨_, rfl, by simp, kg g⟩) kb
theorem p_common {L : List (List Str × List Str)} {v : Val} (hL : L.length ≤ 10) (hv : ∀ p ∈ L, VW p.1 p.2) (kg : (∀ p ∈ L, gdV p = true) → q (.tup [.str "common", .tup (L.map fun p => .str (viewT p.2)), v]) h) (kb : (∃ p ∈ L, gdV p = false) → x noView h) :
    f_common (v :: L.map fun p => .str (viewT p.1)) h q x := by
  unfold f_common
  refine ⟨by simp, by simp; omega, .inr (.inl ⟨by show (L.map _).length ≤ 90000; rw [List.length_map]; omega, ?_⟩)⟩
  exact lcE_views trivial L [] _ (by simp [wipeM]) hv (fun g => ⟨_, rfl, by simp, kg g⟩) kb
end
end Sx

end
section
set_option Elab.async false
set_option linter.all false
set_option maxRecDepth 100000
set_option maxHeartbeats 2000000
/-! RC7: views of one kind and one process; views that are none (k14) -/
namespace Sx
open PySem PySem.Spec PyProof.Rows L2 Cl RZ
structure KdOk (k : Str) (d : Nat) : Prop where
  w : ∃ m, 1 ≤ m ∧ m ≤ 6 ∧ letW m k
  d : d < 10
theorem kd_cons {k : Str} {d : Nat} (o : KdOk k d) : ∃ c t, k.cps.toList = c :: t ∧ 97 ≤ c := by
  obtain ⟨m, m1, _, hw⟩ := o.w
  have h0 : 0 < k.cps.toList.length := by rw [len_cps, hw.1]; omega
  cases e : k.cps.toList with
  | nil => rw [e] at h0; simp at h0
  | cons c t =>
    refine ⟨c, t, rfl, ?_⟩
    have hc := of_decide_eq_true (hw.2 c (by show c ∈ k.cps.toList; rw [e]; simp))
    have : ∀ c ∈ letters.cps.toList, 97 ≤ c := by decide +kernel
    exact this c hc
theorem kd_ne {k : Str} {d : Nat} (o : KdOk k d) : procS d ≠ k := fun e => by
  obtain ⟨c, t, ec, hc⟩ := kd_cons o
  rw [← e, procS_eq d o.d] at ec
  have : 64 = c := (List.cons.inj ec).1
  omega
theorem kd_lt {k : Str} {d : Nat} (o : KdOk k d) : ltCps k.cps.toList (procS d).cps.toList = false := by
  obtain ⟨c, t, ec, hc⟩ := kd_cons o
  rw [ec, procS_eq d o.d]
  show ltCps (c :: t) [64, 48 + d] = false
  simp only [ltCps]
  rw [decide_eq_false (by omega : ¬ c < 64)]
  simp
  omega
theorem kd_part {k : Str} {d : Nat} (o : KdOk k d) : PartOk 10 k ∧ PartOk 10 (procS d) := ⟨.inr o.w, .inl ⟨d, o.d, rfl⟩⟩
theorem kd_vw {k : Str} {d : Nat} (o : KdOk k d) : VW [k, procS d] [procS d, k] := by
  obtain ⟨p1, p2⟩ := kd_part o
  refine ⟨by simp, by simp, fun p hp => ?_, ?_, ?_, fun j => by simp [or_comm]⟩
  · simp only [List.mem_cons, List.not_mem_nil, or_false] at hp
    rcases hp with rfl | rfl
    · exact cand_np (.inl p1)
    · exact cand_np (.inl p2)
  · show (!ltCps k.cps.toList (procS d).cps.toList && true) = true
    rw [kd_lt o]; rfl
  · simp only [List.nodup_cons, List.mem_cons, List.not_mem_nil, or_false, not_false_eq_true, List.nodup_nil, and_true]
    exact kd_ne o
theorem kd_gd {k : Str} {d : Nat} (o : KdOk k d) : gdV ([k, procS d], [procS d, k]) = true := by
  obtain ⟨p1, p2⟩ := kd_part o
  show ([k, procS d].all gB && decide (2 ≤ 8)) = true
  simp [part_g p1, part_g p2]
/-- one part that is none -/
theorem odd_vw {s : Str} (hn : NoPl s) (hg : gB s = false) : VW [s] [s] ∧ gdV ([s], [s]) = false :=
  ⟨⟨by simp, by simp, fun p hp => by rw [List.mem_singleton.mp hp]; exact hn, rfl, by simp, fun j => Iff.rfl⟩, by show ([s].all gB && _) = false; simp [hg]⟩
theorem odd3 {k : Str} {d : Nat} (o : KdOk k d) : VW [k, procS d, ""] ["", procS d, k] ∧ gdV ([k, procS d, ""], ["", procS d, k]) = false := by
  obtain ⟨p1, p2⟩ := kd_part o
  have ge : gB "" = false := by decide +kernel
  have k0 : k ≠ "" := fun e => by
    obtain ⟨c, t, ec, _⟩ := kd_cons o
    rw [e] at ec
    cases ec
  have p0 : procS d ≠ "" := fun e => by
    have := procS_eq d o.d
    rw [e] at this
    exact absurd (congrArg (fun s : Str => s.cps.toList) this) (by simp; exact fun z => by cases z)
  refine ⟨⟨by simp, by simp, fun p hp => ?_, ?_, ?_, fun j => ?_⟩, ?_⟩
  · simp only [List.mem_cons, List.not_mem_nil, or_false] at hp
    rcases hp with rfl | rfl | rfl
    · exact cand_np (.inl p1)
    · exact cand_np (.inl p2)
    · exact ⟨by decide +kernel, by decide +kernel⟩
  · show (!ltCps (procS d).cps.toList ("" : Str).cps.toList && (!ltCps k.cps.toList (procS d).cps.toList && true)) = true
    rw [kd_lt o, procS_eq d o.d]; rfl
  · simp only [List.nodup_cons, List.mem_cons, List.not_mem_nil, or_false, not_false_eq_true, List.nodup_nil, and_true, not_or]
    exact ⟨⟨p0.symm, k0.symm⟩, kd_ne o⟩
  · simp only [List.mem_cons, List.not_mem_nil, or_false]
    constructor
    · rintro (h | h | h)
      · exact .inr (.inr h)
      · exact .inr (.inl h)
      · exact .inl h
    · rintro (h | h | h)
      · exact .inr (.inr h)
      · exact .inr (.inl h)
      · exact .inl h
  · show ([k, procS d, ""].all gB && _) = false
    simp [ge]
theorem view_two (a b : Str) : viewT [a, b] = a ++ "+" ++ b := by
  unfold viewT
  rw [TL.join_eq]
  rfl
theorem view_plus (a b : Str) : viewT [a, b] ++ "+" = viewT [a, b, ""] := by
  unfold viewT
  rw [TL.join_eq, TL.join_eq]
  show (a ++ "+" ++ b) ++ "+" = a ++ "+" ++ (b ++ "+" ++ "")
  have e0 : ("" : Str) = Str.empty := rfl
  rw [e0, PySem.Str.append_empty, PySem.Str.append_assoc, PySem.Str.append_assoc]
  try rw [PySem.Str.append_assoc]
theorem bad_is {k : Str} {d : Nat} (o : KdOk k d) {v : Val} (hv : v ∈ ([.str "", .str "@", .str "Q", .str (viewT [k, procS d] ++ "+"), .str "@12"] : List Val)) : ∃ bw bd, v = .str (viewT bw) ∧ VW bw bd ∧ gdV (bw, bd) = false := by
  have one : ∀ s : Str, NoPl s → gB s = false → ∃ bw bd, Val.str s = .str (viewT bw) ∧ VW bw bd ∧ gdV (bw, bd) = false := fun s a b => ⟨[s], [s], by rw [view_one], odd_vw a b⟩
  simp only [List.mem_cons, List.not_mem_nil, or_false] at hv
  rcases hv with rfl | rfl | rfl | rfl | rfl
  · exact one "" ⟨by decide +kernel, by decide +kernel⟩ (by decide +kernel)
  · exact one "@" ⟨by decide +kernel, by decide +kernel⟩ (by decide +kernel)
  · exact one "Q" ⟨by decide +kernel, by decide +kernel⟩ (by decide +kernel)
  · exact ⟨_, _, by rw [view_plus], odd3 o⟩
  · exact one "@12" ⟨by decide +kernel, by decide +kernel⟩ (by decide +kernel)
end Sx

end
section
set_option Elab.async false
set_option linter.all false
set_option maxRecDepth 100000
set_option maxHeartbeats 2000000
/-! RC8: k14's law -/
namespace Sx
open PySem PySem.Spec PyProof.Rows L2 Cl RZ
abbrev lkE (v2 v3 v4 v5 v6 v7 v8 v9 v10 v11 v12 v13 v14 v15 v16 v17 : Option Val) : Me := [none, some .src, v2, v3, v4, v5, v6, v7, v8, v9, v10, v11, v12, v13, v14, v15, v16, v17]
abbrev ivT : Val := .str "InvalidView"
section
variable {h : Mh} {q : VQ} {x : XQ} {md : MD} {a b A B : List Nat} {k0 k1 : Str} {d0 d1 : Nat} {base : Val} {v2 v3 v4 v5 v6 v7 v8 v9 v10 v11 v12 v13 v14 v15 v16 v17 : Option Val}
abbrev vwsV (k0 k1 : Str) (d0 d1 : Nat) : Val := .lst [.str (viewT [k0, procS d0]), .str (viewT [k1, procS d1])]
theorem out_iv {m : ME} {env : Me} (hm : ∀ (q : VQ) (x : XQ), x noView h → m env h q x) (k : q (.tup [ivT, .non]) h) : eOutc XCS m env h q x := hm _ _ ⟨"InvalidView", .non, by simp, rfl, rfl, k⟩
theorem e_iv {m : ME} {env : Me} (hm : ∀ (q : VQ) (x : XQ), x noView h → m env h q x) (k : q ivT h) : eOp oIx (eOutc XCS m) (eC (.int 0)) env h q x := out_iv hm ⟨_, _, rfl, rfl, k⟩
theorem s_lst2 {m1 m2 : ME} {t : MS} {i : Nat} {env : Me} (k : m1 env h (fun v1 h1 => m2 env h1 (fun v2 h2 => [v1, v2].length ≤ 100000 ∧ t (env.set i (some (.ref h2.length))) (h2 ++ [.lst [v1, v2]]) md) (fun e h' => md.xc e env h')) (fun e h' => md.xc e env h')) :
    sSeq (sAsg (eLstC (aCons m1 (aCons m2 aNil))) (mName i)) t env h md := k
theorem s_app {m : ME} {t : MS} {i n : Nat} {env : Me} (e : env[i]? = some (some (.ref n))) (e1 : ∃ xs, h[n]? = some (.lst xs)) (k : m env h (fun y h2 => ∃ xs, h2[n]? = some (.lst xs) ∧ xs.length < 90000 ∧ t env (h2.set n (.lst (xs ++ [y]))) md) (fun e h' => md.xc e env h')) :
    sSeq (sDrop (eApp (eVar i) m)) t env h md := by
  unfold sSeq sDrop eApp eVar
  dsimp only
  rw [e]
  exact ⟨e1, k⟩
theorem law_2 {n : Nat} (e : h[n]? = some (.lst [ivT, ivT, ivT])) (k : md.nx (lkE v2 v3 v4 v5 v6 v7 v8 v9 v10 v11 v12 v13 v14 v15 v16 (some (.ref n))) h) : b_law_2 (lkE v2 v3 v4 v5 v6 v7 v8 v9 v10 v11 v12 v13 v14 v15 v16 (some (.ref n))) h md := by
  refine ⟨by simp, [ivT], rfl, by decide, by decide, by decide, ?_⟩
  exact ne_pl (n := 2) (z := .lst [ivT, ivT, ivT]) (val_ref e) rfl (by kernel_rfl) (by decide) k
/-- the three calls with a view that is none -/
theorem law_4 {bw bd : List Str} (o0 : KdOk k0 d0) (o1 : KdOk k1 d1) (w : VW bw bd) (g : gdV (bw, bd) = false) (k : ∀ h' v17, md.nx (lkE v2 v3 v4 v5 v6 v7 (some base) (some (vwsV k0 k1 d0 d1)) v10 v11 v12 v13 v14 v15 (some (.str (viewT bw))) v17) h') :
    b_law_4 (lkE v2 v3 v4 v5 v6 v7 (some base) (some (vwsV k0 k1 d0 d1)) v10 v11 v12 v13 v14 v15 (some (.str (viewT bw))) v17) h md := by
  have t2 : ∀ (h' : Mh) (n : Nat), h'[n]? = some (.lst [ivT, ivT, ivT]) → b_law_2 (lkE v2 v3 v4 v5 v6 v7 (some base) (some (vwsV k0 k1 d0 d1)) v10 v11 v12 v13 v14 v15 (some (.str (viewT bw))) (some (.ref n))) h' md := fun h' n e => law_2 e (k h' _)
  unfold b_law_4 b_law_3
  generalize b_law_2 = T2 at t2 ⊢
  have pk : ∀ (q : VQ) (x : XQ), x noView h → f_knows [.str (viewT bw), base] h q x := fun q x k => p_knows w (fun z => by rw [g] at z; cases z) fun _ => k
  have pe : ∀ (q : VQ) (x : XQ), x noView h → f_everyone [base, .str (viewT [k0, procS d0]), .str (viewT bw)] h q x := fun q x k => p_everyone (L := [([k0, procS d0], [procS d0, k0]), (bw, bd)]) (by simp) (fun p hp => by
    simp only [List.mem_cons, List.not_mem_nil, or_false] at hp
    rcases hp with rfl | rfl
    · exact kd_vw o0
    · exact w) (fun z => by have := z (bw, bd) (by simp); rw [g] at this; cases this) fun _ => k
  have pc : ∀ (h : Mh) (q : VQ) (x : XQ), x noView h → f_common [base, .str (viewT bw), .str (viewT [k1, procS d1])] h q x := fun h q x k => p_common (L := [(bw, bd), ([k1, procS d1], [procS d1, k1])]) (by simp) (fun p hp => by
    simp only [List.mem_cons, List.not_mem_nil, or_false] at hp
    rcases hp with rfl | rfl
    · exact w
    · exact kd_vw o1) (fun z => by have := z (bw, bd) (by simp); rw [g] at this; cases this) fun _ => k
  generalize f_knows = F1 at pk ⊢
  generalize f_everyone = F2 at pe ⊢
  generalize f_common = F3 at pc ⊢
  refine s_lst2 (e_iv (fun q x kk => pk q x kk) (e_iv (fun q x kk => ⟨_, _, rfl, rfl, pe q x kk⟩) ⟨by simp, ?_⟩))
  have e1 : (h ++ [Cell.lst [ivT, ivT]])[h.length]? = some (.lst [ivT, ivT]) := get_mid
  generalize h ++ [Cell.lst [ivT, ivT]] = h1 at e1 ⊢
  generalize h.length = n at e1 ⊢
  refine s_app (n := n) rfl ⟨_, e1⟩ (e_iv (fun q x kk => ⟨_, _, rfl, rfl, pc _ q x kk⟩) ⟨_, e1, by simp, ?_⟩)
  exact t2 _ n (by rw [List.getElem?_set_self (List.getElem?_eq_some_iff.mp e1).1]; rfl)
end
end Sx

end
section
set_option Elab.async false
set_option linter.all false
set_option maxRecDepth 100000
set_option maxHeartbeats 2000000
/-! RC9: k14's law, the end -/
namespace Sx
open PySem PySem.Spec PyProof.Rows L2 Cl RZ
abbrev NxK (md : MD) : Prop := ∀ (h' : Mh) (v2 v3 v4 v5 v6 v7 v8 v9 v10 v11 v12 v13 v14 v15 v16 v17 : Option Val), md.nx (lkE v2 v3 v4 v5 v6 v7 v8 v9 v10 v11 v12 v13 v14 v15 v16 v17) h'
theorem du_ex (ns : List Nat) (h1 : ∀ n ∈ ns, n < 9) (h2 : ns.length ≤ 4) : ∃ D, Du ns D := by
  refine ⟨(List.range 9).filter fun j => decide (j ∈ ns), ⟨List.Pairwise.filter _ (List.pairwise_lt_range), fun j => ?_, h1, h2⟩⟩
  simp only [List.mem_filter, List.mem_range, decide_eq_true_eq]
  exact ⟨fun h => h.2, fun h => ⟨h1 j h, h⟩⟩
theorem du_len {ns D : List Nat} (d : Du ns D) : D.length ≤ 9 := by
  have := sorted_len (o := D) (a := 0) (n := 9) d.pw fun k hk => ⟨by omega, d.sm k ((d.mem k).mp hk)⟩
  omega
theorem pl_nIt (n : Nat) {D : List Nat} (h : D.length ≤ 9) : Pl (n + 2) (.tup (nI D)) := .tup (pl_nI n D) (by rw [List.length_map]; omega)
theorem pl_cl {A B : List Nat} (n : Nat) (h1 : A.length ≤ 9) (h2 : B.length ≤ 9) : Pl (n + 3) (clV A B) := .tup (fun y hy => by
  simp only [List.mem_cons, List.not_mem_nil, or_false] at hy
  rcases hy with rfl | rfl | rfl
  · exact .str _
  · exact pl_nIt n h1
  · exact pl_nIt n h2) (by simp)
theorem pl_wh {A B : List Nat} {v : Val} (n : Nat) (h1 : A.length ≤ 9) (h2 : B.length ≤ 9) (hv : Pl (n + 3) v) : Pl (n + 4) (whV A B v) := .tup (fun y hy => by
  simp only [List.mem_cons, List.not_mem_nil, or_false] at hy
  rcases hy with rfl | rfl | rfl | rfl
  · exact .str _
  · exact pl_nIt (n + 1) h1
  · exact pl_nIt (n + 1) h2
  · exact hv) (by simp)
theorem pl_1 {s : Str} {v : Val} (n : Nat) (hv : Pl (n + 1) v) : Pl (n + 2) (.tup [.str s, v]) := .tup (fun y hy => by
  simp only [List.mem_cons, List.not_mem_nil, or_false] at hy
  rcases hy with rfl | rfl
  · exact .str _
  · exact hv) (by simp)
theorem pl_2 {s : Str} {u v : Val} (n : Nat) (hu : Pl (n + 1) u) (hv : Pl (n + 1) v) : Pl (n + 2) (.tup [.str s, u, v]) := .tup (fun y hy => by
  simp only [List.mem_cons, List.not_mem_nil, or_false] at hy
  rcases hy with rfl | rfl | rfl
  · exact .str _
  · exact hu
  · exact hv) (by simp)
theorem pl_t1 {s : Str} (n : Nat) : Pl (n + 2) (.tup [.str s]) := .tup (fun y hy => by
  simp only [List.mem_cons, List.not_mem_nil, or_false] at hy
  subst hy; exact .str _) (by simp)
theorem pl_t2 {s t : Str} (n : Nat) : Pl (n + 2) (.tup [.str s, .str t]) := pl_1 n (.str _)
section
variable {h : Mh} {q : VQ} {x : XQ} {md : MD} {a b A B : List Nat} {k0 k1 : Str} {d0 d1 : Nat} {v2 v3 v4 v5 v6 v7 v8 v9 v10 v11 v12 v13 v14 v15 v16 v17 : Option Val}
theorem law_5 {base : Val} (o0 : KdOk k0 d0) (o1 : KdOk k1 d1) (k : NxK md) :
    b_law_5 (lkE v2 v3 v4 v5 v6 v7 (some base) (some (vwsV k0 k1 d0 d1)) v10 v11 v12 v13 v14 v15 v16 v17) h md := by
  have t4 : ∀ bw bd, VW bw bd → gdV (bw, bd) = false → b_law_4 (lkE v2 v3 v4 v5 v6 v7 (some base) (some (vwsV k0 k1 d0 d1)) v10 v11 v12 v13 v14 v15 (some (.str (viewT bw))) v17) h md := fun bw bd w g => law_4 o0 o1 w g fun h' v17 => k ..
  unfold b_law_5
  generalize b_law_4 = T4 at t4 ⊢
  have hl := cand_view_len (kd_vw o0).hl (kd_vw o0).hws
  have e1 : ("+" : Str).length = 1 := by decide +kernel
  refine ⟨_, _, rfl, rfl, by rw [e1]; omega, by simp, p_choice (by simp) (by simp) fun v hv => ?_⟩
  obtain ⟨bw, bd, rfl, w, g⟩ := bad_is o0 hv
  exact t4 bw bd w g
theorem e_varZ {i : Nat} {env : Me} {v : Val} (e : env[i]? = some (some v)) (k : q v h) : eVar i env h q x := by
  unfold eVar
  rw [e]; exact k
theorem plB_nI (n : Nat) (ns : List Nat) : (nI ns).all (plB (n + 1)) = true := by
  rw [List.all_map]; exact List.all_eq_true.mpr fun _ _ => rfl
theorem law_7 {base : Val} {L : List Val} {n : Nat} (o0 : KdOk k0 d0) (o1 : KdOk k1 d1) (hn : h[n]? = some (.lst L)) (hp : ∀ y ∈ L, Pl 5 y) (hl : L.length ≤ 100) (k : NxK md) :
    b_law_7 (lkE v2 (some (.lst (nI a))) v4 (some (.lst (nI b))) (some (.lst [.lst (nI a), .lst (nI b)])) v7 (some base) (some (vwsV k0 k1 d0 d1)) v10 v11 v12 (some (.ref n)) v14 (some (.lst L)) v16 v17) h md := by
  have t5 : b_law_5 (lkE v2 (some (.lst (nI a))) v4 (some (.lst (nI b))) (some (.lst [.lst (nI a), .lst (nI b)])) v7 (some base) (some (vwsV k0 k1 d0 d1)) v10 v11 v12 (some (.ref n)) v14 (some (.lst L)) v16 v17) h md := law_5 o0 o1 k
  unfold b_law_7
  generalize b_law_5 = T5 at t5 ⊢
  refine p_sameS (Sm.self (lst_ref hn) rfl (ty_ref hn) rfl (by omega) hp) ?_
  refine if_b (fun z => by cases z) fun _ => ⟨by simp, ?_⟩
  refine e_varZ (i := 6) rfl ?_
  refine ne_pl (n := 3) (v := .lst [.lst (nI a), .lst (nI b)]) (u := .lst [.lst (nI a), .lst (nI b)]) (z := .lst [.lst (nI a), .lst (nI b)]) rfl rfl ?_ (by decide) ?_
  · show (((nI a).all (plB 1)) && (((nI b).all (plB 1)) && true)) = true
    rw [plB_nI, plB_nI]; rfl
  · exact t5
end
section
variable {h : Mh} {q : VQ} {x : XQ} {md : MD} {a b A B : List Nat} {k0 k1 nm : Str} {d0 d1 : Nat} {v2 v4 v11 v16 v17 : Option Val}
abbrev t0V (k : Str) (d : Nat) : Val := .str (viewT [procS d, k])
abbrev sayL1 (A B : List Nat) (nm : Str) : List Val := [clV A B, clV [] [], clV A [], clV [] B, .tup [.str "all"]] ++ [.tup [.str "all", clV A B, clV A B, .tup [.str "named", .str nm]], whV [] [] (clV A B), whV A B (clV A B)]
abbrev sayL2 (A B : List Nat) (s t nm : Str) : List Val := [.tup [.str "knows", .str s, clV A B], .tup [.str "everyone", .tup [.str s], clV A B]] ++ [.tup [.str "everyone", .tup [.str t, .str s], clV A B], .tup [.str "common", .tup [.str s, .str t], clV A B]]
abbrev sayL3 (A B : List Nat) (nm : Str) : List Val := [.tup [.str "always", clV A B], .tup [.str "sofar", clV A B], .tup [.str "sure", clV A B], .tup [.str "named", .str nm], whV A B (clV A B)]
abbrev sayL (A B : List Nat) (s t nm : Str) : List Val := sayL1 A B nm ++ sayL2 A B s t nm ++ sayL3 A B nm
theorem sayL_pl {s t : Str} (h1 : A.length ≤ 9) (h2 : B.length ≤ 9) : ∀ y ∈ sayL A B s t nm, Pl 5 y := fun y hy => by
  have c : ∀ n, Pl (n + 3) (clV A B) := fun n => pl_cl n h1 h2
  have z9 : ([] : List Nat).length ≤ 9 := by simp
  simp only [sayL, sayL1, sayL2, sayL3, List.cons_append, List.nil_append, List.mem_cons, List.not_mem_nil, or_false] at hy
  rcases hy with rfl | rfl | rfl | rfl | rfl | rfl | rfl | rfl | rfl | rfl | rfl | rfl | rfl | rfl | rfl | rfl | rfl
  · exact c 2
  · exact pl_cl 2 z9 z9
  · exact pl_cl 2 h1 z9
  · exact pl_cl 2 z9 h2
  · exact pl_t1 3
  · exact .tup (fun y hy => by
      simp only [List.mem_cons, List.not_mem_nil, or_false] at hy
      rcases hy with rfl | rfl | rfl | rfl
      · exact .str _
      · exact c 1
      · exact c 1
      · exact pl_t2 2) (by simp)
  · exact pl_wh 1 z9 z9 (c 1)
  · exact pl_wh 1 h1 h2 (c 1)
  · exact pl_2 3 (.str _) (c 1)
  · exact pl_2 3 (.tup (fun y hy => by rw [List.mem_singleton.mp hy]; exact .str _) (by simp)) (c 1)
  · exact pl_2 3 (pl_t2 2) (c 1)
  · exact pl_2 3 (pl_t2 2) (c 1)
  · exact pl_1 3 (c 1)
  · exact pl_1 3 (c 1)
  · exact pl_1 3 (c 1)
  · exact pl_t2 3
  · exact pl_wh 1 h1 h2 (c 1)
abbrev LkB (v2 : Option Val) (a : List Nat) (v4 : Option Val) (b A B : List Nat) (k0 k1 : Str) (d0 d1 : Nat) (v11 : Option Val) (nm : Str) (v13 v14 v15 v16 v17 : Option Val) : Me :=
  lkE v2 (some (.lst (nI a))) v4 (some (.lst (nI b))) (some (.lst [.lst (nI a), .lst (nI b)])) (some (.tup [.tup (nI A), .tup (nI B)])) (some (clV A B)) (some (vwsV k0 k1 d0 d1)) (some (.tup [t0V k0 d0, t0V k1 d1])) v11 (some (.str nm)) v13 v14 v15 v16 v17
theorem law_8 {n : Nat} (o0 : KdOk k0 d0) (o1 : KdOk k1 d1) (h1 : A.length ≤ 9) (h2 : B.length ≤ 9) (hn : h[n]? = some (.lst (sayL A B (viewT [procS d0, k0]) (viewT [procS d1, k1]) nm))) (k : NxK md) :
    b_law_8 (LkB v2 a v4 b A B k0 k1 d0 d1 v11 nm (some (.ref n)) (some (clV A B)) (some (.lst (sayL1 A B nm ++ sayL2 A B (viewT [procS d0, k0]) (viewT [procS d1, k1]) nm))) v16 v17) h md := by
  have t7 : b_law_7 (LkB v2 a v4 b A B k0 k1 d0 d1 v11 nm (some (.ref n)) (some (clV A B)) (some (.lst (sayL A B (viewT [procS d0, k0]) (viewT [procS d1, k1]) nm))) v16 v17) h md := law_7 o0 o1 hn (sayL_pl h1 h2) (by simp) k
  unfold b_law_8
  generalize b_law_7 = T7 at t7 ⊢
  exact ⟨by simp, by simp, by simp, by simp, _, _, rfl, rfl, _, _, rfl, rfl, by simp, by simp, _, _, rfl, rfl, by simp, t7⟩
theorem law_10 {n : Nat} (o0 : KdOk k0 d0) (o1 : KdOk k1 d1) (h1 : A.length ≤ 9) (h2 : B.length ≤ 9) (hn : h[n]? = some (.lst (sayL A B (viewT [procS d0, k0]) (viewT [procS d1, k1]) nm))) (k : NxK md) :
    b_law_10 (LkB v2 a v4 b A B k0 k1 d0 d1 v11 nm (some (.ref n)) (some (clV A B)) (some (.lst (sayL1 A B nm))) v16 v17) h md := by
  have t8 : b_law_8 (LkB v2 a v4 b A B k0 k1 d0 d1 v11 nm (some (.ref n)) (some (clV A B)) (some (.lst (sayL1 A B nm ++ sayL2 A B (viewT [procS d0, k0]) (viewT [procS d1, k1]) nm))) v16 v17) h md := law_8 o0 o1 h1 h2 hn k
  unfold b_law_10 b_law_9
  generalize b_law_8 = T8 at t8 ⊢
  refine ⟨_, _, rfl, rfl, by simp, ?_⟩
  refine ⟨by simp, by simp, _, _, rfl, rfl, by simp, ?_⟩
  exact ⟨_, _, rfl, rfl, _, _, rfl, rfl, by simp, by simp, by simp, by simp, _, _, rfl, rfl, by simp, t8⟩
theorem law_13 {n : Nat} (o0 : KdOk k0 d0) (o1 : KdOk k1 d1) (h1 : A.length ≤ 9) (h2 : B.length ≤ 9) (hn : h[n]? = some (.lst (sayL A B (viewT [procS d0, k0]) (viewT [procS d1, k1]) nm))) {v14 v15 : Option Val} (k : NxK md) :
    b_law_13 (LkB v2 a v4 b A B k0 k1 d0 d1 v11 nm (some (.ref n)) v14 v15 v16 v17) h md := by
  have t10 : b_law_10 (LkB v2 a v4 b A B k0 k1 d0 d1 v11 nm (some (.ref n)) (some (clV A B)) (some (.lst (sayL1 A B nm))) v16 v17) h md := law_10 o0 o1 h1 h2 hn k
  unfold b_law_13 b_law_12 b_law_11
  generalize b_law_10 = T10 at t10 ⊢
  refine ⟨_, _, rfl, rfl, _, _, rfl, rfl, by simp, ?_⟩
  refine ⟨by simp, by simp, by simp, _, _, rfl, rfl, by simp, by simp, by simp, _, _, rfl, rfl, by simp, by simp, by simp, ?_⟩
  exact ⟨by simp, by simp, by simp, by simp, by simp, _, _, rfl, rfl, _, _, rfl, rfl, by simp, by simp, _, _, rfl, rfl, by simp, t10⟩
end
end Sx

end
section
set_option Elab.async false
set_option linter.all false
set_option maxRecDepth 100000
set_option maxHeartbeats 2000000
/-! RCA: k14's law, the calls -/
namespace Sx
open PySem PySem.Spec PyProof.Rows L2 Cl RZ
section
variable {h : Mh} {q : VQ} {x : XQ} {md : MD} {a b A B : List Nat} {k0 k1 nm : Str} {d0 d1 : Nat} {v2 v4 v11 v13 v14 v15 v16 v17 : Option Val}
theorem e_callv {f : MF} {a : MA} {env : Me} (k : a env h (fun vs h1 => f vs h1 q x) x) : eCall f a env h q x := k
theorem law_14 {n : Nat} {L : List Val} (o0 : KdOk k0 d0) (o1 : KdOk k1 d1) (dA : Du a A) (dB : Du b B) (hn : h[n]? = some (.lst L)) (hl : L.length ≤ 50) (hL : L ++ [whV A B (clV A B)] = sayL A B (viewT [procS d0, k0]) (viewT [procS d1, k1]) nm) (k : NxK md) :
    b_law_14 (LkB v2 a v4 b A B k0 k1 d0 d1 v11 nm (some (.ref n)) v14 v15 v16 v17) h md := by
  have t13 : ∀ h' : Mh, h'[n]? = some (.lst (L ++ [whV A B (clV A B)])) → b_law_13 (LkB v2 a v4 b A B k0 k1 d0 d1 v11 nm (some (.ref n)) v14 v15 v16 v17) h' md := fun h' e => law_13 o0 o1 (du_len dA) (du_len dB) (by rw [← hL]; exact e) k
  unfold b_law_14
  generalize b_law_13 = T13 at t13 ⊢
  have pw : ∀ (q : VQ) (x : XQ), q (whV A B (clV A B)) h → f_when_klacking_had [clV A B, .tup (nI b), .tup (nI a)] h q x := fun q x k => p_whenk dA dB rfl rfl k
  generalize f_when_klacking_had = F at pw ⊢
  refine ⟨⟨_, hn⟩, _, rfl, _, rfl, pw _ _ ⟨_, hn, by omega, t13 _ ?_⟩⟩
  rw [List.getElem?_set_self (List.getElem?_eq_some_iff.mp hn).1]
theorem law_15 {n : Nat} {L : List Val} (o0 : KdOk k0 d0) (o1 : KdOk k1 d1) (dA : Du a A) (dB : Du b B) (hn : h[n]? = some (.lst L)) (hl : L.length ≤ 40) (hL : L = sayL1 A B nm ++ sayL2 A B (viewT [procS d0, k0]) (viewT [procS d1, k1]) nm) (k : NxK md) :
    b_law_15 (LkB v2 a v4 b A B k0 k1 d0 d1 v11 nm (some (.ref n)) v14 v15 v16 v17) h md := by
  have t14 : b_law_14 (LkB v2 a v4 b A B k0 k1 d0 d1 v11 nm (some (.ref h.length)) v14 v15 v16 v17) (h ++ [.lst (L ++ [.tup [.str "always", clV A B], .tup [.str "sofar", clV A B], .tup [.str "sure", clV A B], .tup [.str "named", .str nm]])]) md := law_14 o0 o1 dA dB get_mid (by simp; omega) (by subst hL; simp [sayL, sayL3]) k
  unfold b_law_15
  generalize b_law_14 = T14 at t14 ⊢
  have p1 : ∀ (q : VQ) (x : XQ), q (.tup [.str "always", clV A B]) h → f_always [clV A B] h q x := fun q x k => p_always k
  have p2 : ∀ (q : VQ) (x : XQ), q (.tup [.str "sofar", clV A B]) h → f_sofar [clV A B] h q x := fun q x k => p_sofar k
  have p3 : ∀ (q : VQ) (x : XQ), q (.tup [.str "sure", clV A B]) h → f_sure [clV A B] h q x := fun q x k => p_sure k
  have p4 : ∀ (q : VQ) (x : XQ), q (.tup [.str "named", .str nm]) h → f_named [.str nm] h q x := fun q x k => p_named k
  generalize f_always = F1 at p1 ⊢
  generalize f_sofar = F2 at p2 ⊢
  generalize f_sure = F3 at p3 ⊢
  generalize f_named = F4 at p4 ⊢
  exact p1 _ _ (p2 _ _ (p3 _ _ (p4 _ _ ⟨by simp, _, _, lst_ref hn, rfl, by simp; omega, t14⟩)))
theorem law_16 {n : Nat} {L : List Val} (o0 : KdOk k0 d0) (o1 : KdOk k1 d1) (dA : Du a A) (dB : Du b B) (hn : h[n]? = some (.lst L)) (hl : L.length ≤ 30) (hL : L = sayL1 A B nm ++ [.tup [.str "knows", t0V k0 d0, clV A B]]) (k : NxK md) :
    b_law_16 (LkB v2 a v4 b A B k0 k1 d0 d1 v11 nm (some (.ref n)) v14 v15 v16 v17) h md := by
  have t15 : b_law_15 (LkB v2 a v4 b A B k0 k1 d0 d1 v11 nm (some (.ref h.length)) v14 v15 v16 v17) (h ++ [.lst (L ++ [.tup [.str "everyone", .tup [t0V k0 d0], clV A B], .tup [.str "everyone", .tup [t0V k1 d1, t0V k0 d0], clV A B], .tup [.str "common", .tup [t0V k0 d0, t0V k1 d1], clV A B]])]) md := law_15 o0 o1 dA dB get_mid (by simp; omega) (by subst hL; simp [sayL2]) k
  unfold b_law_16
  generalize b_law_15 = T15 at t15 ⊢
  have pe : ∀ (q : VQ) (x : XQ), q (.tup [.str "everyone", .tup [t0V k0 d0], clV A B]) h → f_everyone [clV A B, .str (viewT [k0, procS d0])] h q x := fun q x k => p_everyone (L := [([k0, procS d0], [procS d0, k0])]) (by simp) (fun p hp => by rw [List.mem_singleton.mp hp]; exact kd_vw o0) (fun _ => k) fun ⟨p, hp, g⟩ => by
    rw [List.mem_singleton.mp hp, kd_gd o0] at g; cases g
  have pe2 : ∀ (q : VQ) (x : XQ), q (.tup [.str "everyone", .tup [t0V k1 d1, t0V k0 d0], clV A B]) h → f_everyone [clV A B, .str (viewT [k1, procS d1]), .str (viewT [k0, procS d0])] h q x := fun q x k => p_everyone (L := [([k1, procS d1], [procS d1, k1]), ([k0, procS d0], [procS d0, k0])]) (by simp) (fun p hp => by
      simp only [List.mem_cons, List.not_mem_nil, or_false] at hp
      rcases hp with rfl | rfl
      · exact kd_vw o1
      · exact kd_vw o0) (fun _ => k) fun ⟨p, hp, g⟩ => by
      simp only [List.mem_cons, List.not_mem_nil, or_false] at hp
      rcases hp with rfl | rfl
      · rw [kd_gd o1] at g; cases g
      · rw [kd_gd o0] at g; cases g
  have pc : ∀ (q : VQ) (x : XQ), q (.tup [.str "common", .tup [t0V k0 d0, t0V k1 d1], clV A B]) h → f_common [clV A B, .str (viewT [k0, procS d0]), .str (viewT [k1, procS d1])] h q x := fun q x k => p_common (L := [([k0, procS d0], [procS d0, k0]), ([k1, procS d1], [procS d1, k1])]) (by simp) (fun p hp => by
      simp only [List.mem_cons, List.not_mem_nil, or_false] at hp
      rcases hp with rfl | rfl
      · exact kd_vw o0
      · exact kd_vw o1) (fun _ => k) fun ⟨p, hp, g⟩ => by
      simp only [List.mem_cons, List.not_mem_nil, or_false] at hp
      rcases hp with rfl | rfl
      · rw [kd_gd o0] at g; cases g
      · rw [kd_gd o1] at g; cases g
  generalize f_everyone = F1 at pe pe2 ⊢
  generalize f_common = F2 at pc ⊢
  exact ⟨_, _, rfl, rfl, pe _ _ ⟨_, _, rfl, rfl, _, _, rfl, rfl, pe2 _ _ ⟨_, _, rfl, rfl, _, _, rfl, rfl, pc _ _ ⟨by simp, _, _, lst_ref hn, rfl, by simp; omega, t15⟩⟩⟩⟩
theorem law_17 {n : Nat} {L : List Val} (o0 : KdOk k0 d0) (o1 : KdOk k1 d1) (dA : Du a A) (dB : Du b B) (hn : h[n]? = some (.lst L)) (hl : L.length ≤ 20) (hL : L = [clV A B, clV [] [], clV A [], clV [] B, .tup [.str "all"], .tup [.str "all", clV A B, clV A B, .tup [.str "named", .str nm]]]) (k : NxK md) :
    b_law_17 (LkB v2 a v4 b A B k0 k1 d0 d1 v11 nm (some (.ref n)) v14 v15 v16 v17) h md := by
  have t16 : b_law_16 (LkB v2 a v4 b A B k0 k1 d0 d1 v11 nm (some (.ref h.length)) v14 v15 v16 v17) (h ++ [.lst (L ++ [whV [] [] (clV A B), whV A B (clV A B), .tup [.str "knows", t0V k0 d0, clV A B]])]) md := law_16 o0 o1 dA dB get_mid (by simp; omega) (by subst hL; simp [sayL1]) k
  unfold b_law_17
  generalize b_law_16 = T16 at t16 ⊢
  have p1 : ∀ (q : VQ) (x : XQ), q (whV [] [] (clV A B)) h → f_when_d1 [clV A B] h q x := fun q x k => p_when1 k
  have p2 : ∀ (q : VQ) (x : XQ), q (whV A B (clV A B)) h → f_when_klacking_had [clV A B, .lst (nI b), .lst (nI a)] h q x := fun q x k => p_whenk dA dB rfl rfl k
  have p3 : ∀ (q : VQ) (x : XQ), q (.tup [.str "knows", t0V k0 d0, clV A B]) h → f_knows [.str (viewT [k0, procS d0]), clV A B] h q x := fun q x k => p_knows (kd_vw o0) (fun _ => k) fun g => by rw [kd_gd o0] at g; cases g
  generalize f_when_d1 = F1 at p1 ⊢
  generalize f_when_klacking_had = F2 at p2 ⊢
  generalize f_knows = F3 at p3 ⊢
  exact p1 _ _ (p2 _ _ ⟨_, _, rfl, rfl, p3 _ _ ⟨by simp, _, _, lst_ref hn, rfl, by simp; omega, t16⟩⟩)
theorem law_18 (o0 : KdOk k0 d0) (o1 : KdOk k1 d1) (dA : Du a A) (dB : Du b B) (k : NxK md) : b_law_18 (LkB v2 a v4 b A B k0 k1 d0 d1 v11 nm v13 v14 v15 v16 v17) h md := by
  have t17 : b_law_17 (LkB v2 a v4 b A B k0 k1 d0 d1 v11 nm (some (.ref h.length)) v14 v15 v16 v17) (h ++ [.lst [clV A B, clV [] [], clV A [], clV [] B, .tup [.str "all"], .tup [.str "all", clV A B, clV A B, .tup [.str "named", .str nm]]]]) md := law_17 o0 o1 dA dB get_mid (by simp) rfl k
  unfold b_law_18
  generalize b_law_17 = T17 at t17 ⊢
  have p0 : ∀ (q : VQ) (x : XQ), q (clV [] []) h → f_claim_d0 [] h q x := fun q x k => p_claim0 k
  have p1 : ∀ (q : VQ) (x : XQ), q (clV A []) h → f_claim_d1 [.lst (nI a)] h q x := fun q x k => p_claim1 dA rfl k
  have p2 : ∀ (q : VQ) (x : XQ), q (clV [] B) h → f_claim_kd0lacking [.lst (nI b)] h q x := fun q x k => p_claimk dB rfl k
  have p3 : ∀ (vs : List Val) (q : VQ) (x : XQ), vs.length ≤ 1000 → q (.tup (.str "all" :: vs)) h → f_all_of vs h q x := fun vs q x hl k => p_allof hl k
  have p4 : ∀ (q : VQ) (x : XQ), q (.tup [.str "named", .str nm]) h → f_named [.str nm] h q x := fun q x k => p_named k
  generalize f_claim_d0 = F0' at p0 ⊢
  generalize f_claim_d1 = F1 at p1 ⊢
  generalize f_claim_kd0lacking = F2 at p2 ⊢
  generalize f_all_of = F3 at p3 ⊢
  generalize f_named = F4 at p4 ⊢
  exact p0 _ _ (p1 _ _ (p2 _ _ (p3 _ _ _ (by simp) (p4 _ _ (p3 _ _ _ (by simp) ⟨by simp, t17⟩)))))
end
end Sx

end
section
set_option Elab.async false
set_option linter.all false
set_option maxRecDepth 100000
set_option maxHeartbeats 2000000
/-! RCB: k14's law, the whole -/
namespace Sx
open PySem PySem.Spec PyProof.Rows L2 Cl RZ
section
variable {h : Mh} {q : VQ} {x : XQ} {md : MD} {a b A B : List Nat} {k0 k1 nm : Str} {d0 d1 : Nat} {v2 v3 v4 v5 v6 v7 v8 v9 v10 v11 v12 v13 v14 v15 v16 v17 : Option Val}
theorem p_names1 (k : ∀ nm : Str, q (.lst [.str nm]) h) : f_law_names [.src, .int 1] h q x := by
  unfold f_law_names
  refine ⟨rfl, by decide, by decide, fun r r0 r1 => ?_⟩
  obtain ⟨r', rfl⟩ := Int.eq_ofNat_of_zero_le r0
  have ec : (1 : Int) + (r' : Int) = ((1 + r' : Nat) : Int) := by omega
  show f_law_words [.src, .int (1 : Nat), .int (1 + (r' : Int))] h q _
  rw [ec]
  refine p_words (by omega) (by omega) (by omega) fun ws h1 h2 => ?_
  match ws, h1 with
  | [nm], _ => exact k nm
theorem law_19 (o0 : KdOk k0 d0) (o1 : KdOk k1 d1) (dA : Du a A) (dB : Du b B) (k : NxK md) :
    b_law_19 (lkE v2 (some (.lst (nI a))) v4 (some (.lst (nI b))) (some (.lst [.lst (nI a), .lst (nI b)])) (some (.tup [.tup (nI A), .tup (nI B)])) (some (clV A B)) (some (vwsV k0 k1 d0 d1)) (some (.tup [t0V k0 d0, t0V k1 d1])) v11 v12 v13 v14 v15 v16 v17) h md := by
  have t18 : ∀ nm, b_law_18 (LkB v2 a v4 b A B k0 k1 d0 d1 v11 nm v13 v14 v15 v16 v17) h md := fun nm => law_18 o0 o1 dA dB k
  unfold b_law_19
  generalize b_law_18 = T18 at t18 ⊢
  exact p_names1 fun nm => ⟨_, _, rfl, rfl, t18 nm⟩
theorem law_20 (o0 : KdOk k0 d0) (o1 : KdOk k1 d1) (dA : Du a A) (dB : Du b B) (k : NxK md) :
    b_law_20 (lkE v2 (some (.lst (nI a))) v4 (some (.lst (nI b))) (some (.lst [.lst (nI a), .lst (nI b)])) (some (.tup [.tup (nI A), .tup (nI B)])) (some (clV A B)) (some (vwsV k0 k1 d0 d1)) v10 v11 v12 v13 v14 v15 v16 v17) h md := by
  have t19 : b_law_19 (lkE v2 (some (.lst (nI a))) v4 (some (.lst (nI b))) (some (.lst [.lst (nI a), .lst (nI b)])) (some (.tup [.tup (nI A), .tup (nI B)])) (some (clV A B)) (some (vwsV k0 k1 d0 d1)) (some (.tup [t0V k0 d0, t0V k1 d1])) v11 v12 v13 v14 v15 v16 v17) h md := law_19 o0 o1 dA dB k
  unfold b_law_20
  generalize b_law_19 = T19 at t19 ⊢
  have el : ("+" : Str).length = 1 := by decide +kernel
  refine .inl ⟨_, rfl, by simp, ?_⟩
  refine lc_map (al := fun h => lstOf h (vwsV k0 k1 d0 d1) = some [.str (viewT [k0, procS d0]), .str (viewT [k1, procS d1])]) (fun p : Str × Nat => .str (viewT [p.1, procS p.2])) (fun p : Str × Nat => t0V p.1 p.2) rfl [(k0, d0), (k1, d1)] [] (fun p hp kk hk => ?_) ⟨_, rfl, t19⟩
  have o : KdOk p.1 p.2 := by
    simp only [List.mem_cons, List.not_mem_nil, or_false] at hp
    rcases hp with rfl | rfl
    · exact o0
    · exact o1
  have w := kd_vw o
  have hl := cand_view_len w.hl w.hws
  have sp := split_cand w.hne w.hws
  refine ⟨by decide +kernel, by omega, ?_⟩
  rw [sp]
  refine ⟨[p.1, procS p.2], rfl, by simp, fun ys pm so => ?_⟩
  have nd : ys.Nodup := pm.nodup_iff.mpr (by
    have := w.d2
    simp only [List.nodup_cons, List.mem_cons, List.not_mem_nil, or_false, not_false_eq_true, List.nodup_nil, and_true] at this ⊢
    exact fun z => this z.symm)
  obtain rfl : ys = [procS p.2, p.1] := sorted_uniq so nd w.d1 w.d2 fun j => pm.mem_iff.trans (w.d3 j).symm
  obtain ⟨p1, p2⟩ := kd_part o
  have l1 := part_len (by omega) p1
  have l2 := part_len (by omega) p2
  refine ⟨_, rfl, ?_, hk⟩
  rw [el]
  simp only [List.map_cons, List.map_nil, List.sum_cons, List.sum_nil, List.length_cons, List.length_nil]
  omega
theorem log_small : ∀ d < 10, ((d : Nat) : Int).natAbs.log2 < 1920 := by decide +kernel
theorem law_21 (dA : Du a A) (dB : Du b B) (k : NxK md) :
    b_law_21 (lkE v2 (some (.lst (nI a))) v4 (some (.lst (nI b))) (some (.lst [.lst (nI a), .lst (nI b)])) (some (.tup [.tup (nI A), .tup (nI B)])) (some (clV A B)) v9 v10 v11 v12 v13 v14 v15 v16 v17) h md := by
  have t20 : ∀ k0 d0 k1 d1, KdOk k0 d0 → KdOk k1 d1 → b_law_20 (lkE v2 (some (.lst (nI a))) v4 (some (.lst (nI b))) (some (.lst [.lst (nI a), .lst (nI b)])) (some (.tup [.tup (nI A), .tup (nI B)])) (some (clV A B)) (some (vwsV k0 k1 d0 d1)) v10 v11 v12 v13 v14 v15 v16 v17) h md := fun k0 d0 k1 d1 o0 o1 => law_20 o0 o1 dA dB k
  unfold b_law_21
  generalize b_law_20 = T20 at t20 ⊢
  refine ⟨by decide, by decide, by decide, ?_⟩
  refine lc_dem (fun _ y => ∃ (k : Str) (d : Nat), KdOk k d ∧ y = .str (viewT [k, procS d])) _ trivial _ _ (fun i _ kk hk => ?_) fun ys hys => ?_
  · refine p_kinds fun ws w3 hw => p_choice (by cases ws <;> simp_all) (by rw [List.length_map]; omega) fun v hv => ?_
    obtain ⟨kd, hkd, rfl⟩ := List.mem_map.mp hv
    obtain ⟨m, m1, m6, hm⟩ := hw kd hkd
    have l1 : kd.length ≤ 6 := by rw [hm.1]; exact m6
    have e2 : ("+@" : Str).length = 2 := by decide +kernel
    refine ⟨by rw [e2]; omega, by decide, by decide, fun r r0 r1 => ?_⟩
    obtain ⟨d, rfl⟩ := Int.eq_ofNat_of_zero_le r0
    have hd : d < 10 := by omega
    refine ⟨_, rfl, log_small d hd, ?_⟩
    have e3 : kd ++ "+@" ++ (toString (d : Int) : Str) = viewT [kd, procS d] := by
      rw [view_two]
      show kd ++ "+@" ++ (toString (d : Int) : Str) = kd ++ "+" ++ ("@" ++ (toString (d : Int) : Str))
      have : ("+@" : Str) = "+" ++ "@" := by decide +kernel
      rw [this, PySem.Str.append_assoc, PySem.Str.append_assoc, PySem.Str.append_assoc]
    have lp : (toString (d : Int) : Str).length ≤ 10 := by
      have : ∀ d < 10, (toString ((d : Nat) : Int) : Str).length ≤ 10 := by decide +kernel
      exact this d hd
    refine ⟨by rw [PySem.Str.length_append, e2]; omega, ?_⟩
    exact hk _ ⟨kd, d, ⟨⟨m, m1, m6, hm⟩, hd⟩, by rw [e3]⟩
  · cases hys with
    | cons a1 t1 =>
      obtain ⟨k0, d0, o0, rfl⟩ := a1
      cases t1 with
      | cons a2 t2 =>
        obtain ⟨k1, d1, o1, rfl⟩ := a2
        cases t2
        exact t20 k0 d0 k1 d1 o0 o1
theorem s_asgZ {i : Nat} {m : ME} {t : MS} {env : Me} (k : m env h (fun v h' => t (env.set i (some v)) h' md) (fun e h' => md.xc e env h')) : sSeq (sAsg m (mName i)) t env h md := k
theorem e_tup2 {m1 m2 : ME} {env : Me} (k : m1 env h (fun u h1 => m2 env h1 (fun v h2 => [u, v].length ≤ 100000 ∧ q (.tup [u, v]) h2) x) x) : eTup (aCons m1 (aCons m2 aNil)) env h q x := k
theorem law_24 (ha : ∀ n ∈ a, n < 9) (la : a.length ≤ 4) (hb : ∀ n ∈ b, n < 9) (lb : b.length ≤ 4) (k : NxK md) :
    b_law_24 (lkE v2 (some (.lst (nI a))) v4 (some (.lst (nI b))) v6 v7 v8 v9 v10 v11 v12 v13 v14 v15 v16 v17) h md := by
  obtain ⟨A, dA⟩ := du_ex a ha la
  obtain ⟨B, dB⟩ := du_ex b hb lb
  have t21 : b_law_21 (lkE v2 (some (.lst (nI a))) v4 (some (.lst (nI b))) (some (.lst [.lst (nI a), .lst (nI b)])) (some (.tup [.tup (nI A), .tup (nI B)])) (some (clV A B)) v9 v10 v11 v12 v13 v14 v15 v16 v17) h md := law_21 dA dB k
  have pc : ∀ (q : VQ) (x : XQ), q (clV A B) h → f_claim [.lst (nI a), .tup (nI b)] h q x := fun q x k => p_claim dA dB rfl rfl k
  unfold b_law_24 b_law_23 b_law_22
  generalize b_law_21 = T21 at t21 ⊢
  generalize f_claim = F at pc ⊢
  refine s_asgZ ⟨_, rfl, _, rfl, by simp, ?_⟩
  refine s_asgZ (e_tup2 ?_)
  refine e_tss (h := h) (m := eVar 3) (v := .lst (nI a)) dA (fun q x k => e_varZ rfl k) rfl ?_
  refine e_tss (h := h) (m := eVar 5) (v := .lst (nI b)) dB (fun q x k => e_varZ rfl k) rfl ?_
  refine ⟨by simp, ?_⟩
  exact ⟨_, rfl, pc _ _ t21⟩
theorem lc_nums {i : Nat} {env : Me} {n : Nat} {m : Int} {q : List Val → Mh → Prop} (hm : 0 < m) (hm2 : m < 1000) (he : env[1]? = some (some .src)) (hi : i ≠ 1) (k : ∀ ns : List Nat, ns.length = n → (∀ j ∈ ns, (j : Int) < m) → q (nI ns) h) :
    lcGo (fun _ => True) (mName i) tYesM (eCall fDraw (aCons (eVar 1) (aCons (eC (.int m)) aNil))) env ((List.range n).map fun (j : Nat) => .int (j : Int)) [] h q := by
  refine lc_dem (fun _ y => ∃ j : Nat, y = .int (j : Int) ∧ j < m.toNat) _ trivial _ _ (fun j _ kk hk => ?_) fun ys hys => ?_
  · refine e_varZ (i := 1) (v := .src) (x := F0) (by rw [List.getElem?_set_ne hi, he]) ?_
    refine ⟨hm, by omega, fun r r0 r1 => ?_⟩
    obtain ⟨d, rfl⟩ := Int.eq_ofNat_of_zero_le r0
    exact hk _ ⟨d, rfl, by omega⟩
  · obtain ⟨ns, rfl, hl, hn⟩ := paired_nats hys
    exact k ns (by simpa using hl) fun j hj => by have := hn j hj; omega
theorem law_26 (k : NxK md) : b_law_26 (lkE v2 v3 v4 v5 v6 v7 v8 v9 v10 v11 v12 v13 v14 v15 v16 v17) h md := by
  have t24 : ∀ a b : List Nat, (∀ n ∈ a, n < 9) → a.length ≤ 4 → (∀ n ∈ b, n < 9) → b.length ≤ 4 → b_law_24 (lkE v2 (some (.lst (nI a))) v4 (some (.lst (nI b))) v6 v7 v8 v9 v10 v11 v12 v13 v14 v15 v16 v17) h md := fun a b h1 h2 h3 h4 => law_24 h1 h2 h3 h4 k
  have t25 : ∀ a : List Nat, (∀ n ∈ a, n < 9) → a.length ≤ 4 → b_law_25 (lkE v2 (some (.lst (nI a))) v4 v5 v6 v7 v8 v9 v10 v11 v12 v13 v14 v15 v16 v17) h md := fun a h1 h2 => by
    unfold b_law_25
    generalize b_law_24 = T24 at t24 ⊢
    refine ⟨by decide, by decide, fun r r0 r1 => ⟨by omega, by omega, by simp; omega, ?_⟩⟩
    refine lc_nums (by decide) (by decide) rfl (by decide) fun ns hl hn => ?_
    exact t24 a ns h1 h2 (fun n hx => by have := hn n hx; omega) (by omega)
  unfold b_law_26
  generalize b_law_25 = T25 at t25 ⊢
  refine ⟨by decide, by decide, fun r r0 r1 => ⟨by omega, by omega, by simp; omega, ?_⟩⟩
  refine lc_nums (by decide) (by decide) rfl (by decide) fun ns hl hn => ?_
  exact t25 ns (fun n hx => by have := hn n hx; omega) (by omega)
end
theorem law_pure : Law := by
  have t26 : ∀ (md : MD), NxK md → ∀ (h : Mh) (v2 v3 v4 v5 v6 v7 v8 v9 v10 v11 v12 v13 v14 v15 v16 v17 : Option Val), b_law_26 (lkE v2 v3 v4 v5 v6 v7 v8 v9 v10 v11 v12 v13 v14 v15 v16 v17) h md := fun md k h v2 v3 v4 v5 v6 v7 v8 v9 v10 v11 v12 v13 v14 v15 v16 v17 => law_26 k
  unfold Law b_law
  generalize b_law_26 = T26 at t26 ⊢
  refine ⟨by decide, by decide, ?_⟩
  refine for_inv _ _ (fun _ env _ => ∃ (v2 v3 v4 v5 v6 v7 v8 v9 v10 v11 v12 v13 v14 v15 v16 v17 : Option Val), env = lkE v2 v3 v4 v5 v6 v7 v8 v9 v10 v11 v12 v13 v14 v15 v16 v17) ⟨_, _, _, _, _, _, _, _, _, _, _, _, _, _, _, _, rfl⟩ ?_ ?_
  · rintro j a env h' ha ⟨v2, v3, v4, v5, v6, v7, v8, v9, v10, v11, v12, v13, v14, v15, v16, v17, rfl⟩ N hN
    refine ⟨trivial, t26 _ (fun h' v2 v3 v4 v5 v6 v7 v8 v9 v10 v11 v12 v13 v14 v15 v16 v17 => hN _ _ ⟨_, _, _, _, _, _, _, _, _, _, _, _, _, _, _, _, rfl⟩) h' _ _ _ _ _ _ _ _ _ _ _ _ _ _ _ _⟩
  · rintro env h' ⟨v2, v3, v4, v5, v6, v7, v8, v9, v10, v11, v12, v13, v14, v15, v16, v17, rfl⟩
    refine ⟨trivial, ?_⟩
    unfold b_law_0
    refine ⟨by simp, by simp, ?_⟩
    exact eq_pl (n := 2) (z := .lst [.int 8, .int 40]) rfl rfl (by kernel_rfl) (by decide) rfl
end Sx

end
set_option Elab.async false
set_option linter.all false
set_option maxRecDepth 100000
set_option maxHeartbeats 2000000
namespace Sx
open PySem PySem.Spec PyProof.Rows L2 Cl RZ ZN


theorem all_mk {l : PySem.W.OpenLaw} {w : World} {K : PySem.W.Frag} {h : Heap} {mg : Str → Option Value} {fa : Addr} {C_View : Addr} {tv_View_MAX_PARTS : Tok} {C_InvalidView : Addr} {C_CutloreError : Addr} {C_NotFound : Addr} {f_law_source : Addr} {od_law_source an_law_source : Option Addr} {sl_law_source : Array (Option Value)} {oc_law_source kV_law_source dc_law_source pm_law_source cd_law_source ct_law_source : Value} {f_law_draw : Addr} {od_law_draw an_law_draw : Option Addr} {sl_law_draw : Array (Option Value)} {oc_law_draw kV_law_draw dc_law_draw pm_law_draw cd_law_draw ct_law_draw : Value} {f_law_outcome : Addr} {od_law_outcome an_law_outcome : Option Addr} {sl_law_outcome : Array (Option Value)} {oc_law_outcome kV_law_outcome dc_law_outcome pm_law_outcome cd_law_outcome ct_law_outcome : Value} {f_law_fields : Addr} {od_law_fields an_law_fields : Option Addr} {sl_law_fields : Array (Option Value)} {oc_law_fields kV_law_fields dc_law_fields pm_law_fields cd_law_fields ct_law_fields : Value} {f_CutloreError__init__ : Addr} {od_CutloreError__init__ an_CutloreError__init__ : Option Addr} {sl_CutloreError__init__ : Array (Option Value)} {oc_CutloreError__init__ kV_CutloreError__init__ dc_CutloreError__init__ pm_CutloreError__init__ cd_CutloreError__init__ ct_CutloreError__init__ : Value} {f_InvalidView__init__ : Addr} {od_InvalidView__init__ an_InvalidView__init__ : Option Addr} {sl_InvalidView__init__ : Array (Option Value)} {oc_InvalidView__init__ kV_InvalidView__init__ dc_InvalidView__init__ pm_InvalidView__init__ cd_InvalidView__init__ ct_InvalidView__init__ : Value} {f_claim : Addr} {od_claim an_claim : Option Addr} {sl_claim : Array (Option Value)} {oc_claim kV_claim dc_claim pm_claim cd_claim ct_claim : Value} {em1_claim em2_claim : Addr} {dT_claim : Addr} {dTd_claim : Option Addr} {dTn_claim : Nat} {dTs_claim : Array (Option Value)} {emd1_claim : Option Addr} {emn1_claim : Nat} {ems1_claim : Array (Option Value)} {emd2_claim : Option Addr} {emn2_claim : Nat} {ems2_claim : Array (Option Value)} {f_law_choice : Addr} {od_law_choice an_law_choice : Option Addr} {sl_law_choice : Array (Option Value)} {oc_law_choice kV_law_choice dc_law_choice pm_law_choice cd_law_choice ct_law_choice : Value} {f_law_letters : Addr} {od_law_letters an_law_letters : Option Addr} {sl_law_letters : Array (Option Value)} {oc_law_letters kV_law_letters dc_law_letters pm_law_letters cd_law_letters ct_law_letters : Value} {f_law_words : Addr} {od_law_words an_law_words : Option Addr} {sl_law_words : Array (Option Value)} {oc_law_words kV_law_words dc_law_words pm_law_words cd_law_words ct_law_words : Value} {f_law_kinds : Addr} {od_law_kinds an_law_kinds : Option Addr} {sl_law_kinds : Array (Option Value)} {oc_law_kinds kV_law_kinds dc_law_kinds pm_law_kinds cd_law_kinds ct_law_kinds : Value} {f_law_names : Addr} {od_law_names an_law_names : Option Addr} {sl_law_names : Array (Option Value)} {oc_law_names kV_law_names dc_law_names pm_law_names cd_law_names ct_law_names : Value} {f_all_of : Addr} {od_all_of an_all_of : Option Addr} {sl_all_of : Array (Option Value)} {oc_all_of kV_all_of dc_all_of pm_all_of cd_all_of ct_all_of : Value} {f_named : Addr} {od_named an_named : Option Addr} {sl_named : Array (Option Value)} {oc_named kV_named dc_named pm_named cd_named ct_named : Value} {f_when kd_when : Addr} {od_when an_when : Option Addr} {sl_when : Array (Option Value)} {oc_when dc_when pm_when cd_when ct_when : Value} {em1_when em2_when : Addr} {emd1_when : Option Addr} {emn1_when : Nat} {ems1_when : Array (Option Value)} {emd2_when : Option Addr} {emn2_when : Nat} {ems2_when : Array (Option Value)} {f_View__str__ : Addr} {od_View__str__ an_View__str__ : Option Addr} {sl_View__str__ : Array (Option Value)} {oc_View__str__ kV_View__str__ dc_View__str__ pm_View__str__ cd_View__str__ ct_View__str__ : Value} {f_is_lowercase : Addr} {od_is_lowercase an_is_lowercase : Option Addr} {sl_is_lowercase : Array (Option Value)} {oc_is_lowercase kV_is_lowercase dc_is_lowercase pm_is_lowercase cd_is_lowercase ct_is_lowercase : Value} {f_is_word : Addr} {od_is_word an_is_word : Option Addr} {sl_is_word : Array (Option Value)} {oc_is_word kV_is_word dc_is_word pm_is_word cd_is_word ct_is_word : Value} {f_is_part : Addr} {od_is_part an_is_part : Option Addr} {sl_is_part : Array (Option Value)} {oc_is_part kV_is_part dc_is_part pm_is_part cd_is_part ct_is_part : Value} {f_View__init__ : Addr} {od_View__init__ an_View__init__ : Option Addr} {sl_View__init__ : Array (Option Value)} {oc_View__init__ kV_View__init__ dc_View__init__ pm_View__init__ cd_View__init__ ct_View__init__ : Value} {f_knows : Addr} {od_knows an_knows : Option Addr} {sl_knows : Array (Option Value)} {oc_knows kV_knows dc_knows pm_knows cd_knows ct_knows : Value} {f_everyone : Addr} {od_everyone an_everyone : Option Addr} {sl_everyone : Array (Option Value)} {oc_everyone kV_everyone dc_everyone pm_everyone cd_everyone ct_everyone : Value} {f_common : Addr} {od_common an_common : Option Addr} {sl_common : Array (Option Value)} {oc_common kV_common dc_common pm_common cd_common ct_common : Value} {f_always : Addr} {od_always an_always : Option Addr} {sl_always : Array (Option Value)} {oc_always kV_always dc_always pm_always cd_always ct_always : Value} {f_sofar : Addr} {od_sofar an_sofar : Option Addr} {sl_sofar : Array (Option Value)} {oc_sofar kV_sofar dc_sofar pm_sofar cd_sofar ct_sofar : Value} {f_sure : Addr} {od_sure an_sure : Option Addr} {sl_sure : Array (Option Value)} {oc_sure kV_sure dc_sure pm_sure cd_sure ct_sure : Value} {f_law_same : Addr} {od_law_same an_law_same : Option Addr} {sl_law_same : Array (Option Value)} {oc_law_same kV_law_same dc_law_same pm_law_same cd_law_same ct_law_same : Value} {f_law : Addr} {od_law an_law : Option Addr} {sl_law : Array (Option Value)} {oc_law kV_law dc_law pm_law ct_law : Value} {cc_law P_law : Addr} {clo_law : Value} {cdi_law : Option Addr} {cvs_law : Array Value} {csl_law : Array (Option Value)} {t_LETTERS : Tok} {t_FIGURES : Tok} {t_MAX_WORD : Tok} {t_MAX_DEPTH : Tok} {t_MAX_PARTS : Tok} (X : K.In h) (G : h.Ns mainGlobals mg) (hfa : mg "law" = some (.ref fa)) (pure : Law)
    (a_View : PySem.W.nsIn K mainGlobals "View" = some (some (.ref C_View))) (pg_View : PySem.W.plainGet K C_View Str.empty = true) (hd_View : PySem.W.hasDictIn K C_View = true) (po_View : PySem.W.plainOver K C_View = true) (sa_View : PySem.W.findIn K (.ref C_View) "__setattr__" = some (some (.builtin "object.__setattr__")))
    (mk_View : PySem.W.makesIn K C_View = true) (kc_View : PySem.W.keepIn K (.ref C_View) = true)
    (na_View_held : PySem.W.findIn K (.ref C_View) "held" = some none)
    (rd_View : PySem.W.readsIn K C_View (.type "type") = true) (ga_View : PySem.W.specialIn K (.ref C_View) "__getattribute__" = some (some (.builtin "type.__getattribute__")))
    (cv_View_MAX_PARTS : PySem.W.findCls K (.ref C_View) (.type "type") "MAX_PARTS" = some (.val (.int 8 tv_View_MAX_PARTS)))
    (a_InvalidView : PySem.W.nsIn K mainGlobals "InvalidView" = some (some (.ref C_InvalidView)))
    (a_CutloreError : PySem.W.nsIn K mainGlobals "CutloreError" = some (some (.ref C_CutloreError)))
    (a_NotFound : PySem.W.nsIn K mainGlobals "NotFound" = some (some (.ref C_NotFound)))
    (xc_InvalidView : xcIn K C_InvalidView C_CutloreError C_NotFound "ValueError.__new__" HandSPX.veTail ["code"] = true)
    (a_law_source : PySem.W.nsIn K mainGlobals "_law_source" = some (some (.ref f_law_source)))
    (l_law_source : K.lookup f_law_source = some ⟨oc_law_source, od_law_source, .func (PySem.W.fnOf "_law_source" "_law_source" (defArgs s_law_source) (defBody s_law_source) (defScope s_law_source) .none kV_law_source dc_law_source pm_law_source an_law_source cd_law_source ct_law_source), sl_law_source⟩) (c_law_source : PySem.W.codeIn K cd_law_source "_law_source" = true) (k_law_source : PySem.W.keepIn K (.ref f_law_source) = true)
    (a_law_draw : PySem.W.nsIn K mainGlobals "_law_draw" = some (some (.ref f_law_draw)))
    (l_law_draw : K.lookup f_law_draw = some ⟨oc_law_draw, od_law_draw, .func (PySem.W.fnOf "_law_draw" "_law_draw" (defArgs s_law_draw) (defBody s_law_draw) (defScope s_law_draw) .none kV_law_draw dc_law_draw pm_law_draw an_law_draw cd_law_draw ct_law_draw), sl_law_draw⟩) (c_law_draw : PySem.W.codeIn K cd_law_draw "_law_draw" = true) (k_law_draw : PySem.W.keepIn K (.ref f_law_draw) = true)
    (a_law_outcome : PySem.W.nsIn K mainGlobals "_law_outcome" = some (some (.ref f_law_outcome)))
    (l_law_outcome : K.lookup f_law_outcome = some ⟨oc_law_outcome, od_law_outcome, .func (PySem.W.fnOf "_law_outcome" "_law_outcome" (defArgs s_law_outcome) (defBody s_law_outcome) (defScope s_law_outcome) .none kV_law_outcome dc_law_outcome pm_law_outcome an_law_outcome cd_law_outcome ct_law_outcome), sl_law_outcome⟩) (c_law_outcome : PySem.W.codeIn K cd_law_outcome "_law_outcome" = true) (k_law_outcome : PySem.W.keepIn K (.ref f_law_outcome) = true)
    (a_law_fields : PySem.W.nsIn K mainGlobals "_law_fields" = some (some (.ref f_law_fields)))
    (l_law_fields : K.lookup f_law_fields = some ⟨oc_law_fields, od_law_fields, .func (PySem.W.fnOf "_law_fields" "_law_fields" (defArgs s_law_fields) (defBody s_law_fields) (defScope s_law_fields) .none kV_law_fields dc_law_fields pm_law_fields an_law_fields cd_law_fields ct_law_fields), sl_law_fields⟩) (c_law_fields : PySem.W.codeIn K cd_law_fields "_law_fields" = true) (k_law_fields : PySem.W.keepIn K (.ref f_law_fields) = true)
    (a_CutloreError__init__ : PySem.W.findIn K (.ref C_CutloreError) "__init__" = some (some (.ref f_CutloreError__init__))) (i_CutloreError__init__ : PySem.W.isFn K (.ref f_CutloreError__init__) = true)
    (l_CutloreError__init__ : K.lookup f_CutloreError__init__ = some ⟨oc_CutloreError__init__, od_CutloreError__init__, .func (PySem.W.fnOf "__init__" "CutloreError.__init__" (defArgs s_CutloreError__init__) (defBody s_CutloreError__init__) (defScope s_CutloreError__init__) .none kV_CutloreError__init__ dc_CutloreError__init__ pm_CutloreError__init__ an_CutloreError__init__ cd_CutloreError__init__ ct_CutloreError__init__), sl_CutloreError__init__⟩) (c_CutloreError__init__ : PySem.W.codeIn K cd_CutloreError__init__ "CutloreError.__init__" = true) (k_CutloreError__init__ : PySem.W.keepIn K (.ref f_CutloreError__init__) = true)
    (ga_CutloreError : PySem.W.specialIn K (.ref C_CutloreError) "__getattribute__" = some (some (.builtin "type.__getattribute__"))) (rd_CutloreError : PySem.W.readsIn K C_CutloreError (.type "type") = true) (fc_CutloreError : PySem.W.findCls K (.ref C_CutloreError) (.type "type") "__init__" = some (.val (.ref f_CutloreError__init__))) (vv_CutloreError : PySem.W.findCls K (.type "ValueError") (.type "type") "__init__" = some (.val (.builtin "ValueError.__init__")))
    (a_InvalidView__init__ : PySem.W.findIn K (.ref C_InvalidView) "__init__" = some (some (.ref f_InvalidView__init__))) (i_InvalidView__init__ : PySem.W.isFn K (.ref f_InvalidView__init__) = true)
    (l_InvalidView__init__ : K.lookup f_InvalidView__init__ = some ⟨oc_InvalidView__init__, od_InvalidView__init__, .func (PySem.W.fnOf "__init__" "InvalidView.__init__" (defArgs s_InvalidView__init__) (defBody s_InvalidView__init__) (defScope s_InvalidView__init__) .none kV_InvalidView__init__ dc_InvalidView__init__ pm_InvalidView__init__ an_InvalidView__init__ cd_InvalidView__init__ ct_InvalidView__init__), sl_InvalidView__init__⟩) (c_InvalidView__init__ : PySem.W.codeIn K cd_InvalidView__init__ "InvalidView.__init__" = true) (k_InvalidView__init__ : PySem.W.keepIn K (.ref f_InvalidView__init__) = true)
    (a_claim : PySem.W.nsIn K mainGlobals "claim" = some (some (.ref f_claim)))
    (l_claim : K.lookup f_claim = some ⟨oc_claim, od_claim, .func (PySem.W.fnOf "claim" "claim" (defArgs s_claim) (defBody s_claim) (defScope s_claim) (.ref dT_claim) kV_claim dc_claim pm_claim an_claim cd_claim ct_claim), sl_claim⟩) (c_claim : PySem.W.codeIn K cd_claim "claim" = true) (k_claim : PySem.W.keepIn K (.ref f_claim) = true)
    (dl_claim : K.lookup dT_claim = some ⟨.type "tuple", dTd_claim, .seq #[.ref em1_claim, .ref em2_claim] dTn_claim, dTs_claim⟩)
    (eml1_claim : K.lookup em1_claim = some ⟨.type "tuple", emd1_claim, .seq #[] emn1_claim, ems1_claim⟩)
    (eml2_claim : K.lookup em2_claim = some ⟨.type "tuple", emd2_claim, .seq #[] emn2_claim, ems2_claim⟩)
    (a_law_choice : PySem.W.nsIn K mainGlobals "_law_choice" = some (some (.ref f_law_choice)))
    (l_law_choice : K.lookup f_law_choice = some ⟨oc_law_choice, od_law_choice, .func (PySem.W.fnOf "_law_choice" "_law_choice" (defArgs s_law_choice) (defBody s_law_choice) (defScope s_law_choice) .none kV_law_choice dc_law_choice pm_law_choice an_law_choice cd_law_choice ct_law_choice), sl_law_choice⟩) (c_law_choice : PySem.W.codeIn K cd_law_choice "_law_choice" = true) (k_law_choice : PySem.W.keepIn K (.ref f_law_choice) = true)
    (a_law_letters : PySem.W.nsIn K mainGlobals "_law_letters" = some (some (.ref f_law_letters)))
    (l_law_letters : K.lookup f_law_letters = some ⟨oc_law_letters, od_law_letters, .func (PySem.W.fnOf "_law_letters" "_law_letters" (defArgs s_law_letters) (defBody s_law_letters) (defScope s_law_letters) .none kV_law_letters dc_law_letters pm_law_letters an_law_letters cd_law_letters ct_law_letters), sl_law_letters⟩) (c_law_letters : PySem.W.codeIn K cd_law_letters "_law_letters" = true) (k_law_letters : PySem.W.keepIn K (.ref f_law_letters) = true)
    (a_law_words : PySem.W.nsIn K mainGlobals "_law_words" = some (some (.ref f_law_words)))
    (l_law_words : K.lookup f_law_words = some ⟨oc_law_words, od_law_words, .func (PySem.W.fnOf "_law_words" "_law_words" (defArgs s_law_words) (defBody s_law_words) (defScope s_law_words) .none kV_law_words dc_law_words pm_law_words an_law_words cd_law_words ct_law_words), sl_law_words⟩) (c_law_words : PySem.W.codeIn K cd_law_words "_law_words" = true) (k_law_words : PySem.W.keepIn K (.ref f_law_words) = true)
    (a_law_kinds : PySem.W.nsIn K mainGlobals "_law_kinds" = some (some (.ref f_law_kinds)))
    (l_law_kinds : K.lookup f_law_kinds = some ⟨oc_law_kinds, od_law_kinds, .func (PySem.W.fnOf "_law_kinds" "_law_kinds" (defArgs s_law_kinds) (defBody s_law_kinds) (defScope s_law_kinds) .none kV_law_kinds dc_law_kinds pm_law_kinds an_law_kinds cd_law_kinds ct_law_kinds), sl_law_kinds⟩) (c_law_kinds : PySem.W.codeIn K cd_law_kinds "_law_kinds" = true) (k_law_kinds : PySem.W.keepIn K (.ref f_law_kinds) = true)
    (a_law_names : PySem.W.nsIn K mainGlobals "_law_names" = some (some (.ref f_law_names)))
    (l_law_names : K.lookup f_law_names = some ⟨oc_law_names, od_law_names, .func (PySem.W.fnOf "_law_names" "_law_names" (defArgs s_law_names) (defBody s_law_names) (defScope s_law_names) .none kV_law_names dc_law_names pm_law_names an_law_names cd_law_names ct_law_names), sl_law_names⟩) (c_law_names : PySem.W.codeIn K cd_law_names "_law_names" = true) (k_law_names : PySem.W.keepIn K (.ref f_law_names) = true)
    (a_all_of : PySem.W.nsIn K mainGlobals "all_of" = some (some (.ref f_all_of)))
    (l_all_of : K.lookup f_all_of = some ⟨oc_all_of, od_all_of, .func (PySem.W.fnOf "all_of" "all_of" (defArgs s_all_of) (defBody s_all_of) (defScope s_all_of) .none kV_all_of dc_all_of pm_all_of an_all_of cd_all_of ct_all_of), sl_all_of⟩) (c_all_of : PySem.W.codeIn K cd_all_of "all_of" = true) (k_all_of : PySem.W.keepIn K (.ref f_all_of) = true)
    (a_named : PySem.W.nsIn K mainGlobals "named" = some (some (.ref f_named)))
    (l_named : K.lookup f_named = some ⟨oc_named, od_named, .func (PySem.W.fnOf "named" "named" (defArgs s_named) (defBody s_named) (defScope s_named) .none kV_named dc_named pm_named an_named cd_named ct_named), sl_named⟩) (c_named : PySem.W.codeIn K cd_named "named" = true) (k_named : PySem.W.keepIn K (.ref f_named) = true)
    (a_when : PySem.W.nsIn K mainGlobals "when" = some (some (.ref f_when)))
    (l_when : K.lookup f_when = some ⟨oc_when, od_when, .func (PySem.W.fnOf "when" "when" (defArgs s_when) (defBody s_when) (defScope s_when) .none (.ref kd_when) dc_when pm_when an_when cd_when ct_when), sl_when⟩) (c_when : PySem.W.codeIn K cd_when "when" = true) (k_when : PySem.W.keepIn K (.ref f_when) = true)
    (q_when_had : PySem.W.nsIn K kd_when "had" = some (some (.ref em1_when)))
    (q_when_lacking : PySem.W.nsIn K kd_when "lacking" = some (some (.ref em2_when)))
    (eml1_when : K.lookup em1_when = some ⟨.type "tuple", emd1_when, .seq #[] emn1_when, ems1_when⟩)
    (eml2_when : K.lookup em2_when = some ⟨.type "tuple", emd2_when, .seq #[] emn2_when, ems2_when⟩)
    (a_View__str__ : PySem.W.findIn K (.ref C_View) "__str__" = some (some (.ref f_View__str__))) (i_View__str__ : PySem.W.isFn K (.ref f_View__str__) = true)
    (l_View__str__ : K.lookup f_View__str__ = some ⟨oc_View__str__, od_View__str__, .func (PySem.W.fnOf "__str__" "View.__str__" (defArgs s_View__str__) (defBody s_View__str__) (defScope s_View__str__) .none kV_View__str__ dc_View__str__ pm_View__str__ an_View__str__ cd_View__str__ ct_View__str__), sl_View__str__⟩) (c_View__str__ : PySem.W.codeIn K cd_View__str__ "View.__str__" = true) (k_View__str__ : PySem.W.keepIn K (.ref f_View__str__) = true)
    (a_is_lowercase : PySem.W.nsIn K mainGlobals "is_lowercase" = some (some (.ref f_is_lowercase)))
    (l_is_lowercase : K.lookup f_is_lowercase = some ⟨oc_is_lowercase, od_is_lowercase, .func (PySem.W.fnOf "is_lowercase" "is_lowercase" (defArgs s_is_lowercase) (defBody s_is_lowercase) (defScope s_is_lowercase) .none kV_is_lowercase dc_is_lowercase pm_is_lowercase an_is_lowercase cd_is_lowercase ct_is_lowercase), sl_is_lowercase⟩) (c_is_lowercase : PySem.W.codeIn K cd_is_lowercase "is_lowercase" = true) (k_is_lowercase : PySem.W.keepIn K (.ref f_is_lowercase) = true)
    (a_is_word : PySem.W.nsIn K mainGlobals "is_word" = some (some (.ref f_is_word)))
    (l_is_word : K.lookup f_is_word = some ⟨oc_is_word, od_is_word, .func (PySem.W.fnOf "is_word" "is_word" (defArgs s_is_word) (defBody s_is_word) (defScope s_is_word) .none kV_is_word dc_is_word pm_is_word an_is_word cd_is_word ct_is_word), sl_is_word⟩) (c_is_word : PySem.W.codeIn K cd_is_word "is_word" = true) (k_is_word : PySem.W.keepIn K (.ref f_is_word) = true)
    (a_is_part : PySem.W.nsIn K mainGlobals "is_part" = some (some (.ref f_is_part)))
    (l_is_part : K.lookup f_is_part = some ⟨oc_is_part, od_is_part, .func (PySem.W.fnOf "is_part" "is_part" (defArgs s_is_part) (defBody s_is_part) (defScope s_is_part) .none kV_is_part dc_is_part pm_is_part an_is_part cd_is_part ct_is_part), sl_is_part⟩) (c_is_part : PySem.W.codeIn K cd_is_part "is_part" = true) (k_is_part : PySem.W.keepIn K (.ref f_is_part) = true)
    (a_View__init__ : PySem.W.findIn K (.ref C_View) "__init__" = some (some (.ref f_View__init__))) (i_View__init__ : PySem.W.isFn K (.ref f_View__init__) = true)
    (l_View__init__ : K.lookup f_View__init__ = some ⟨oc_View__init__, od_View__init__, .func (PySem.W.fnOf "__init__" "View.__init__" (defArgs s_View__init__) (defBody s_View__init__) (defScope s_View__init__) .none kV_View__init__ dc_View__init__ pm_View__init__ an_View__init__ cd_View__init__ ct_View__init__), sl_View__init__⟩) (c_View__init__ : PySem.W.codeIn K cd_View__init__ "View.__init__" = true) (k_View__init__ : PySem.W.keepIn K (.ref f_View__init__) = true)
    (a_knows : PySem.W.nsIn K mainGlobals "knows" = some (some (.ref f_knows)))
    (l_knows : K.lookup f_knows = some ⟨oc_knows, od_knows, .func (PySem.W.fnOf "knows" "knows" (defArgs s_knows) (defBody s_knows) (defScope s_knows) .none kV_knows dc_knows pm_knows an_knows cd_knows ct_knows), sl_knows⟩) (c_knows : PySem.W.codeIn K cd_knows "knows" = true) (k_knows : PySem.W.keepIn K (.ref f_knows) = true)
    (a_everyone : PySem.W.nsIn K mainGlobals "everyone" = some (some (.ref f_everyone)))
    (l_everyone : K.lookup f_everyone = some ⟨oc_everyone, od_everyone, .func (PySem.W.fnOf "everyone" "everyone" (defArgs s_everyone) (defBody s_everyone) (defScope s_everyone) .none kV_everyone dc_everyone pm_everyone an_everyone cd_everyone ct_everyone), sl_everyone⟩) (c_everyone : PySem.W.codeIn K cd_everyone "everyone" = true) (k_everyone : PySem.W.keepIn K (.ref f_everyone) = true)
    (a_common : PySem.W.nsIn K mainGlobals "common" = some (some (.ref f_common)))
    (l_common : K.lookup f_common = some ⟨oc_common, od_common, .func (PySem.W.fnOf "common" "common" (defArgs s_common) (defBody s_common) (defScope s_common) .none kV_common dc_common pm_common an_common cd_common ct_common), sl_common⟩) (c_common : PySem.W.codeIn K cd_common "common" = true) (k_common : PySem.W.keepIn K (.ref f_common) = true)
    (a_always : PySem.W.nsIn K mainGlobals "always" = some (some (.ref f_always)))
    (l_always : K.lookup f_always = some ⟨oc_always, od_always, .func (PySem.W.fnOf "always" "always" (defArgs s_always) (defBody s_always) (defScope s_always) .none kV_always dc_always pm_always an_always cd_always ct_always), sl_always⟩) (c_always : PySem.W.codeIn K cd_always "always" = true) (k_always : PySem.W.keepIn K (.ref f_always) = true)
    (a_sofar : PySem.W.nsIn K mainGlobals "sofar" = some (some (.ref f_sofar)))
    (l_sofar : K.lookup f_sofar = some ⟨oc_sofar, od_sofar, .func (PySem.W.fnOf "sofar" "sofar" (defArgs s_sofar) (defBody s_sofar) (defScope s_sofar) .none kV_sofar dc_sofar pm_sofar an_sofar cd_sofar ct_sofar), sl_sofar⟩) (c_sofar : PySem.W.codeIn K cd_sofar "sofar" = true) (k_sofar : PySem.W.keepIn K (.ref f_sofar) = true)
    (a_sure : PySem.W.nsIn K mainGlobals "sure" = some (some (.ref f_sure)))
    (l_sure : K.lookup f_sure = some ⟨oc_sure, od_sure, .func (PySem.W.fnOf "sure" "sure" (defArgs s_sure) (defBody s_sure) (defScope s_sure) .none kV_sure dc_sure pm_sure an_sure cd_sure ct_sure), sl_sure⟩) (c_sure : PySem.W.codeIn K cd_sure "sure" = true) (k_sure : PySem.W.keepIn K (.ref f_sure) = true)
    (a_law_same : PySem.W.nsIn K mainGlobals "_law_same" = some (some (.ref f_law_same)))
    (l_law_same : K.lookup f_law_same = some ⟨oc_law_same, od_law_same, .func (PySem.W.fnOf "_law_same" "_law_same" (defArgs s_law_same) (defBody s_law_same) (defScope s_law_same) .none kV_law_same dc_law_same pm_law_same an_law_same cd_law_same ct_law_same), sl_law_same⟩) (c_law_same : PySem.W.codeIn K cd_law_same "_law_same" = true) (k_law_same : PySem.W.keepIn K (.ref f_law_same) = true)
    (a_law : PySem.W.nsIn K mainGlobals "law" = some (some (.ref f_law)))
    (l_law : K.lookup f_law = some ⟨oc_law, od_law, .func (PySem.W.fnOf "law" "law" (defArgs s_law) (defBody s_law) (defScope s_law) .none kV_law dc_law pm_law an_law (.ref cc_law) ct_law), sl_law⟩) (c_law : PySem.W.codeIn K (.ref cc_law) "law" = true) (k_law : PySem.W.keepIn K (.ref f_law) = true)
    (lc_law : K.lookup cc_law = some ⟨clo_law, cdi_law, .fields cvs_law, csl_law⟩) (tp_law : cvs_law[11]? = some (.ref P_law)) (ch_law : PySem.W.codeHdIn K cc_law P_law = true) (nt_law : K.lookup P_law = none) (tb_law : h.get? P_law = some (PySem.W.tabObj #[]))
    (z_LookupError : PySem.W.nsIn K mainGlobals "LookupError" = some none)
    (z_ValueError : PySem.W.nsIn K mainGlobals "ValueError" = some none)
    (z_all : PySem.W.nsIn K mainGlobals "all" = some none)
    (z_bool : PySem.W.nsIn K mainGlobals "bool" = some none)
    (z_enumerate : PySem.W.nsIn K mainGlobals "enumerate" = some none)
    (z_int : PySem.W.nsIn K mainGlobals "int" = some none)
    (z_isinstance : PySem.W.nsIn K mainGlobals "isinstance" = some none)
    (z_len : PySem.W.nsIn K mainGlobals "len" = some none)
    (z_list : PySem.W.nsIn K mainGlobals "list" = some none)
    (z_property : PySem.W.nsIn K mainGlobals "property" = some none)
    (z_range : PySem.W.nsIn K mainGlobals "range" = some none)
    (z_set : PySem.W.nsIn K mainGlobals "set" = some none)
    (z_sorted : PySem.W.nsIn K mainGlobals "sorted" = some none)
    (z_staticmethod : PySem.W.nsIn K mainGlobals "staticmethod" = some none)
    (z_str : PySem.W.nsIn K mainGlobals "str" = some none)
    (z_tuple : PySem.W.nsIn K mainGlobals "tuple" = some none)
    (z_zip : PySem.W.nsIn K mainGlobals "zip" = some none)
    (g_LETTERS : PySem.W.nsIn K mainGlobals "LETTERS" = some (some (.str "abcdefghijklmnopqrstuvwxyz" t_LETTERS)))
    (g_FIGURES : PySem.W.nsIn K mainGlobals "FIGURES" = some (some (.str "0123456789" t_FIGURES)))
    (g_MAX_WORD : PySem.W.nsIn K mainGlobals "MAX_WORD" = some (some (.int 6 t_MAX_WORD)))
    (g_MAX_DEPTH : PySem.W.nsIn K mainGlobals "MAX_DEPTH" = some (some (.int 8 t_MAX_DEPTH)))
    (g_MAX_PARTS : PySem.W.nsIn K mainGlobals "MAX_PARTS" = some (some (.int 40 t_MAX_PARTS))) :
    LamX.LawAtS l w K (L2.CX l.prog w) 10 63 "_law_script" mg fa h := by
  have e := hfa.symm.trans (PySem.W.mg_of X G a_law)
  cases e
  let Y : Ky := ⟨K, fun c => if c = "View" then some C_View else if c = "InvalidView" then some C_InvalidView else none, [(P_law, ("law" ++ ".<locals>.") ++ "<lambda>")]⟩
  have cm_View : Y.cm "View" = some C_View := by
    show (if ("View" : Str) = "View" then some C_View else if ("View" : Str) = "InvalidView" then some C_InvalidView else none) = _
    exact if_pos rfl
  have cl_View : Cls Y.K C_View := ⟨pg_View, hd_View, po_View, sa_View⟩
  have cm_InvalidView : Y.cm "InvalidView" = some C_InvalidView := by
    show (if ("InvalidView" : Str) = "View" then some C_View else if ("InvalidView" : Str) = "InvalidView" then some C_InvalidView else none) = _
    exact (if_neg (by decide +kernel)).trans (if_pos rfl)
  have E_law_source := fun_mk (st := s_law_source) l_law_source c_law_source k_law_source
  have F_law_source : Tp Y.K mg "_law_source" s_law_source := ⟨_, _, E_law_source, PySem.W.mg_of X G a_law_source⟩
  have E_law_draw := fun_mk (st := s_law_draw) l_law_draw c_law_draw k_law_draw
  have F_law_draw : Tp Y.K mg "_law_draw" s_law_draw := ⟨_, _, E_law_draw, PySem.W.mg_of X G a_law_draw⟩
  have E_law_outcome := fun_mk (st := s_law_outcome) l_law_outcome c_law_outcome k_law_outcome
  have F_law_outcome : Tp Y.K mg "_law_outcome" s_law_outcome := ⟨_, _, E_law_outcome, PySem.W.mg_of X G a_law_outcome⟩
  have E_law_fields := fun_mk (st := s_law_fields) l_law_fields c_law_fields k_law_fields
  have F_law_fields : Tp Y.K mg "_law_fields" s_law_fields := ⟨_, _, E_law_fields, PySem.W.mg_of X G a_law_fields⟩
  have E_CutloreError__init__ := fun_mk (st := s_CutloreError__init__) l_CutloreError__init__ c_CutloreError__init__ k_CutloreError__init__
  have F_CutloreError__init__ : XbF Y mg "CutloreError" "CutloreError.__init__" s_CutloreError__init__ "ValueError" "ValueError.__init__" := ⟨C_CutloreError, _, _, PySem.W.mg_of X G a_CutloreError, ga_CutloreError, rd_CutloreError, fc_CutloreError, E_CutloreError__init__, vv_CutloreError⟩
  have E_InvalidView__init__ := fun_mk (st := s_InvalidView__init__) l_InvalidView__init__ c_InvalidView__init__ k_InvalidView__init__
  have F_InvalidView__init__ : XsF Y mg "InvalidView" "InvalidView.__init__" s_InvalidView__init__ "ValueError.__new__" HandSPX.veTail ["code"] := ⟨C_InvalidView, cm_InvalidView, PySem.W.mg_of X G a_InvalidView, (xc_of xc_InvalidView).1, (xc_of xc_InvalidView).2.2.1, _, _, a_InvalidView__init__, beq_iff_eq.mp i_InvalidView__init__, E_InvalidView__init__⟩
  have E_claim := fund_mk2 (st := s_claim) l_claim c_claim k_claim dl_claim rfl
  have F_claim : TpE2 Y.K mg "claim" s_claim := ⟨_, _, _, _, E_claim, ⟨_, _, eml1_claim, rfl, rfl⟩, ⟨_, _, eml2_claim, rfl, rfl⟩, PySem.W.mg_of X G a_claim⟩
  have E_law_choice := fun_mk (st := s_law_choice) l_law_choice c_law_choice k_law_choice
  have F_law_choice : Tp Y.K mg "_law_choice" s_law_choice := ⟨_, _, E_law_choice, PySem.W.mg_of X G a_law_choice⟩
  have E_law_letters := fun_mk (st := s_law_letters) l_law_letters c_law_letters k_law_letters
  have F_law_letters : Tp Y.K mg "_law_letters" s_law_letters := ⟨_, _, E_law_letters, PySem.W.mg_of X G a_law_letters⟩
  have E_law_words := fun_mk (st := s_law_words) l_law_words c_law_words k_law_words
  have F_law_words : Tp Y.K mg "_law_words" s_law_words := ⟨_, _, E_law_words, PySem.W.mg_of X G a_law_words⟩
  have E_law_kinds := fun_mk (st := s_law_kinds) l_law_kinds c_law_kinds k_law_kinds
  have F_law_kinds : Tp Y.K mg "_law_kinds" s_law_kinds := ⟨_, _, E_law_kinds, PySem.W.mg_of X G a_law_kinds⟩
  have E_law_names := fun_mk (st := s_law_names) l_law_names c_law_names k_law_names
  have F_law_names : Tp Y.K mg "_law_names" s_law_names := ⟨_, _, E_law_names, PySem.W.mg_of X G a_law_names⟩
  have E_all_of := fun_mk (st := s_all_of) l_all_of c_all_of k_all_of
  have F_all_of : Tp Y.K mg "all_of" s_all_of := ⟨_, _, E_all_of, PySem.W.mg_of X G a_all_of⟩
  have E_named := fun_mk (st := s_named) l_named c_named k_named
  have F_named : Tp Y.K mg "named" s_named := ⟨_, _, E_named, PySem.W.mg_of X G a_named⟩
  have E_when := fund_mk (kws := [("had", .ref em1_when), ("lacking", .ref em2_when)]) (st := s_when) l_when c_when k_when (fun q hq => by
    simp only [List.mem_cons, List.not_mem_nil, or_false] at hq
    rcases hq with rfl | rfl
    · exact ⟨_, q_when_had, rfl⟩
    · exact ⟨_, q_when_lacking, rfl⟩)
  have F_when : TpW2 Y.K mg "when" s_when "had" "lacking" := ⟨_, _, _, _, E_when, ⟨_, _, eml1_when, rfl, rfl⟩, ⟨_, _, eml2_when, rfl, rfl⟩, PySem.W.mg_of X G a_when⟩
  have E_View__str__ := fun_mk (st := s_View__str__) l_View__str__ c_View__str__ k_View__str__
  have F_View__str__ : TmA Y "View" "__str__" "View.__str__" s_View__str__ := ⟨C_View, cm_View, cl_View, _, _, E_View__str__, a_View__str__, i_View__str__, k_View__str__⟩
  have E_is_lowercase := fun_mk (st := s_is_lowercase) l_is_lowercase c_is_lowercase k_is_lowercase
  have F_is_lowercase : Tp Y.K mg "is_lowercase" s_is_lowercase := ⟨_, _, E_is_lowercase, PySem.W.mg_of X G a_is_lowercase⟩
  have E_is_word := fun_mk (st := s_is_word) l_is_word c_is_word k_is_word
  have F_is_word : Tp Y.K mg "is_word" s_is_word := ⟨_, _, E_is_word, PySem.W.mg_of X G a_is_word⟩
  have E_is_part := fun_mk (st := s_is_part) l_is_part c_is_part k_is_part
  have F_is_part : Tp Y.K mg "is_part" s_is_part := ⟨_, _, E_is_part, PySem.W.mg_of X G a_is_part⟩
  have E_View__init__ := fun_mk (st := s_View__init__) l_View__init__ c_View__init__ k_View__init__
  have F_View__init__ : TcA Y mg "View" "View" "View.__init__" s_View__init__ := ⟨C_View, cm_View, PySem.W.mg_of X G a_View, _, _, E_View__init__, mk_View, a_View__init__, i_View__init__, kc_View⟩
  have E_knows := fun_mk (st := s_knows) l_knows c_knows k_knows
  have F_knows : Tp Y.K mg "knows" s_knows := ⟨_, _, E_knows, PySem.W.mg_of X G a_knows⟩
  have E_everyone := fun_mk (st := s_everyone) l_everyone c_everyone k_everyone
  have F_everyone : Tp Y.K mg "everyone" s_everyone := ⟨_, _, E_everyone, PySem.W.mg_of X G a_everyone⟩
  have E_common := fun_mk (st := s_common) l_common c_common k_common
  have F_common : Tp Y.K mg "common" s_common := ⟨_, _, E_common, PySem.W.mg_of X G a_common⟩
  have E_always := fun_mk (st := s_always) l_always c_always k_always
  have F_always : Tp Y.K mg "always" s_always := ⟨_, _, E_always, PySem.W.mg_of X G a_always⟩
  have E_sofar := fun_mk (st := s_sofar) l_sofar c_sofar k_sofar
  have F_sofar : Tp Y.K mg "sofar" s_sofar := ⟨_, _, E_sofar, PySem.W.mg_of X G a_sofar⟩
  have E_sure := fun_mk (st := s_sure) l_sure c_sure k_sure
  have F_sure : Tp Y.K mg "sure" s_sure := ⟨_, _, E_sure, PySem.W.mg_of X G a_sure⟩
  have E_law_same := fun_mk (st := s_law_same) l_law_same c_law_same k_law_same
  have F_law_same : Tp Y.K mg "_law_same" s_law_same := ⟨_, _, E_law_same, PySem.W.mg_of X G a_law_same⟩
  have E_law := fun_mk (st := s_law) l_law c_law k_law
  have T : Txt Y mg := ⟨PySem.W.mg_none_of X G z_LookupError, PySem.W.mg_none_of X G z_ValueError, PySem.W.mg_none_of X G z_all, PySem.W.mg_none_of X G z_bool, PySem.W.mg_none_of X G z_enumerate, PySem.W.mg_none_of X G z_int, PySem.W.mg_none_of X G z_isinstance, PySem.W.mg_none_of X G z_len, PySem.W.mg_none_of X G z_list, PySem.W.mg_none_of X G z_property, PySem.W.mg_none_of X G z_range, PySem.W.mg_none_of X G z_set, PySem.W.mg_none_of X G z_sorted, PySem.W.mg_none_of X G z_staticmethod, PySem.W.mg_none_of X G z_str, PySem.W.mg_none_of X G z_tuple, PySem.W.mg_none_of X G z_zip, ⟨_, PySem.W.mg_of X G g_LETTERS⟩, ⟨_, PySem.W.mg_of X G g_FIGURES⟩, ⟨_, PySem.W.mg_of X G g_MAX_WORD⟩, ⟨_, PySem.W.mg_of X G g_MAX_DEPTH⟩, ⟨_, PySem.W.mg_of X G g_MAX_PARTS⟩, (fld_cons cm_View cl_View na_View_held fld_nil), ⟨F_law_outcome, F_law_fields, out_ok, fld_ok, sc_law_outcome, sc_law_fields, rfl, rfl, rfl, rfl, rfl, rfl, fun fd g F => (F.binds fun _ _ _ _ _ _ us hl => match us, hl with | [_], _ => rfl), fun fd g F => (F.binds fun _ _ _ _ _ _ us hl => match us, hl with | [_], _ => rfl), ⟨C_CutloreError, C_NotFound, PySem.W.mg_of X G a_CutloreError, PySem.W.mg_of X G a_NotFound, (outC_cons cm_InvalidView xc_InvalidView outC_nil)⟩⟩, ⟨C_View, PySem.W.mg_of X G a_View, _, _, ⟨rd_View, ga_View⟩, ⟨cv_View_MAX_PARTS, _, rfl⟩⟩⟩
  refine ⟨PySem.W.fnOf "law" "law" (defArgs s_law) (defBody s_law) (defScope s_law) .none kV_law dc_law pm_law an_law (.ref cc_law) ct_law, [(cc_law, P_law)], spLawT Y, (fun p hp => by
    simp only [List.mem_cons, List.not_mem_nil, or_false] at hp
    rcases hp with rfl
    · exact tb_law), (fun p hp => by
    simp only [List.mem_cons, List.not_mem_nil, or_false] at hp
    rcases hp with rfl
    · exact nt_law), (fun p hp => by
    simp only [List.mem_cons, List.not_mem_nil, or_false] at hp
    rcases hp with rfl
    · exact PySem.W.codeHd_of_K X ch_law), fun s v => .of_eq rfl, fun H a ns hl _ hH hS => ⟨a, ns, rfl, hS, hl, ?t, fun _ => rfl⟩, fun base _ _ hTB => ?c⟩
  case t =>
    intro z hz
    have hz : z ∈ ([(P_law, ("law" ++ ".<locals>.") ++ "<lambda>")] : List (Addr × Str)) := hz
    simp only [List.mem_cons, List.not_mem_nil, or_false] at hz
    rcases hz with rfl
    · exact hH (cc_law, P_law) (by simp)
  case c =>
    have LT_law : LamT Y base mg ("law" ++ ".<locals>.") cc_law P_law := ⟨hTB (cc_law, P_law) (by simp), (by show _ ∈ ([(P_law, ("law" ++ ".<locals>.") ++ "<lambda>")] : List (Addr × Str)); simp), fun p hp e => by
        have hp : p ∈ ([(P_law, ("law" ++ ".<locals>.") ++ "<lambda>")] : List (Addr × Str)) := hp
        simp only [List.mem_cons, List.not_mem_nil, or_false] at hp
        rcases hp with rfl
        · rfl⟩
    have D_law_source := d_law_source (P := l.prog) (w := w) (base := base) T F_law_source
    have D_law_draw := d_law_draw (P := l.prog) (w := w) (base := base) T F_law_draw
    have XB_CutloreError := dxb_CutloreError (P := l.prog) (w := w) (base := base) T F_CutloreError__init__
    have X_InvalidView := dx_InvalidView (P := l.prog) (w := w) (base := base) T XB_CutloreError F_InvalidView__init__
    have D_claim := d_claim (P := l.prog) (w := w) (base := base) T  F_claim
    have D_claim_d0 := d_claim_d0 (P := l.prog) (w := w) (base := base) T  F_claim
    have D_claim_d1 := d_claim_d1 (P := l.prog) (w := w) (base := base) T  F_claim
    have D_claim_kd0lacking := d_claim_kd0lacking (P := l.prog) (w := w) (base := base) T  F_claim
    have D_law_choice := d_law_choice (P := l.prog) (w := w) (base := base) T D_law_draw F_law_choice
    have D_law_letters := d_law_letters (P := l.prog) (w := w) (base := base) T  F_law_letters
    have D_law_words := d_law_words (P := l.prog) (w := w) (base := base) T D_law_letters D_law_choice D_law_draw F_law_words
    have D_law_kinds := d_law_kinds (P := l.prog) (w := w) (base := base) T D_law_words D_law_draw F_law_kinds
    have D_law_names := d_law_names (P := l.prog) (w := w) (base := base) T D_law_words D_law_draw F_law_names
    have D_all_of := d_all_of (P := l.prog) (w := w) (base := base) T  F_all_of
    have D_named := d_named (P := l.prog) (w := w) (base := base) T  F_named
    have D_when_d1 := d_when_d1 (P := l.prog) (w := w) (base := base) T  F_when
    have D_when_klacking_had := d_when_klacking_had (P := l.prog) (w := w) (base := base) T  F_when
    have D_View__str__ := d_View__str__ (P := l.prog) (w := w) (base := base) T  F_View__str__
    have D_is_lowercase := d_is_lowercase (P := l.prog) (w := w) (base := base) T  F_is_lowercase
    have D_is_word := d_is_word (P := l.prog) (w := w) (base := base) T D_is_lowercase F_is_word
    have D_is_part := d_is_part (P := l.prog) (w := w) (base := base) T D_is_word F_is_part
    have D_View__init__ := d_View__init__ (P := l.prog) (w := w) (base := base) T D_is_part X_InvalidView F_View__init__
    have D_knows := d_knows (P := l.prog) (w := w) (base := base) T D_View__str__ D_View__init__ F_knows
    have D_everyone := d_everyone (P := l.prog) (w := w) (base := base) T D_View__str__ D_View__init__ F_everyone
    have D_common := d_common (P := l.prog) (w := w) (base := base) T D_View__str__ D_View__init__ F_common
    have D_always := d_always (P := l.prog) (w := w) (base := base) T  F_always
    have D_sofar := d_sofar (P := l.prog) (w := w) (base := base) T  F_sofar
    have D_sure := d_sure (P := l.prog) (w := w) (base := base) T  F_sure
    have D_law_same := d_law_same (P := l.prog) (w := w) (base := base) T  F_law_same
    exact fn_law (Y := Y) LT_law T D_law_source D_common D_everyone D_knows D_law_choice D_law_same D_when_klacking_had D_named D_sure D_sofar D_always D_when_d1 D_all_of D_claim_kd0lacking D_claim_d1 D_claim_d0 D_law_names D_law_kinds D_law_draw D_claim pure E_law rfl
theorem walk {l : PySem.W.OpenLaw} {q : Program} {loose : List Str} {XP : (Str → Option Value) → Heap → Prop} {YP : World → Heap → Prop} {d : DefRec} {K : Params → PySem.W.Frag} (hn : l.most = some 63) (hdf : d.params.defaults = [])
    (hY : ∀ (w : World) (h : Heap), YP w h → (K w.params).In h)
    (F : ∀ (w : World) (mg : Str → Option Value) (fa : Addr) (h : Heap), YP w h → (K w.params).In h → h.Ns mainGlobals mg → mg d.name = some (.ref fa) → LamX.LawAtS l w (K w.params) (L2.CX l.prog w) 10 63 "_law_script" mg fa h) :
    PySem.W.WalkO q loose XP YP l.row.toRowW d [] (fun f vs => PySem.call f vs) :=
  LamX.walk_ofTs (n := 63) (k := 10) (x := "_law_script") (CX := fun w => L2.CX l.prog w) hn (by decide) hdf ⟨rfl, by decide, by decide⟩ hY F fun _ _ _ _ _ z => cx_none z
end Sx

open PySem PySem.W PyProof.Rows in
set_option maxRecDepth 100000 in
set_option maxHeartbeats 0 in
theorem PySem.Challenge.cw_cutlore_k14_builders_of_sayings_holds : PySem.Challenge.rw_cutlore_k14_builders_of_sayings.Holds := by
  w_on; o_law; km_head; (case hw => w_witness2)
  k_fill
  refine Sx.walk (l := PySem.Challenge.rw_cutlore_k14_builders_of_sayings) rfl rfl (fun w h Y => PySem.W.km_in_of Y) ?F
  case F =>
    intro w mg fa h YY KX G hmg
    have hT8 := PySem.W.km_tabs_of YY
    refine' Sx.all_mk KX G hmg Sx.law_pure ?a_View ?pg_View ?hd_View ?po_View ?sa_View ?mk_View ?kc_View ?na_View_held ?rd_View ?ga_View ?cv_View_MAX_PARTS ?a_InvalidView ?a_CutloreError ?a_NotFound ?xc_InvalidView ?a_law_source ?l_law_source ?c_law_source ?k_law_source ?a_law_draw ?l_law_draw ?c_law_draw ?k_law_draw ?a_law_outcome ?l_law_outcome ?c_law_outcome ?k_law_outcome ?a_law_fields ?l_law_fields ?c_law_fields ?k_law_fields ?a_CutloreError__init__ ?i_CutloreError__init__ ?l_CutloreError__init__ ?c_CutloreError__init__ ?k_CutloreError__init__ ?ga_CutloreError ?rd_CutloreError ?fc_CutloreError ?vv_CutloreError ?a_InvalidView__init__ ?i_InvalidView__init__ ?l_InvalidView__init__ ?c_InvalidView__init__ ?k_InvalidView__init__ ?a_claim ?l_claim ?c_claim ?k_claim ?dl_claim ?eml1_claim ?eml2_claim ?a_law_choice ?l_law_choice ?c_law_choice ?k_law_choice ?a_law_letters ?l_law_letters ?c_law_letters ?k_law_letters ?a_law_words ?l_law_words ?c_law_words ?k_law_words ?a_law_kinds ?l_law_kinds ?c_law_kinds ?k_law_kinds ?a_law_names ?l_law_names ?c_law_names ?k_law_names ?a_all_of ?l_all_of ?c_all_of ?k_all_of ?a_named ?l_named ?c_named ?k_named ?a_when ?l_when ?c_when ?k_when ?q_when_had ?q_when_lacking ?eml1_when ?eml2_when ?a_View__str__ ?i_View__str__ ?l_View__str__ ?c_View__str__ ?k_View__str__ ?a_is_lowercase ?l_is_lowercase ?c_is_lowercase ?k_is_lowercase ?a_is_word ?l_is_word ?c_is_word ?k_is_word ?a_is_part ?l_is_part ?c_is_part ?k_is_part ?a_View__init__ ?i_View__init__ ?l_View__init__ ?c_View__init__ ?k_View__init__ ?a_knows ?l_knows ?c_knows ?k_knows ?a_everyone ?l_everyone ?c_everyone ?k_everyone ?a_common ?l_common ?c_common ?k_common ?a_always ?l_always ?c_always ?k_always ?a_sofar ?l_sofar ?c_sofar ?k_sofar ?a_sure ?l_sure ?c_sure ?k_sure ?a_law_same ?l_law_same ?c_law_same ?k_law_same ?a_law ?l_law ?c_law ?k_law ?lc_law ?tp_law ?ch_law ?nt_law ?tb_law ?z_LookupError ?z_ValueError ?z_all ?z_bool ?z_enumerate ?z_int ?z_isinstance ?z_len ?z_list ?z_property ?z_range ?z_set ?z_sorted ?z_staticmethod ?z_str ?z_tuple ?z_zip ?g_LETTERS ?g_FIGURES ?g_MAX_WORD ?g_MAX_DEPTH ?g_MAX_PARTS
    (case a_View => k_is)
    (case pg_View => k_is)
    (case hd_View => k_is)
    (case po_View => k_is)
    (case sa_View => k_is)
    (case mk_View => k_is)
    (case kc_View => k_is)
    (case na_View_held => k_is)
    (case rd_View => k_is)
    (case ga_View => k_is)
    (case cv_View_MAX_PARTS => k_is)
    (case a_InvalidView => k_is)
    (case a_CutloreError => k_is)
    (case a_NotFound => k_is)
    (case xc_InvalidView => kernel_rfl)
    (case a_law_source => k_is)
    (case l_law_source => k_is)
    (case c_law_source => k_is)
    (case k_law_source => k_is)
    (case a_law_draw => k_is)
    (case l_law_draw => k_is)
    (case c_law_draw => k_is)
    (case k_law_draw => k_is)
    (case a_law_outcome => k_is)
    (case l_law_outcome => k_is)
    (case c_law_outcome => k_is)
    (case k_law_outcome => k_is)
    (case a_law_fields => k_is)
    (case l_law_fields => k_is)
    (case c_law_fields => k_is)
    (case k_law_fields => k_is)
    (case a_CutloreError__init__ => k_is)
    (case i_CutloreError__init__ => k_is)
    (case l_CutloreError__init__ => k_is)
    (case c_CutloreError__init__ => k_is)
    (case k_CutloreError__init__ => k_is)
    (case ga_CutloreError => k_is)
    (case rd_CutloreError => k_is)
    (case fc_CutloreError => k_is)
    (case vv_CutloreError => k_is)
    (case a_InvalidView__init__ => k_is)
    (case i_InvalidView__init__ => k_is)
    (case l_InvalidView__init__ => k_is)
    (case c_InvalidView__init__ => k_is)
    (case k_InvalidView__init__ => k_is)
    (case a_claim => k_is)
    (case l_claim => k_is)
    (case c_claim => k_is)
    (case k_claim => k_is)
    (case dl_claim => k_is)
    (case eml1_claim => k_is)
    (case eml2_claim => k_is)
    (case a_law_choice => k_is)
    (case l_law_choice => k_is)
    (case c_law_choice => k_is)
    (case k_law_choice => k_is)
    (case a_law_letters => k_is)
    (case l_law_letters => k_is)
    (case c_law_letters => k_is)
    (case k_law_letters => k_is)
    (case a_law_words => k_is)
    (case l_law_words => k_is)
    (case c_law_words => k_is)
    (case k_law_words => k_is)
    (case a_law_kinds => k_is)
    (case l_law_kinds => k_is)
    (case c_law_kinds => k_is)
    (case k_law_kinds => k_is)
    (case a_law_names => k_is)
    (case l_law_names => k_is)
    (case c_law_names => k_is)
    (case k_law_names => k_is)
    (case a_all_of => k_is)
    (case l_all_of => k_is)
    (case c_all_of => k_is)
    (case k_all_of => k_is)
    (case a_named => k_is)
    (case l_named => k_is)
    (case c_named => k_is)
    (case k_named => k_is)
    (case a_when => k_is)
    (case l_when => k_is)
    (case c_when => k_is)
    (case k_when => k_is)
    (case q_when_had => k_is)
    (case q_when_lacking => k_is)
    (case eml1_when => k_is)
    (case eml2_when => k_is)
    (case a_View__str__ => k_is)
    (case i_View__str__ => k_is)
    (case l_View__str__ => k_is)
    (case c_View__str__ => k_is)
    (case k_View__str__ => k_is)
    (case a_is_lowercase => k_is)
    (case l_is_lowercase => k_is)
    (case c_is_lowercase => k_is)
    (case k_is_lowercase => k_is)
    (case a_is_word => k_is)
    (case l_is_word => k_is)
    (case c_is_word => k_is)
    (case k_is_word => k_is)
    (case a_is_part => k_is)
    (case l_is_part => k_is)
    (case c_is_part => k_is)
    (case k_is_part => k_is)
    (case a_View__init__ => k_is)
    (case i_View__init__ => k_is)
    (case l_View__init__ => k_is)
    (case c_View__init__ => k_is)
    (case k_View__init__ => k_is)
    (case a_knows => k_is)
    (case l_knows => k_is)
    (case c_knows => k_is)
    (case k_knows => k_is)
    (case a_everyone => k_is)
    (case l_everyone => k_is)
    (case c_everyone => k_is)
    (case k_everyone => k_is)
    (case a_common => k_is)
    (case l_common => k_is)
    (case c_common => k_is)
    (case k_common => k_is)
    (case a_always => k_is)
    (case l_always => k_is)
    (case c_always => k_is)
    (case k_always => k_is)
    (case a_sofar => k_is)
    (case l_sofar => k_is)
    (case c_sofar => k_is)
    (case k_sofar => k_is)
    (case a_sure => k_is)
    (case l_sure => k_is)
    (case c_sure => k_is)
    (case k_sure => k_is)
    (case a_law_same => k_is)
    (case l_law_same => k_is)
    (case c_law_same => k_is)
    (case k_law_same => k_is)
    (case a_law => k_is)
    (case l_law => k_is)
    (case c_law => k_is)
    (case k_law => k_is)
    (case lc_law => k_is)
    (case tp_law => rfl)
    (case ch_law => kernel_rfl)
    (case nt_law => kernel_rfl)
    (case tb_law => exact hT8 _ (by simp))
    (case z_LookupError => k_is)
    (case z_ValueError => k_is)
    (case z_all => k_is)
    (case z_bool => k_is)
    (case z_enumerate => k_is)
    (case z_int => k_is)
    (case z_isinstance => k_is)
    (case z_len => k_is)
    (case z_list => k_is)
    (case z_property => k_is)
    (case z_range => k_is)
    (case z_set => k_is)
    (case z_sorted => k_is)
    (case z_staticmethod => k_is)
    (case z_str => k_is)
    (case z_tuple => k_is)
    (case z_zip => k_is)
    (case g_LETTERS => k_is)
    (case g_FIGURES => k_is)
    (case g_MAX_WORD => k_is)
    (case g_MAX_DEPTH => k_is)
    (case g_MAX_PARTS => k_is)

