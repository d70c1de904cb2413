import PyProof.Rows.All
import Wide.All
import OpenK.AllK
import Wide.FinOn
import KE.KStateDown
import Lean
import HandS.ForMost
import HandS.ForExc
import HandS.IsInst
import HandS.ExcIs
import HandS.Wide
import HandS.Defaults
import HandS.More
import HandS.Head0
import HandS.Head1
import HandS.Head2
import HandS.HeadHook1
import HandS.HeadHook2
import HandS.HeadEnd
import HandS.TryMany
import HandS.HotCalls
import HandS.CallSlots
import HandS.MakeKw
import KE.KExcIs
import HandS.ExcInit
import HandS.ExcField
import HandS.ExcValue
import PySem.Challenge.RW_knell_k10_whole_tower
set_option Elab.async false
set_option linter.all false
set_option maxRecDepth 100000
set_option maxHeartbeats 16000000
/-! A level above the hand layer: values told as plain data, the heap out of sight. -/
namespace Kn
open PySem PySem.Spec L2

/-! ### data -/
inductive D where
  | non | bl (b : Bool) | int (i : Int) | str (s : Str) | tup (ds : List D) | lst (ds : List D) | fro (ds : List D) | obj (v : V) | lsa (p : Addr) (ds : List D)

mutual
inductive Rep (K : PySem.W.Frag) (H : Hp) : V → D → Prop
  | non : Rep K H .non .non
  | bl (b : Bool) : Rep K H (.bl b) (.bl b)
  | int (i : Int) : Rep K H (.int i) (.int i)
  | str (x : Str) : Rep K H (.str x) (.str x)
  | tup {a : Addr} {xs : List V} {ds : List D} : H a = some (.tup xs) → RepAll K H xs ds → Rep K H (.ref a) (.tup ds)
  | lst {a : Addr} {xs : List V} {ds : List D} : H a = some (.lst xs) → RepAll K H xs ds → Rep K H (.ref a) (.lst ds)
  | fro {a : Addr} {xs : List V} {ds : List D} : SqL K H a xs → RepAll K H xs ds → Rep K H (.ref a) (.fro ds)
  | obj (v : V) : Rep K H v (.obj v)
  | lsa {a : Addr} {xs : List V} {ds : List D} : H a = some (.lst xs) → RepAll K H xs ds → Rep K H (.ref a) (.lsa a ds)
inductive RepAll (K : PySem.W.Frag) (H : Hp) : List V → List D → Prop
  | nil : RepAll K H [] []
  | cons {v : V} {vs : List V} {d : D} {ds : List D} : Rep K H v d → RepAll K H vs ds → RepAll K H (v :: vs) (d :: ds)
end

abbrev Le (H H' : Hp) : Prop := ∀ a o, H a = some o → H' a = some o
theorem Le.rd {H H' : Hp} {a : Addr} {u : HO} (e : Le H H') (h : Rd H a u) : Rd H' a u := by
  rcases h with h | ⟨o, h⟩
  · exact .inl (e a _ h)
  · exact .inr ⟨o, e a _ h⟩
theorem Le.l {K : PySem.W.Frag} {H H' : Hp} {a : Addr} {xs : List V} (e : Le H H') (h : SqL K H a xs) : SqL K H' a xs := by
  rcases h with h | h
  · exact .inl (Le.rd e h)
  · exact .inr h
theorem Le.refl (H : Hp) : Le H H := fun _ _ h => h
theorem Le.trans {H H1 H2 : Hp} (a : Le H H1) (b : Le H1 H2) : Le H H2 := fun x o h => b x o (a x o h)
theorem Le.none {H H' : Hp} {p : Addr} (e : Le H H') (h : H' p = Option.none) : H p = Option.none := by
  cases h1 : H p with
  | none => rfl
  | some o =>
    rw [e p o h1] at h
    cases h
theorem Le.new {H : Hp} {p : Addr} {o : HO} (h : H p = Option.none) : Le H (upd H p o) := fun a u e => by
  rw [upd_ne (ne_of_none e h)]
  exact e
/-- an object that H does not know may change -/
theorem Le.mut {H H' : Hp} {p : Addr} {o : HO} (e : Le H H') (h : H p = Option.none) : Le H (upd H' p o) := fun a u ha => by
  rw [upd_ne (ne_of_none ha h)]
  exact e a u ha

section
variable {K : PySem.W.Frag} {H H' : Hp}
mutual
theorem Rep.mono (e : Le H H') : ∀ {v : V} {d : D}, Rep K H v d → Rep K H' v d
  | _, _, .non => .non
  | _, _, .bl b => .bl b
  | _, _, .int i => .int i
  | _, _, .str x => .str x
  | _, _, .tup h r => .tup (e _ _ h) (RepAll.mono e r)
  | _, _, .lst h r => .lst (e _ _ h) (RepAll.mono e r)
  | _, _, .fro h r => .fro (Le.l e h) (RepAll.mono e r)
  | _, _, .obj v => .obj v
  | _, _, .lsa h r => .lsa (e _ _ h) (RepAll.mono e r)
theorem RepAll.mono (e : Le H H') : ∀ {vs : List V} {ds : List D}, RepAll K H vs ds → RepAll K H' vs ds
  | _, _, .nil => .nil
  | _, _, .cons r t => .cons (Rep.mono e r) (RepAll.mono e t)
end
theorem RepAll.length : ∀ {vs : List V} {ds : List D}, RepAll K H vs ds → vs.length = ds.length
  | _, _, .nil => rfl
  | _, _, .cons _ t => congrArg Nat.succ (RepAll.length t)
theorem RepAll.get : ∀ {vs : List V} {ds : List D} {i : Nat} {v : V}, RepAll K H vs ds → vs[i]? = some v → ∃ d, ds[i]? = some d ∧ Rep K H v d
  | _, _, _, _, .nil, e => by simp at e
  | _, _, 0, _, .cons r _, e => by simp at e; subst e; exact ⟨_, rfl, r⟩
  | _, _, i + 1, v, .cons _ t, e => by
    obtain ⟨d, h1, h2⟩ := RepAll.get (i := i) (v := v) t (by simpa using e)
    exact ⟨d, by simpa using h1, h2⟩
theorem RepAll.getD : ∀ {vs : List V} {ds : List D} {i : Nat} {d : D}, RepAll K H vs ds → ds[i]? = some d → ∃ v, vs[i]? = some v ∧ Rep K H v d
  | _, _, _, _, .nil, e => by simp at e
  | _, _, 0, _, .cons r _, e => by simp at e; subst e; exact ⟨_, rfl, r⟩
  | _, _, i + 1, d, .cons _ t, e => by
    obtain ⟨v, h1, h2⟩ := RepAll.getD (i := i) (d := d) t (by simpa using e)
    exact ⟨v, by simpa using h1, h2⟩
theorem RepAll.append : ∀ {vs ws : List V} {ds es : List D}, RepAll K H vs ds → RepAll K H ws es → RepAll K H (vs ++ ws) (ds ++ es)
  | _, _, _, _, .nil, s => s
  | _, _, _, _, .cons r t, s => .cons r (RepAll.append t s)
theorem RepAll.set {v : V} {d : D} (q : Rep K H v d) : ∀ {vs : List V} {ds : List D} (i : Nat), RepAll K H vs ds → RepAll K H (vs.set i v) (ds.set i d)
  | _, _, _, .nil => .nil
  | _, _, 0, .cons _ t => .cons q t
  | _, _, i + 1, .cons r t => .cons r (RepAll.set q i t)
theorem RepAll.take : ∀ {vs : List V} {ds : List D} (n : Nat), RepAll K H vs ds → RepAll K H (vs.take n) (ds.take n)
  | _, _, 0, _ => .nil
  | _, _, _ + 1, .nil => .nil
  | _, _, n + 1, .cons r t => .cons r (RepAll.take n t)
theorem RepAll.drop : ∀ {vs : List V} {ds : List D} (n : Nat), RepAll K H vs ds → RepAll K H (vs.drop n) (ds.drop n)
  | _, _, 0, r => r
  | _, _, _ + 1, .nil => .nil
  | _, _, n + 1, .cons _ t => RepAll.drop n t
theorem RepAll.ints : ∀ (ns : List Int), RepAll K H (ns.map V.int) (ns.map D.int)
  | [] => .nil
  | n :: ns => .cons (.int n) (RepAll.ints ns)
theorem RepAll.ints_inv : ∀ {ns : List Int} {vs : List V}, RepAll K H vs (ns.map D.int) → vs = ns.map V.int
  | [], _, .nil => rfl
  | n :: ns, _, .cons r t => by
    cases r
    rw [RepAll.ints_inv t] <;> rfl
theorem Rep.int_inv {v : V} {i : Int} (r : Rep K H v (.int i)) : v = .int i := by cases r; rfl
theorem Rep.bl_inv {v : V} {b : Bool} (r : Rep K H v (.bl b)) : v = .bl b := by cases r; rfl
theorem Rep.str_inv {v : V} {x : Str} (r : Rep K H v (.str x)) : v = .str x := by cases r; rfl
theorem Rep.non_inv {v : V} (r : Rep K H v .non) : v = .non := by cases r; rfl
theorem Rep.obj_inv {v w : V} (r : Rep K H v (.obj w)) : v = w := by cases r; rfl
/-- a list, of either kind -/
def lstOf : D → Option (List D)
  | .lst ds => some ds
  | .fro ds => some ds
  | .lsa _ ds => some ds
  | _ => none
def seqOf : D → Option (List D)
  | .lst ds => some ds
  | .fro ds => some ds
  | .lsa _ ds => some ds
  | .tup ds => some ds
  | _ => none
theorem Rep.list {v : V} {d : D} {ds : List D} (r : Rep K H v d) (h : lstOf d = some ds) : ∃ a xs, v = .ref a ∧ SqL K H a xs ∧ RepAll K H xs ds := by
  cases r with
  | lst e r => cases h; exact ⟨_, _, rfl, SqL.of e, r⟩
  | fro e r => cases h; exact ⟨_, _, rfl, e, r⟩
  | lsa e r => cases h; exact ⟨_, _, rfl, SqL.of e, r⟩
  | _ => cases h
theorem Rep.seq {v : V} {d : D} {ds : List D} (r : Rep K H v d) (h : seqOf d = some ds) : ∃ a xs, v = .ref a ∧ (SqL K H a xs ∨ SqT K H a xs) ∧ RepAll K H xs ds := by
  cases r with
  | lst e r => cases h; exact ⟨_, _, rfl, .inl (SqL.of e), r⟩
  | fro e r => cases h; exact ⟨_, _, rfl, .inl e, r⟩
  | lsa e r => cases h; exact ⟨_, _, rfl, .inl (SqL.of e), r⟩
  | tup e r => cases h; exact ⟨_, _, rfl, .inr (SqT.of e), r⟩
  | _ => cases h
theorem Rep.tup_inv {v : V} {ds : List D} (r : Rep K H v (.tup ds)) : ∃ a xs, v = .ref a ∧ H a = some (.tup xs) ∧ RepAll K H xs ds := by
  cases r with
  | tup e r => exact ⟨_, _, rfl, e, r⟩
theorem Rep.lst_inv {v : V} {ds : List D} (r : Rep K H v (.lst ds)) : ∃ a xs, v = .ref a ∧ H a = some (.lst xs) ∧ RepAll K H xs ds := by
  cases r with
  | lst e r => exact ⟨_, _, rfl, e, r⟩
end

/-! ### how the heap grows; what a state is -/
structure Gr (Hv H Hv' H' : Hp) : Prop where
  big : Le H H'
  vis : Le Hv Hv'
  sub : Le Hv' H'
  old : ∀ a, H a ≠ none → Hv' a = Hv a
theorem Gr.refl {Hv H : Hp} (s : Le Hv H) : Gr Hv H Hv H := ⟨Le.refl _, Le.refl _, s, fun _ _ => rfl⟩
theorem Gr.trans {Hv H Hv1 H1 Hv2 H2 : Hp} (a : Gr Hv H Hv1 H1) (b : Gr Hv1 H1 Hv2 H2) : Gr Hv H Hv2 H2 :=
  ⟨Le.trans a.big b.big, Le.trans a.vis b.vis, b.sub, fun x hx => by
    rw [b.old x ?_, a.old x hx]
    intro z
    cases e : H x with
    | none => exact hx e
    | some o =>
      rw [a.big x o e] at z
      cases z⟩
theorem Gr.new {Hv H : Hp} {p : Addr} {o : HO} (s : Le Hv H) (hp : H p = none) : Gr Hv H (upd Hv p o) (upd H p o) :=
  ⟨Le.new hp, Le.new (Le.none s hp), fun a u e => by
    by_cases h : a = p
    · subst h
      rw [upd_same] at e ⊢
      exact e
    · rw [upd_ne h] at e ⊢
      exact s a u e, fun a ha => by
    rw [upd_ne]
    rintro rfl
    exact ha hp⟩
/-- a new object that is not shown -/
theorem Gr.hid {Hv H Hv' H' : Hp} {p : Addr} {o : HO} (g : Gr Hv H Hv' H') (hp : H p = none) (hv : Hv' p = none) : Gr Hv H Hv' (upd H' p o) :=
  ⟨Le.mut g.big hp, g.vis, fun a u e => by
    rw [upd_ne (ne_of_none e hv)]
    exact g.sub a u e, g.old⟩
/-- a hidden object is shown -/
theorem Gr.show' {Hv H Hv' H' : Hp} {p : Addr} {o : HO} (g : Gr Hv H Hv' H') (hp : H p = none) (hv : Hv' p = none) (ho : H' p = some o) : Gr Hv H (upd Hv' p o) H' :=
  ⟨g.big, Le.trans g.vis (Le.new hv), fun a u e => by
    by_cases h : a = p
    · subst h
      rw [upd_same] at e
      rw [ho, e]
    · rw [upd_ne h] at e
      exact g.sub a u e, fun a ha => by
    rw [upd_ne ?_]
    · exact g.old a ha
    · rintro rfl
      exact ha hp⟩

inductive SD where
  | dat (d : D) | own (ds : List D)
abbrev Rho := List (Option SD)
/-- the entry's heaps, the scope's visible heap -/
structure Bs where
  v : Hp
  h : Hp
  s : Hp
structure At (K : PySem.W.Frag) (b : Bs) (σ : L2.St) (Hv H : Hp) (ρ : Rho) : Prop where
  gr : Gr b.v b.h Hv H
  sc : Le b.s Hv
  len : σ.length = ρ.length
  dat : ∀ (i : Nat) (d : D), ρ[i]? = some (some (.dat d)) → ∃ v, σ[i]? = some (some v) ∧ Rep K Hv v d
  own : ∀ (i : Nat) (ds : List D), ρ[i]? = some (some (.own ds)) → ∃ p xs, σ[i]? = some (some (.ref p)) ∧ Hv p = none ∧ b.h p = none ∧ H p = some (.lst xs) ∧ RepAll K Hv xs ds
  dis : ∀ (i j : Nat) (p : Addr) (ds es : List D), i ≠ j → ρ[i]? = some (some (.own ds)) → ρ[j]? = some (some (.own es)) → σ[i]? = some (some (.ref p)) → σ[j]? ≠ some (some (.ref p))
section
variable {K : PySem.W.Frag} {b : Bs} {σ : L2.St} {Hv H Hv' H' : Hp} {ρ : Rho}
theorem At.grow (A : At K b σ Hv H ρ) (g : Gr Hv H Hv' H') : At K b σ Hv' H' ρ := by
  refine ⟨A.gr.trans g, Le.trans A.sc g.vis, A.len, fun i d h => ?_, fun i ds h => ?_, A.dis⟩
  · obtain ⟨v, e, r⟩ := A.dat i d h
    exact ⟨v, e, r.mono g.vis⟩
  · obtain ⟨p, xs, e, h1, h2, h3, r⟩ := A.own i ds h
    refine ⟨p, xs, e, ?_, h2, g.big _ _ h3, r.mono g.vis⟩
    rw [g.old p (by rw [h3]; exact fun z => nomatch z)]
    exact h1
theorem At.sub (A : At K b σ Hv H ρ) : Le Hv H := A.gr.sub
/-- a slot is set to data -/
theorem At.setDat {i : Nat} {v : V} {d : D} (A : At K b σ Hv H ρ) (r : Rep K Hv v d) : At K b (σ.set i (some v)) Hv H (ρ.set i (some (.dat d))) := by
  refine ⟨A.gr, A.sc, by simp [A.len], fun j e h => ?_, fun j ds h => ?_, fun j k p ds es hjk h1 h2 h3 => ?_⟩
  · by_cases hj : i = j
    · subst hj
      by_cases hl : i < ρ.length
      · rw [List.getElem?_set_self hl] at h
        cases h
        exact ⟨v, List.getElem?_set_self (by rw [A.len]; exact hl), r⟩
      · rw [List.getElem?_eq_none (by simpa using hl)] at h
        cases h
    · rw [List.getElem?_set_ne hj] at h
      obtain ⟨w, e1, r1⟩ := A.dat j e h
      exact ⟨w, by rw [List.getElem?_set_ne hj]; exact e1, r1⟩
  · have hj : i ≠ j := by
      rintro rfl
      by_cases hl : i < ρ.length
      · rw [List.getElem?_set_self hl] at h
        cases h
      · rw [List.getElem?_eq_none (by simpa using hl)] at h
        cases h
    rw [List.getElem?_set_ne hj] at h
    obtain ⟨p, xs, e1, q⟩ := A.own j ds h
    exact ⟨p, xs, by rw [List.getElem?_set_ne hj]; exact e1, q⟩
  · have ne : ∀ {j : Nat} {ds : List D}, (ρ.set i (some (.dat d)))[j]? = some (some (.own ds)) → i ≠ j := fun {j ds} h => by
      rintro rfl
      by_cases hl : i < ρ.length
      · rw [List.getElem?_set_self hl] at h
        cases h
      · rw [List.getElem?_eq_none (by simpa using hl)] at h
        cases h
    have n1 := ne h1
    have n2 := ne h2
    rw [List.getElem?_set_ne n1] at h1 h3
    rw [List.getElem?_set_ne n2] at h2 ⊢
    exact A.dis j k p ds es hjk h1 h2 h3
/-- a slot is forgotten -/
theorem At.forget {i : Nat} {o : Option V} (A : At K b σ Hv H ρ) : At K b (σ.set i o) Hv H (ρ.set i none) := by
  have ne : ∀ {j : Nat} {s : SD}, (ρ.set i none)[j]? = some (some s) → i ≠ j := fun {j s} h => by
    rintro rfl
    by_cases hl : i < ρ.length
    · rw [List.getElem?_set_self hl] at h
      cases h
    · rw [List.getElem?_eq_none (by simpa using hl)] at h
      cases h
  refine ⟨A.gr, A.sc, by simp [A.len], fun j e h => ?_, fun j ds h => ?_, fun j k p ds es hjk h1 h2 h3 => ?_⟩
  · have n := ne h
    rw [List.getElem?_set_ne n] at h
    obtain ⟨w, e1, r1⟩ := A.dat j e h
    exact ⟨w, by rw [List.getElem?_set_ne n]; exact e1, r1⟩
  · have n := ne h
    rw [List.getElem?_set_ne n] at h
    obtain ⟨p, xs, e1, q⟩ := A.own j ds h
    exact ⟨p, xs, by rw [List.getElem?_set_ne n]; exact e1, q⟩
  · have n1 := ne h1
    have n2 := ne h2
    rw [List.getElem?_set_ne n1] at h1 h3
    rw [List.getElem?_set_ne n2] at h2 ⊢
    exact A.dis j k p ds es hjk h1 h2 h3
/-- less is known -/
theorem At.weak {ρ' : Rho} (A : At K b σ Hv H ρ) (hl : ρ'.length = ρ.length) (h : ∀ (i : Nat) (s : SD), ρ'[i]? = some (some s) → ρ[i]? = some (some s)) : At K b σ Hv H ρ' :=
  ⟨A.gr, A.sc, A.len.trans hl.symm, fun i d e => A.dat i d (h i _ e), fun i ds e => A.own i ds (h i _ e), fun i j p ds es hij h1 h2 h3 => A.dis i j p ds es hij (h i _ h1) (h j _ h2) h3⟩
/-- a new list that the frame alone knows -/
theorem At.setOwn {i : Nat} {p : Addr} {xs : List V} {ds : List D} (A : At K b σ Hv H ρ) (hv : Hv p = none) (hb : b.h p = none) (ho : H p = some (.lst xs)) (r : RepAll K Hv xs ds)
    (nw : ∀ (j : Nat) (es : List D), j ≠ i → ρ[j]? = some (some (.own es)) → σ[j]? ≠ some (some (.ref p))) : At K b (σ.set i (some (.ref p))) Hv H (ρ.set i (some (.own ds))) := by
  refine ⟨A.gr, A.sc, by simp [A.len], fun j e h => ?_, fun j es h => ?_, fun j k q es fs hjk h1 h2 h3 => ?_⟩
  · have hj : i ≠ j := by
      rintro rfl
      by_cases hl : i < ρ.length
      · rw [List.getElem?_set_self hl] at h
        cases h
      · rw [List.getElem?_eq_none (by simpa using hl)] at h
        cases h
    rw [List.getElem?_set_ne hj] at h
    obtain ⟨w, e1, r1⟩ := A.dat j e h
    exact ⟨w, by rw [List.getElem?_set_ne hj]; exact e1, r1⟩
  · by_cases hj : i = j
    · subst hj
      by_cases hl : i < ρ.length
      · rw [List.getElem?_set_self hl] at h
        cases h
        exact ⟨p, xs, List.getElem?_set_self (by rw [A.len]; exact hl), hv, hb, ho, r⟩
      · rw [List.getElem?_eq_none (by simpa using hl)] at h
        cases h
    · rw [List.getElem?_set_ne hj] at h
      obtain ⟨q, ys, e1, z⟩ := A.own j es h
      exact ⟨q, ys, by rw [List.getElem?_set_ne hj]; exact e1, z⟩
  · have ln : ∀ {j : Nat} {es : List D}, (ρ.set i (some (.own ds)))[j]? = some (some (.own es)) → j < σ.length := fun {j es} h => by
      have := (List.getElem?_eq_some_iff.mp h).1
      rw [List.length_set] at this
      rw [A.len]
      exact this
    by_cases hj : i = j
    · subst hj
      rw [List.getElem?_set_self (ln h1)] at h3
      have eq : p = q := by simpa using h3
      subst eq
      rw [List.getElem?_set_ne hjk] at h2 ⊢
      exact nw k fs (Ne.symm hjk) h2
    · rw [List.getElem?_set_ne hj] at h1 h3
      by_cases hk : i = k
      · subst hk
        rw [List.getElem?_set_self (ln h2)]
        intro z
        have eq : p = q := by simpa using z
        subst eq
        exact nw j es (Ne.symm hj) h1 h3
      · rw [List.getElem?_set_ne hk] at h2 ⊢
        exact A.dis j k q es fs hjk h1 h2 h3
end
end Kn
namespace Kn
open PySem PySem.Spec L2

/-! ### judgements: what an expression, a test, arguments come to -/
section
variable (K : PySem.W.Frag) (b : Bs)
def EvD (te : TE) (ρ : Rho) (d : D) : Prop := ∀ (σ : L2.St) (Hv H : Hp) (Q : VK), At K b σ Hv H ρ → (∀ v Hv' H', Gr Hv H Hv' H' → Rep K Hv' v d → Q v H') → te σ H Q
/-- a new list that is not yet shown -/
def EvF (te : TE) (ρ : Rho) (ds : List D) : Prop := ∀ (σ : L2.St) (Hv H : Hp) (Q : VK), At K b σ Hv H ρ →
  (∀ p xs Hv' H', Gr Hv H Hv' H' → H p = none → Hv' p = none → H' p = some (.lst xs) → RepAll K Hv' xs ds → Q (.ref p) H') → te σ H Q
def EvB (tt : TT) (ρ : Rho) (c : Bool) : Prop := ∀ (σ : L2.St) (Hv H : Hp) (Q : Bool → Hp → Prop), At K b σ Hv H ρ → (∀ Hv' H', Gr Hv H Hv' H' → Q c H') → tt σ H Q
def EvA (ta : TA) (ρ : Rho) (ds : List D) : Prop := ∀ (σ : L2.St) (Hv H : Hp) (Q : List V → Hp → Prop), At K b σ Hv H ρ → (∀ vs Hv' H', Gr Hv H Hv' H' → RepAll K Hv' vs ds → Q vs H') → ta σ H Q
def EvO (to : TO) (ρ : Rho) (o : Option Int) : Prop := ∀ (σ : L2.St) (Hv H : Hp) (Q : Option Int → Hp → Prop), At K b σ Hv H ρ → (∀ Hv' H', Gr Hv H Hv' H' → Q o H') → to σ H Q
end
/-- operations by data -/
def RD (K : PySem.W.Frag) (r : R2) (d e z : D) : Prop := ∀ (x y : V) (Hv H : Hp) (Q : VK), Le Hv H → Rep K Hv x d → Rep K Hv y e → (∀ v Hv' H', Gr Hv H Hv' H' → Rep K Hv' v z → Q v H') → r x y H Q
def UD (K : PySem.W.Frag) (r : V → Hp → VK → Prop) (d z : D) : Prop := ∀ (x : V) (Hv H : Hp) (Q : VK), Le Hv H → Rep K Hv x d → (∀ v Hv' H', Gr Hv H Hv' H' → Rep K Hv' v z → Q v H') → r x H Q
def CD (K : PySem.W.Frag) (r : List V → Hp → VK → Prop) (ds : List D) (z : D) : Prop := ∀ (xs : List V) (Hv H : Hp) (Q : VK), Le Hv H → RepAll K Hv xs ds → (∀ v Hv' H', Gr Hv H Hv' H' → Rep K Hv' v z → Q v H') → r xs H Q

section
variable {K : PySem.W.Frag} {b : Bs} {ρ : Rho} {te ta tb tc : TE} {tt tu : TT} {tA : TA} {d e z f : D} {ds : List D}
theorem evd_is (h : EvD K b te ρ d) (e : d = z) : EvD K b te ρ z := e ▸ h
theorem evb_is {c c' : Bool} (h : EvB K b tt ρ c) (e : c = c') : EvB K b tt ρ c' := e ▸ h
theorem evd_var {i : Nat} (h : ρ[i]? = some (some (.dat d))) : EvD K b (tVar i) ρ d := fun σ Hv H Q A q => by
  obtain ⟨v, e, r⟩ := A.dat i d h
  exact ⟨v, e, q v Hv H (Gr.refl A.sub) r⟩
theorem evd_c {v : V} (r : ∀ H, Rep K H v d) : EvD K b (tC v) ρ d := fun σ Hv H Q A q => q v Hv H (Gr.refl A.sub) (r Hv)
theorem evd_int {i : Int} : EvD K b (tC (.int i)) ρ (.int i) := evd_c fun _ => .int i
theorem evd_bl {c : Bool} : EvD K b (tC (.bl c)) ρ (.bl c) := evd_c fun _ => .bl c
theorem evd_str {x : Str} : EvD K b (tC (.str x)) ρ (.str x) := evd_c fun _ => .str x
theorem evd_non : EvD K b (tC .non) ρ .non := evd_c fun _ => .non
theorem evd_obj {v : V} : EvD K b (tC v) ρ (.obj v) := evd_c fun _ => .obj v
theorem evd_op {r : R2} (ha : EvD K b ta ρ d) (hb : EvD K b tb ρ e) (hr : RD K r d e z) : EvD K b (tOp r ta tb) ρ z := fun σ Hv H Q A q =>
  ha σ Hv H _ A fun x Hv1 H1 g1 r1 => hb σ Hv1 H1 _ (A.grow g1) fun y Hv2 H2 g2 r2 =>
    hr x y Hv2 H2 Q g2.sub (r1.mono g2.vis) r2 fun v Hv3 H3 g3 r3 => q v Hv3 H3 ((g1.trans g2).trans g3) r3
theorem evd_un {r : V → Hp → VK → Prop} (ha : EvD K b ta ρ d) (hr : UD K r d z) : EvD K b (tUn r ta) ρ z := fun σ Hv H Q A q =>
  ha σ Hv H _ A fun x Hv1 H1 g1 r1 => hr x Hv1 H1 Q g1.sub r1 fun v Hv3 H3 g3 r3 => q v Hv3 H3 (g1.trans g3) r3
theorem eva_nil : EvA K b tNil ρ [] := fun σ Hv H Q A q => q [] Hv H (Gr.refl A.sub) .nil
theorem eva_cons (ha : EvD K b ta ρ d) (hr : EvA K b tA ρ ds) : EvA K b (tCons ta tA) ρ (d :: ds) := fun σ Hv H Q A q =>
  ha σ Hv H _ A fun x Hv1 H1 g1 r1 => hr σ Hv1 H1 _ (A.grow g1) fun vs Hv2 H2 g2 r2 => q (x :: vs) Hv2 H2 (g1.trans g2) (.cons (r1.mono g2.vis) r2)
theorem evd_cb {r : List V → Hp → VK → Prop} (ha : EvA K b tA ρ ds) (hr : CD K r ds z) : EvD K b (tCB r tA) ρ z := fun σ Hv H Q A q =>
  ha σ Hv H _ A fun xs Hv1 H1 g1 r1 => hr xs Hv1 H1 Q g1.sub r1 fun v Hv3 H3 g3 r3 => q v Hv3 H3 (g1.trans g3) r3
/-- a new list, shown -/
theorem evd_f (h : EvF K b te ρ ds) : EvD K b te ρ (.lst ds) := fun σ Hv H Q A q =>
  h σ Hv H Q A fun p xs Hv' H' g hp hv ho r => q (.ref p) (upd Hv' p (.lst xs)) H' (g.show' hp hv ho) (.lst upd_same (r.mono (Le.new hv)))
theorem evf_lst (ha : EvA K b tA ρ ds) (hz : ds.length ≤ 100000) : EvF K b (tLst tA) ρ ds := fun σ Hv H Q A q =>
  ha σ Hv H _ A fun xs Hv1 H1 g1 r1 => by
    refine ⟨by rw [r1.length]; exact Nat.le_trans hz (by decide), fun p hp => ?_⟩
    have hp0 : H p = none := Le.none g1.big hp
    have hv0 : Hv1 p = none := Le.none g1.sub hp
    exact q p xs Hv1 _ (g1.hid hp0 hv0) hp0 hv0 upd_same r1
theorem evd_lst (ha : EvA K b tA ρ ds) (hz : ds.length ≤ 100000) : EvD K b (tLst tA) ρ (.lst ds) := evd_f (evf_lst ha hz)
theorem evd_tup (ha : EvA K b tA ρ ds) (hz : ds.length ≤ 100000) : EvD K b (tTup tA) ρ (.tup ds) := fun σ Hv H Q A q =>
  ha σ Hv H _ A fun xs Hv1 H1 g1 r1 => by
    refine ⟨by rw [r1.length]; exact Nat.le_trans hz (by decide), fun p hp => ?_⟩
    have hv0 : Hv1 p = none := Le.none g1.sub hp
    exact q (.ref p) _ _ (g1.trans (Gr.new g1.sub hp)) (.tup upd_same (r1.mono (Le.new hv0)))
/-! tests -/
theorem evb_test {c : Bool} (h : EvD K b te ρ (.bl c)) : EvB K b (tTest te) ρ c := fun σ Hv H Q A q =>
  h σ Hv H _ A fun v Hv1 H1 g r => ⟨c, r.bl_inv, q Hv1 H1 g⟩
theorem evb_B {c : Bool} (h : EvD K b te ρ (.bl c)) : EvB K b (tB te) ρ c := fun σ Hv H Q A q =>
  h σ Hv H _ A fun v Hv1 H1 g r => ⟨c, r.bl_inv, q Hv1 H1 g⟩
theorem evb_not {c : Bool} (h : EvB K b tt ρ c) : EvB K b (tNot tt) ρ (!c) := fun σ Hv H Q A q => h σ Hv H _ A fun Hv1 H1 g => q Hv1 H1 g
theorem evb_and {c c' : Bool} (h : EvB K b tt ρ c) (h2 : c = true → EvB K b tu ρ c') : EvB K b (tAnd tt tu) ρ (c && c') := fun σ Hv H Q A q => h σ Hv H _ A fun Hv1 H1 g => by
  cases c with
  | true =>
    show tu σ H1 Q
    exact h2 rfl σ Hv1 H1 Q (A.grow g) fun Hv2 H2 g2 => q Hv2 H2 (g.trans g2)
  | false =>
    show Q false H1
    exact q Hv1 H1 g
theorem evb_or {c c' : Bool} (h : EvB K b tt ρ c) (h2 : c = false → EvB K b tu ρ c') : EvB K b (tOr tt tu) ρ (c || c') := fun σ Hv H Q A q => h σ Hv H _ A fun Hv1 H1 g => by
  cases c with
  | true =>
    show Q true H1
    exact q Hv1 H1 g
  | false =>
    show tu σ H1 Q
    exact h2 rfl σ Hv1 H1 Q (A.grow g) fun Hv2 H2 g2 => q Hv2 H2 (g.trans g2)
theorem evd_andV {c c' : Bool} (h : EvD K b ta ρ (.bl c)) (h2 : c = true → EvD K b tb ρ (.bl c')) : EvD K b (tAndV ta tb) ρ (.bl (c && c')) := fun σ Hv H Q A q => h σ Hv H _ A fun v Hv1 H1 g r => ⟨c, r.bl_inv, by
  cases c with
  | true =>
    show tb σ H1 Q
    exact h2 rfl σ Hv1 H1 Q (A.grow g) fun v2 Hv2 H2 g2 r2 => q v2 Hv2 H2 (g.trans g2) r2
  | false =>
    show Q (.bl false) H1
    exact q _ Hv1 H1 g (.bl false)⟩
theorem evd_orV {c c' : Bool} (h : EvD K b ta ρ (.bl c)) (h2 : c = false → EvD K b tb ρ (.bl c')) : EvD K b (tOrV ta tb) ρ (.bl (c || c')) := fun σ Hv H Q A q => h σ Hv H _ A fun v Hv1 H1 g r => ⟨c, r.bl_inv, by
  cases c with
  | true =>
    show Q (.bl true) H1
    exact q _ Hv1 H1 g (.bl true)
  | false =>
    show tb σ H1 Q
    exact h2 rfl σ Hv1 H1 Q (A.grow g) fun v2 Hv2 H2 g2 r2 => q v2 Hv2 H2 (g.trans g2) r2⟩
theorem evd_notV {c : Bool} (h : EvD K b ta ρ (.bl c)) : EvD K b (tNotV ta) ρ (.bl (!c)) := fun σ Hv H Q A q => h σ Hv H _ A fun v Hv1 H1 g r => ⟨c, r.bl_inv, q _ Hv1 H1 g (.bl _)⟩
theorem evd_chain {r r' : R2} {c c' : Bool} (ha : EvD K b ta ρ d) (hb : EvD K b tb ρ e) (hr : RD K r d e (.bl c)) (hc : c = true → EvD K b tc ρ f) (hr' : c = true → RD K r' e f (.bl c')) : EvD K b (tChain r r' ta tb tc) ρ (.bl (c && c')) := fun σ Hv H Q A q =>
  ha σ Hv H _ A fun x Hv1 H1 g1 r1 => hb σ Hv1 H1 _ (A.grow g1) fun y Hv2 H2 g2 r2 =>
    hr x y Hv2 H2 _ g2.sub (r1.mono g2.vis) r2 fun v Hv3 H3 g3 r3 => ⟨c, r3.bl_inv, by
      cases c with
      | true =>
        show tc σ H3 _
        exact hc rfl σ Hv3 H3 _ (A.grow ((g1.trans g2).trans g3)) fun w Hv4 H4 g4 r4 => hr' rfl y w Hv4 H4 Q g4.sub (r2.mono (Le.trans g3.vis g4.vis)) r4 fun v5 Hv5 H5 g5 r5 => q v5 Hv5 H5 ((((g1.trans g2).trans g3).trans g4).trans g5) r5
      | false =>
        show Q (.bl false) H3
        exact q _ Hv3 H3 ((g1.trans g2).trans g3) (.bl false)⟩
theorem evd_isN {c : Bool} (ha : EvD K b ta ρ d) (hc : ∀ H v, Rep K H v d → decide (v = .non) = c) : EvD K b (tIsN ta) ρ (.bl c) := fun σ Hv H Q A q =>
  ha σ Hv H _ A fun x Hv1 H1 g1 r1 => by
    show Q (.bl (decide (x = .non))) H1
    rw [hc Hv1 x r1]
    exact q _ Hv1 H1 g1 (.bl _)
theorem evd_notN {c : Bool} (ha : EvD K b ta ρ d) (hc : ∀ H v, Rep K H v d → decide (v = .non) = c) : EvD K b (tNotN ta) ρ (.bl (!c)) := fun σ Hv H Q A q =>
  ha σ Hv H _ A fun x Hv1 H1 g1 r1 => by
    show Q (.bl (!decide (x = .non))) H1
    rw [hc Hv1 x r1]
    exact q _ Hv1 H1 g1 (.bl _)
def isNon : D → Bool
  | .non => true
  | _ => false
def notObj : D → Bool
  | .obj _ => false
  | _ => true
theorem rep_non (h : notObj d = true) : ∀ (H : Hp) (v : V), Rep K H v d → decide (v = .non) = isNon d := fun H v r => by
  cases r with
  | obj v => cases h
  | _ => simp [isNon]
end

/-! ### operations -/
section
variable {K : PySem.W.Frag} {d e z : D}
theorem rd_int {C : Int → Int → Prop} {g : Int → Int → Int} {i j : Int} (h : C i j) : RD K (rI C fun i j => .int (g i j)) (.int i) (.int j) (.int (g i j)) := fun x y Hv H Q l r1 r2 q =>
  ⟨i, j, r1.int_inv, r2.int_inv, h, q _ Hv H (Gr.refl l) (.int _)⟩
theorem rd_int0 {g : Int → Int → Int} {i j : Int} : RD K (rI0 fun i j => .int (g i j)) (.int i) (.int j) (.int (g i j)) := fun x y Hv H Q l r1 r2 q =>
  ⟨i, j, r1.int_inv, r2.int_inv, q _ Hv H (Gr.refl l) (.int _)⟩
theorem rd_cmp {g : Int → Int → Bool} {i j : Int} : RD K (rI0 fun i j => .bl (g i j)) (.int i) (.int j) (.bl (g i j)) := fun x y Hv H Q l r1 r2 q =>
  ⟨i, j, r1.int_inv, r2.int_inv, q _ Hv H (Gr.refl l) (.bl _)⟩
theorem RD.l {r r' : R2} (h : RD K r d e z) : RD K (fun x y H Q => r x y H Q ∨ r' x y H Q) d e z := fun x y Hv H Q l r1 r2 q => .inl (h x y Hv H Q l r1 r2 q)
theorem RD.r {r r' : R2} (h : RD K r' d e z) : RD K (fun x y H Q => r x y H Q ∨ r' x y H Q) d e z := fun x y Hv H Q l r1 r2 q => .inr (h x y Hv H Q l r1 r2 q)
abbrev rStrAdd : R2 := fun x y H Q => ∃ i j, x = .str i ∧ y = .str j ∧ i.length + j.length ≤ sizeLine ∧ Q (.str (i ++ j)) H
/-- + of ints, of texts, of lists -/
def rAddA : R2 := fun x y H Q => (rI0 (fun i j => .int (i + j)) x y H Q ∨ rStrAdd x y H Q) ∨ rCat x y H Q
abbrev rSubI : R2 := rI0 fun i j => .int (i - j)
abbrev rMulI : R2 := rI IntMulOk fun i j => .int (i * j)
def CDivN' (_ j : Int) : Prop := j ≠ 0 ∧ j.natAbs.log2 < 9000
abbrev rDivI : R2 := rI CDivN' fun i j => .int (i.fdiv j)
abbrev rModI : R2 := rI (fun _ j => 0 < j) fun i j => .int (i % j)
abbrev rPowI : R2 := rI CPow fun i j => .int (i ^ j.toNat)
abbrev rLtI : R2 := rI0 fun i j => .bl (decide (i < j))
abbrev rLeI : R2 := rI0 fun i j => .bl (decide (i ≤ j))
abbrev rGtI : R2 := rI0 fun i j => .bl (decide (j < i))
abbrev rGeI : R2 := rI0 fun i j => .bl (decide (j ≤ i))
def rEqA (K : PySem.W.Frag) : R2 := fun x y H Q => rEq x y H Q ∨ rEqD K x y H Q
def rNeA (K : PySem.W.Frag) : R2 := fun x y H Q => rNe x y H Q ∨ rNeD K x y H Q
section
variable {X : Cx}
theorem op_addA : OpR X (binaryOp .Add) rAddA := (op_add.or op_add_str).or op_cat
theorem op_mulI : OpR X (binaryOp .Mult) rMulI := opI fun _ _ _ _ _ _ _ hc q => PyProof.Rows.mul_int q hc
theorem op_divI : OpR X (binaryOp .FloorDiv) rDivI := opI fun i j _ _ _ _ _ hc q => PyProof.Rows.floordiv_int hc.1 q (.inl (PyProof.noPylong_of_log2 hc.2))
theorem op_eqA (hu : X.A.units + 64 < cLine) : OpR X (compareOp .Eq) (rEqA X.K) := op_eq.or (op_eqD hu)
theorem op_neA (hu : X.A.units + 64 < cLine) : OpR X (compareOp .NotEq) (rNeA X.K) := op_ne.or (op_neD hu)
end
theorem rd_add {i j : Int} : RD K rAddA (.int i) (.int j) (.int (i + j)) := RD.l (RD.l rd_int0)
theorem rd_addS {i j : Str} (h : i.length + j.length ≤ 100000) : RD K rAddA (.str i) (.str j) (.str (i ++ j)) := RD.l (RD.r fun x y Hv H Q l r1 r2 q =>
  ⟨i, j, r1.str_inv, r2.str_inv, Nat.le_trans h (by decide), q _ Hv H (Gr.refl l) (.str _)⟩)
theorem rd_addL {ds es : List D} (h : ds.length + es.length ≤ 100000) : RD K rAddA (.lst ds) (.lst es) (.lst (ds ++ es)) := RD.r fun x y Hv H Q l r1 r2 q => by
  obtain ⟨a, xs, rfl, h1, q1⟩ := r1.lst_inv
  obtain ⟨c, ys, rfl, h2, q2⟩ := r2.lst_inv
  refine ⟨a, c, xs, ys, rfl, rfl, l _ _ h1, l _ _ h2, by rw [q1.length, q2.length]; exact Nat.le_trans h (by decide), fun p hp => ?_⟩
  have hv := Le.none l hp
  exact q _ _ _ (Gr.new l hp) (.lst upd_same ((q1.append q2).mono (Le.new hv)))
theorem rd_sub {i j : Int} : RD K rSubI (.int i) (.int j) (.int (i - j)) := rd_int0
theorem rd_mul {i j : Int} (h : IntMulOk i j) : RD K rMulI (.int i) (.int j) (.int (i * j)) := rd_int h
theorem rd_div {i j : Int} (h : CDivN' i j) : RD K rDivI (.int i) (.int j) (.int (i.fdiv j)) := rd_int h
theorem rd_divP {i j : Int} (h0 : 0 < j) (h : j.natAbs.log2 < 9000) : RD K rDivI (.int i) (.int j) (.int (i / j)) := by
  have e : i.fdiv j = i / j := Int.fdiv_eq_ediv_of_nonneg i (by omega)
  rw [← e]
  exact rd_int ⟨by omega, h⟩
theorem rd_mod {i j : Int} (h : 0 < j) : RD K rModI (.int i) (.int j) (.int (i % j)) := rd_int h
theorem rd_pow {i j : Int} (h : CPow i j) : RD K rPowI (.int i) (.int j) (.int (i ^ j.toNat)) := rd_int h
theorem rd_lt {i j : Int} : RD K rLtI (.int i) (.int j) (.bl (decide (i < j))) := rd_cmp
theorem rd_le {i j : Int} : RD K rLeI (.int i) (.int j) (.bl (decide (i ≤ j))) := rd_cmp
theorem rd_gt {i j : Int} : RD K rGtI (.int i) (.int j) (.bl (decide (j < i))) := rd_cmp
theorem rd_ge {i j : Int} : RD K rGeI (.int i) (.int j) (.bl (decide (j ≤ i))) := rd_cmp
/-! == -/
theorem rd_eqI {i j : Int} : RD K (rEqA K) (.int i) (.int j) (.bl (decide (i = j))) := RD.l fun x y Hv H Q l r1 r2 q => by
  have e1 := r1.int_inv
  have e2 := r2.int_inv
  subst e1 e2
  refine ⟨rfl, ?_⟩
  rw [show decide (V.int i = V.int j) = decide (i = j) by simp]
  exact q _ Hv H (Gr.refl l) (.bl _)
theorem rd_neI {i j : Int} : RD K (rNeA K) (.int i) (.int j) (.bl (!decide (i = j))) := RD.l fun x y Hv H Q l r1 r2 q => by
  have e1 := r1.int_inv
  have e2 := r2.int_inv
  subst e1 e2
  refine ⟨rfl, ?_⟩
  rw [show decide (V.int i = V.int j) = decide (i = j) by simp]
  exact q _ Hv H (Gr.refl l) (.bl _)
theorem rd_eqS {i j : Str} : RD K (rEqA K) (.str i) (.str j) (.bl (decide (i = j))) := RD.l fun x y Hv H Q l r1 r2 q => by
  have e1 := r1.str_inv
  have e2 := r2.str_inv
  subst e1 e2
  refine ⟨rfl, ?_⟩
  rw [show decide (V.str i = V.str j) = decide (i = j) by simp]
  exact q _ Hv H (Gr.refl l) (.bl _)
theorem rd_neS {i j : Str} : RD K (rNeA K) (.str i) (.str j) (.bl (!decide (i = j))) := RD.l fun x y Hv H Q l r1 r2 q => by
  have e1 := r1.str_inv
  have e2 := r2.str_inv
  subst e1 e2
  refine ⟨rfl, ?_⟩
  rw [show decide (V.str i = V.str j) = decide (i = j) by simp]
  exact q _ Hv H (Gr.refl l) (.bl _)
theorem rd_eqB {i j : Bool} : RD K (rEqA K) (.bl i) (.bl j) (.bl (decide (i = j))) := RD.l fun x y Hv H Q l r1 r2 q => by
  have e1 := r1.bl_inv
  have e2 := r2.bl_inv
  subst e1 e2
  refine ⟨rfl, ?_⟩
  rw [show decide (V.bl i = V.bl j) = decide (i = j) by simp]
  exact q _ Hv H (Gr.refl l) (.bl _)
theorem rd_neB {i j : Bool} : RD K (rNeA K) (.bl i) (.bl j) (.bl (!decide (i = j))) := RD.l fun x y Hv H Q l r1 r2 q => by
  have e1 := r1.bl_inv
  have e2 := r2.bl_inv
  subst e1 e2
  refine ⟨rfl, ?_⟩
  rw [show decide (V.bl i = V.bl j) = decide (i = j) by simp]
  exact q _ Hv H (Gr.refl l) (.bl _)
end
/-! == of data at any depth -/
mutual
def D.py : D → PyData
  | .non => .none
  | .bl b => .bool b
  | .int i => .int i
  | .str s => .str s
  | .tup ds => .tuple (pyAll ds)
  | .lst ds => .list (pyAll ds)
  | .fro ds => .list (pyAll ds)
  | .lsa _ ds => .list (pyAll ds)
  | .obj _ => .none
def pyAll : List D → List PyData
  | [] => []
  | d :: ds => d.py :: pyAll ds
end
mutual
/-- nothing opaque in it -/
def D.plain : D → Bool
  | .tup ds => plainAll ds
  | .lst ds => plainAll ds
  | .fro ds => plainAll ds
  | .lsa _ ds => plainAll ds
  | .obj _ => false
  | _ => true
def plainAll : List D → Bool
  | [] => true
  | d :: ds => d.plain && plainAll ds
end
section
variable {K : PySem.W.Frag} {H : Hp}
mutual
theorem Rep.dp : ∀ {v : V} {d : D}, Rep K H v d → d.plain = true → Dp K H v d.py
  | _, _, .non, _ => .non
  | _, _, .bl b, _ => .bl b
  | _, _, .int i, _ => .int i
  | _, _, .str x, _ => .str x
  | _, _, .tup h r, p => .tup (SqT.of h) (RepAll.dp r p)
  | _, _, .lst h r, p => .lst (SqL.of h) (RepAll.dp r p)
  | _, _, .fro h r, p => .lst h (RepAll.dp r p)
  | _, _, .lsa h r, p => .lst (SqL.of h) (RepAll.dp r p)
  | _, _, .obj v, p => by cases p
theorem RepAll.dp : ∀ {vs : List V} {ds : List D}, RepAll K H vs ds → plainAll ds = true → DpAll K H vs (pyAll ds)
  | _, _, .nil, _ => .nil
  | _, _, .cons (d := d) (ds := ds) r t, p => by
    have p' : (d.plain && plainAll ds) = true := p
    rw [Bool.and_eq_true] at p'
    exact .cons (Rep.dp r p'.1) (RepAll.dp t p'.2)
end
end
def okD (d : D) : Bool := d.plain && SeqAt.shaped d.py
theorem rd_eqD {K : PySem.W.Frag} {d e : D} (hd : okD d = true) (he : okD e = true) : RD K (rEqA K) d e (.bl (PyData.eqv d.py e.py)) := RD.r fun x y Hv H Q l r1 r2 q => by
  obtain ⟨p1, s1⟩ := Bool.and_eq_true_iff.mp hd
  obtain ⟨p2, s2⟩ := Bool.and_eq_true_iff.mp he
  exact ⟨_, _, (r1.mono l).dp p1, (r2.mono l).dp p2, s1, s2, q _ Hv H (Gr.refl l) (.bl _)⟩
theorem rd_neD {K : PySem.W.Frag} {d e : D} (hd : okD d = true) (he : okD e = true) : RD K (rNeA K) d e (.bl (!PyData.eqv d.py e.py)) := RD.r fun x y Hv H Q l r1 r2 q => by
  obtain ⟨p1, s1⟩ := Bool.and_eq_true_iff.mp hd
  obtain ⟨p2, s2⟩ := Bool.and_eq_true_iff.mp he
  exact ⟨_, _, (r1.mono l).dp p1, (r2.mono l).dp p2, s1, s2, q _ Hv H (Gr.refl l) (.bl _)⟩

/-! ### subscripts, slices -/
section
variable {K : PySem.W.Frag} {b : Bs} {ρ : Rho} {te : TE} {tl th : TO} {d e z : D} {ds : List D}
theorem atI_map {α β : Type} {xs : List α} {ys : List β} {i : Int} {y : β} (hl : xs.length = ys.length) (h : atI ys i = some y) : ∃ j, ixN xs.length i = some j ∧ ys[j]? = some y := by
  unfold atI at h
  rw [← hl] at h
  cases e : ixN xs.length i with
  | none => rw [e] at h; cases h
  | some j => rw [e] at h; exact ⟨j, rfl, h⟩
theorem rep_at {Hv : Hp} {xs : List V} {i : Int} (r : RepAll K Hv xs ds) (h : atI ds i = some z) : ∃ v, atI xs i = some v ∧ Rep K Hv v z := by
  obtain ⟨j, e1, e2⟩ := atI_map (xs := xs) r.length h
  obtain ⟨v, e3, q⟩ := r.getD e2
  refine ⟨v, ?_, q⟩
  unfold atI
  rw [e1]
  exact e3
theorem rd_ix {i : Int} (h : seqOf d = some ds) (hi : atI ds i = some z) : RD K (rIx K) d (.int i) z := fun x y Hv H Q l r1 r2 q => by
  obtain ⟨a, xs, rfl, hs, r⟩ := r1.seq h
  have e2 := r2.int_inv
  subst e2
  obtain ⟨v, e3, rv⟩ := rep_at r hi
  rcases hs with hs | hs
  · exact .inl ⟨a, xs, i, v, rfl, rfl, Le.l l hs, e3, q _ Hv H (Gr.refl l) rv⟩
  · refine .inr (.inl ⟨a, xs, i, v, rfl, rfl, ?_, e3, q _ Hv H (Gr.refl l) rv⟩)
    rcases hs with hs | hs
    · exact .inl (Le.rd l hs)
    · exact .inr hs
theorem rd_ixS {i : Int} {x : Str} {c : Nat} (hz : x.length ≤ 100000) (hi : atI x.cps.toList i = some c) : RD K (rIx K) (.str x) (.int i) (.str ⟨#[c]⟩) := fun a y Hv H Q l r1 r2 q => by
  have e1 := r1.str_inv
  have e2 := r2.int_inv
  subst e1 e2
  exact .inr (.inr ⟨x, i, c, rfl, rfl, Nat.le_trans hz (by decide), hi, q _ Hv H (Gr.refl l) (.str _)⟩)
theorem evo_none : EvO K b tNoPart ρ none := fun σ Hv H Q A q => q Hv H (Gr.refl A.sub)
theorem evo_some {i : Int} (h : EvD K b te ρ (.int i)) : EvO K b (tPart te) ρ (some i) := fun σ Hv H Q A q => h σ Hv H _ A fun v Hv1 H1 g r => ⟨i, r.int_inv, q Hv1 H1 g⟩
def cutD (ds : List D) (lo hi : Option Int) : List D := (ds.drop (HT.sIx ds.length 0 lo)).take (HT.sIx ds.length ds.length hi - HT.sIx ds.length 0 lo)
theorem rep_cut {Hv : Hp} {xs : List V} {lo hi : Option Int} (r : RepAll K Hv xs ds) : RepAll K Hv (cutV xs lo hi) (cutD ds lo hi) := by
  unfold cutV cutD
  rw [r.length]
  exact (r.drop _).take _
theorem evf_sl {lo hi : Option Int} (h : EvD K b te ρ d) (hd : lstOf d = some ds) (h1 : EvO K b tl ρ lo) (h2 : EvO K b th ρ hi) : EvF K b (tSl (rSlL K) te tl th) ρ (cutD ds lo hi) := fun σ Hv H Q A q =>
  h σ Hv H _ A fun v Hv1 H1 g1 r1 => h1 σ Hv1 H1 _ (A.grow g1) fun Hv2 H2 g2 => h2 σ Hv2 H2 _ (A.grow (g1.trans g2)) fun Hv3 H3 g3 => by
    obtain ⟨a, xs, rfl, hs, r⟩ := r1.list hd
    have g := (g1.trans g2).trans g3
    refine ⟨a, xs, rfl, Le.l g3.sub (Le.l (Le.trans g2.vis g3.vis) hs), fun p hp => ?_⟩
    have hp0 : H p = none := Le.none g.big hp
    have hv0 : Hv3 p = none := Le.none g3.sub hp
    exact q p _ Hv3 _ (g.hid hp0 hv0) hp0 hv0 upd_same (rep_cut (r.mono (Le.trans g2.vis g3.vis)))
end

/-! ### built-in functions -/
section
variable {K : PySem.W.Frag} {d e z : D} {ds : List D}
abbrev rLen (K : PySem.W.Frag) : List V → Hp → VK → Prop := fun xs H Q => ∃ x n, xs = [x] ∧ LenV K x H n ∧ Q (.int n) H
theorem RepAll.one {Hv : Hp} {xs : List V} (r : RepAll K Hv xs [d]) : ∃ x, xs = [x] ∧ Rep K Hv x d := by
  cases r with
  | cons r1 r2 => cases r2; exact ⟨_, rfl, r1⟩
theorem RepAll.two {Hv : Hp} {xs : List V} (r : RepAll K Hv xs [d, e]) : ∃ x y, xs = [x, y] ∧ Rep K Hv x d ∧ Rep K Hv y e := by
  cases r with
  | cons r1 r2 =>
    cases r2 with
    | cons r3 r4 => cases r4; exact ⟨_, _, rfl, r1, r3⟩
theorem cd_len (h : seqOf d = some ds) : CD K (rLen K) [d] (.int ds.length) := fun xs Hv H Q l r0 q => by
  obtain ⟨x, rfl, r1⟩ := r0.one
  obtain ⟨a, ys, rfl, hs, r⟩ := r1.seq h
  refine ⟨_, ds.length, rfl, ?_, q _ Hv H (Gr.refl l) (.int _)⟩
  rcases hs with hs | hs
  · exact .inl ⟨ys, Le.l l hs, r.length.symm⟩
  · refine .inr ⟨ys, ?_, r.length.symm⟩
    rcases hs with hs | hs
    · exact .inl (Le.rd l hs)
    · exact .inr hs
theorem cd_lenS {x : Str} (h : x.length ≤ 100000) : CD K (rLen K) [.str x] (.int x.length) := fun xs Hv H Q l r0 q => by
  obtain ⟨y, rfl, r⟩ := r0.one
  have e := r.str_inv
  subst e
  exact ⟨_, x.length, rfl, ⟨Nat.le_trans h (by decide), rfl⟩, q _ Hv H (Gr.refl l) (.int _)⟩
abbrev rAbs : List V → Hp → VK → Prop := fun xs H Q => ∃ i, xs = [.int i] ∧ Q (.int (if i < 0 then -i else i)) H
theorem cd_abs {i : Int} : CD K rAbs [.int i] (.int (if i < 0 then -i else i)) := fun xs Hv H Q l r0 q => by
  obtain ⟨y, rfl, r⟩ := r0.one
  have e := r.int_inv
  subst e
  exact ⟨i, rfl, q _ Hv H (Gr.refl l) (.int _)⟩
abbrev rMax2 : List V → Hp → VK → Prop := fun xs H Q => ∃ i j, xs = [.int i, .int j] ∧ Q (.int (if j > i then j else i)) H
abbrev rMin2 : List V → Hp → VK → Prop := fun xs H Q => ∃ i j, xs = [.int i, .int j] ∧ Q (.int (if j < i then j else i)) H
theorem cd_max2 {i j : Int} : CD K rMax2 [.int i, .int j] (.int (if j > i then j else i)) := fun xs Hv H Q l r q => by
  obtain ⟨x, y, rfl, r1, r2⟩ := r.two
  have e1 := r1.int_inv
  have e2 := r2.int_inv
  subst e1 e2
  exact ⟨i, j, rfl, q _ Hv H (Gr.refl l) (.int _)⟩
theorem cd_min2 {i j : Int} : CD K rMin2 [.int i, .int j] (.int (if j < i then j else i)) := fun xs Hv H Q l r q => by
  obtain ⟨x, y, rfl, r1, r2⟩ := r.two
  have e1 := r1.int_inv
  have e2 := r2.int_inv
  subst e1 e2
  exact ⟨i, j, rfl, q _ Hv H (Gr.refl l) (.int _)⟩
abbrev rInt1 : List V → Hp → VK → Prop := fun xs H Q => (∃ i, xs = [.int i] ∧ Q (.int i) H) ∨ ∃ k, xs = [.bl k] ∧ Q (.int (if k then 1 else 0)) H
theorem cd_intB {c : Bool} : CD K rInt1 [.bl c] (.int (if c then 1 else 0)) := fun xs Hv H Q l r0 q => by
  obtain ⟨x, rfl, r⟩ := r0.one
  have e := r.bl_inv
  subst e
  exact .inr ⟨c, rfl, q _ Hv H (Gr.refl l) (.int _)⟩
theorem cd_sum {ns : List Int} (h : lstOf d = some (ns.map D.int)) : CD K (rSum K) [d] (.int ns.sum) := fun xs Hv H Q l r0 q => by
  obtain ⟨x, rfl, r⟩ := r0.one
  obtain ⟨a, ys, rfl, hs, r⟩ := r.list h
  have e := r.ints_inv
  subst e
  exact ⟨a, ns, rfl, Le.l l hs, q _ Hv H (Gr.refl l) (.int _)⟩
abbrev rListOf (K : PySem.W.Frag) : List V → Hp → VK → Prop := fun xs H Q => ∃ p ys, xs = [.ref p] ∧ (SqL K H p ys ∨ SqT K H p ys) ∧ ∀ l, H l = none → Q (.ref l) (upd H l (.lst ys))
theorem evf_listOf {b : Bs} {ρ : Rho} {ta : TE} (h : EvD K b ta ρ d) (hd : seqOf d = some ds) : EvF K b (tCB (rListOf K) (tCons ta tNil)) ρ ds := fun σ Hv H Q A q =>
  h σ Hv H _ A fun v Hv1 H1 g1 r1 => by
    obtain ⟨a, xs, rfl, hs, r⟩ := r1.seq hd
    refine ⟨a, xs, rfl, ?_, fun p hp => ?_⟩
    · rcases hs with hs | hs
      · exact .inl (Le.l g1.sub hs)
      · refine .inr ?_
        rcases hs with hs | hs
        · exact .inl (Le.rd g1.sub hs)
        · exact .inr hs
    · have hp0 : H p = none := Le.none g1.big hp
      have hv0 : Hv1 p = none := Le.none g1.sub hp
      exact q p _ Hv1 _ (g1.hid hp0 hv0) hp0 hv0 upd_same r
/-! isinstance -/
def tyD : D → Option String
  | .non => some "NoneType"
  | .bl _ => some "bool"
  | .int _ => some "int"
  | .str _ => some "str"
  | .tup _ => some "tuple"
  | .lst _ => some "list"
  | .lsa _ _ => some "list"
  | _ => none
theorem Rep.ty {Hv H : Hp} {x : V} {t : String} (l : Le Hv H) (r : Rep K Hv x d) (h : tyD d = some t) : TyX K H x (.type t) := by
  cases r with
  | non => cases h; exact .base .non
  | bl c => cases h; exact .base (.bl c)
  | int i => cases h; exact .base (.int i)
  | str s => cases h; exact .base (.str s)
  | tup e r => cases h; exact .base (.tup (l _ _ e))
  | lst e r => cases h; exact .base (.lst (l _ _ e))
  | fro e r => cases h
  | lsa e r => cases h; exact .base (.lst (l _ _ e))
  | obj v => cases h
theorem cd_isi {t c : String} {k : Bool} (h : tyD d = some t) (hk : kitB t c = some k) : CD K (rIsi K) [d, .obj (.ty c)] (.bl k) := fun xs Hv H Q l r q => by
  obtain ⟨x, y, rfl, r1, r2⟩ := r.two
  have e2 := r2.obj_inv
  subst e2
  exact ⟨x, .ty c, .type t, .type c, k, rfl, .ty c, r1.ty l h, kit_ty hk, q _ Hv H (Gr.refl l) (.bl _)⟩
end

/-! ### promises -/
inductive Out where
  | ret (d : D) | exc (c : Value)
/-- called with such data, this comes of it -/
def spD (K : PySem.W.Frag) (R : List D → Out → Prop) : Sp := fun vs H Q E => ∃ (ds : List D) (o : Out) (Hv : Hp), Le Hv H ∧ RepAll K Hv vs ds ∧ R ds o ∧
  match o with
  | .ret d => ∀ v Hv' H', Gr Hv H Hv' H' → Rep K Hv' v d → Q v H'
  | .exc c => ∀ Hv' H', Gr Hv H Hv' H' → E c none H'
section
variable {K : PySem.W.Frag} {b : Bs} {ρ : Rho} {tA : TA} {d : D} {ds : List D} {R : List D → Out → Prop}
theorem evd_call {E : XK} (ha : EvA K b tA ρ ds) (hr : R ds (.ret d)) : EvD K b (tCall (spD K R) [] E tA) ρ d := fun σ Hv H Q A q =>
  ha σ Hv H _ A fun vs Hv1 H1 g1 r1 => ⟨ds, .ret d, Hv1, g1.sub, by rw [List.append_nil]; exact r1, hr, fun v Hv2 H2 g2 r2 => q v Hv2 H2 (g1.trans g2) r2⟩
theorem evd_callDef {E : XK} {es : List D} {dvs : List V} (ha : EvA K b tA ρ ds) (hd : ∀ H, RepAll K H dvs es) (hr : R (ds ++ es) (.ret d)) : EvD K b (tCall (spD K R) dvs E tA) ρ d := fun σ Hv H Q A q =>
  ha σ Hv H _ A fun vs Hv1 H1 g1 r1 => ⟨ds ++ es, .ret d, Hv1, g1.sub, r1.append (hd Hv1), hr, fun v Hv2 H2 g2 r2 => q v Hv2 H2 (g1.trans g2) r2⟩
/-- a call within a try -/
theorem evd_callS {W : WX} (ha : EvA K b tA ρ ds) (hr : R ds (.ret d)) : EvD K b (tCallS (spD K R) (WE W) tA) ρ d := fun σ Hv H Q A q =>
  ha σ Hv H _ A fun vs Hv1 H1 g1 r1 => ⟨ds, .ret d, Hv1, g1.sub, r1, hr, fun v Hv2 H2 g2 r2 => q v Hv2 H2 (g1.trans g2) r2⟩
end
end Kn
namespace Kn
open PySem PySem.Spec L2

/-! ### statements -/
structure DE where
  nx : Rho → Prop
  rt : D → Prop
  bk : Rho → Prop := fun _ => False
  ct : Rho → Prop := fun _ => False
/-- the ends are served -/
structure Cn (K : PySem.W.Frag) (b : Bs) (N : DE) (E : Ends) : Prop where
  nx : ∀ σ Hv H ρ, At K b σ Hv H ρ → N.nx ρ → E.nx σ H
  rt : ∀ v Hv H d, Gr b.v b.h Hv H → Rep K Hv v d → N.rt d → E.rt v H
  bk : ∀ σ Hv H ρ, At K b σ Hv H ρ → N.bk ρ → E.bk σ H
  ct : ∀ σ Hv H ρ, At K b σ Hv H ρ → N.ct ρ → E.ct σ H
def StD (K : PySem.W.Frag) (b : Bs) (t : TS) (N : DE) (ρ : Rho) : Prop := ∀ (σ : L2.St) (Hv H : Hp) (E : Ends), At K b σ Hv H ρ → Cn K b N E → t E σ H

section
variable {K : PySem.W.Frag} {b : Bs} {ρ : Rho} {te ta tb : TE} {tt : TT} {tA : TA} {t u : TS} {d e z : D} {ds : List D} {N : DE}
theorem st_seq (h : StD K b t { N with nx := fun ρ' => StD K b u N ρ' } ρ) : StD K b (tSeq t u) N ρ := fun σ Hv H E A C =>
  h σ Hv H _ A ⟨fun σ' Hv' H' ρ' A' q => q σ' Hv' H' E A' C, C.rt, C.bk, C.ct⟩
theorem st_next (h : N.nx ρ) : StD K b tNext N ρ := fun σ Hv H E A C => C.nx σ Hv H ρ A h
theorem st_brk (h : N.bk ρ) : StD K b tBreak N ρ := fun σ Hv H E A C => C.bk σ Hv H ρ A h
theorem st_cont (h : N.ct ρ) : StD K b tCont N ρ := fun σ Hv H E A C => C.ct σ Hv H ρ A h
theorem st_set {i : Nat} (h : EvD K b te ρ d) (k : N.nx (ρ.set i (some (.dat d)))) : StD K b (tAsg te (gName i)) N ρ := fun σ Hv H E A C =>
  h σ Hv H _ A fun v Hv1 H1 g r => C.nx _ Hv1 H1 _ ((A.grow g).setDat r) k
/-- a new list that the frame alone knows -/
theorem st_own {i : Nat} (h : EvF K b te ρ ds) (k : N.nx (ρ.set i (some (.own ds)))) : StD K b (tAsg te (gName i)) N ρ := fun σ Hv H E A C =>
  h σ Hv H _ A fun p xs Hv1 H1 g hp hv ho r => C.nx _ Hv1 H1 _ ((A.grow g).setOwn hv (Le.none A.gr.big hp) ho r fun j es _ hj hq => by
    obtain ⟨q, ys, e, _, _, e3, _⟩ := A.own j es hj
    rw [e] at hq
    cases hq
    rw [hp] at e3
    cases e3) k
theorem st_ret (h : EvD K b te ρ d) (k : N.rt d) : StD K b (tRet te) N ρ := fun σ Hv H E A C =>
  h σ Hv H _ A fun v Hv1 H1 g r => C.rt v Hv1 H1 d (A.gr.trans g) r k
theorem st_retN (k : N.rt .non) : StD K b tRetN N ρ := fun σ Hv H E A C => C.rt .non Hv H .non A.gr .non k
theorem st_drop (h : EvD K b te ρ d) (k : N.nx ρ) : StD K b (tDrop te) N ρ := fun σ Hv H E A C =>
  h σ Hv H _ A fun v Hv1 H1 g r => C.nx σ Hv1 H1 ρ (A.grow g) k
theorem st_if {c : Bool} (h : EvB K b tt ρ c) (h1 : c = true → StD K b t N ρ) (h2 : c = false → StD K b u N ρ) : StD K b (tIfS tt t u) N ρ := fun σ Hv H E A C =>
  h σ Hv H _ A fun Hv1 H1 g => by
    cases c with
    | true =>
      show t E σ H1
      exact h1 rfl σ Hv1 H1 E (A.grow g) C
    | false =>
      show u E σ H1
      exact h2 rfl σ Hv1 H1 E (A.grow g) C
/-- a, b = x, y -/
theorem st_par {i j : Nat} (ha : EvA K b tA ρ [d, e]) (k : N.nx ((ρ.set i (some (.dat d))).set j (some (.dat e)))) : StD K b (tPar i j tA) N ρ := fun σ Hv H E A C =>
  ha σ Hv H _ A fun vs Hv1 H1 g r => by
    obtain ⟨x, y, rfl, r1, r2⟩ := r.two
    exact ⟨x, y, rfl, C.nx _ Hv1 H1 _ (((A.grow g).setDat r1).setDat r2) k⟩
/-- less is known of the state -/
theorem st_weak {ρ' : Rho} (hl : ρ'.length = ρ.length) (hw : ∀ (i : Nat) (s : SD), ρ'[i]? = some (some s) → ρ[i]? = some (some s)) (h : StD K b t N ρ') : StD K b t N ρ := fun σ Hv H E A C => h σ Hv H E (A.weak hl hw) C
theorem st_mono {N' : DE} (h : StD K b t N ρ) (h1 : ∀ r, N.nx r → N'.nx r) (h2 : ∀ r, N.rt r → N'.rt r) (h3 : ∀ r, N.bk r → N'.bk r) (h4 : ∀ r, N.ct r → N'.ct r) : StD K b t N' ρ := fun σ Hv H E A C =>
  h σ Hv H E A ⟨fun s a c r A' q => C.nx s a c r A' (h1 r q), fun v a c r A' q w => C.rt v a c r A' q (h2 r w), fun s a c r A' q => C.bk s a c r A' (h3 r q), fun s a c r A' q => C.ct s a c r A' (h4 r q)⟩
/-- a hidden list is shown -/
theorem st_pub {i : Nat} (h : ρ[i]? = some (some (.own ds))) (k : StD K b t N (ρ.set i (some (.dat (.lst ds))))) : StD K b t N ρ := fun σ Hv H E A C => by
  obtain ⟨p, xs, e, h1, h2, h3, r⟩ := A.own i ds h
  have hs : σ.set i (some (.ref p)) = σ := by
    apply List.ext_getElem?
    intro j
    by_cases hj : i = j
    · subst hj
      rw [List.getElem?_set_self (List.getElem?_eq_some_iff.mp e).1, e]
    · rw [List.getElem?_set_ne hj]
  have g : Gr b.v b.h (upd Hv p (.lst xs)) H := A.gr.show' h2 h1 h3
  -- the state with the slot forgotten, over the larger visible heap
  have A1 : At K b (σ.set i none) Hv H (ρ.set i none) := A.forget
  have A2 : At K b (σ.set i none) (upd Hv p (.lst xs)) H (ρ.set i none) := by
    refine ⟨g, Le.trans A.sc (Le.new h1), A1.len, fun j e hj => ?_, fun j es hj => ?_, A1.dis⟩
    · obtain ⟨v, e1, r1⟩ := A1.dat j e hj
      exact ⟨v, e1, r1.mono (Le.new h1)⟩
    · obtain ⟨q, ys, e1, q1, q2, q3, q4⟩ := A1.own j es hj
      have hji : i ≠ j := by
        rintro rfl
        have hl : i < ρ.length := (List.getElem?_eq_some_iff.mp h).1
        rw [List.getElem?_set_self hl] at hj
        cases hj
      have hqp : q ≠ p := by
        rintro rfl
        rw [List.getElem?_set_ne hji] at hj e1
        exact A.dis i j q ds es hji h hj e e1
      refine ⟨q, ys, e1, ?_, q2, q3, q4.mono (Le.new h1)⟩
      rw [upd_ne hqp]
      exact q1
  have A3 := A2.setDat (i := i) (v := .ref p) (d := .lst ds) (.lst upd_same (r.mono (Le.new h1)))
  rw [List.set_set, List.set_set, hs] at A3
  exact k σ _ H E A3 C
/-- x.append(e), x a list that the frame alone knows -/
theorem st_append {i : Nat} (h : ρ[i]? = some (some (.own ds))) (he : EvD K b te ρ d) (hz : ds.length < 100000) (k : N.nx (ρ.set i (some (.own (ds ++ [d]))))) :
    StD K b (tDrop (tBM K "list" rAppend (tVar i) (tCons te tNil))) N ρ := fun σ Hv H E A C => by
  obtain ⟨p, xs, e, h1, h2, h3, r⟩ := A.own i ds h
  have hs : σ.set i (some (.ref p)) = σ := by
    apply List.ext_getElem?
    intro j
    by_cases hj : i = j
    · subst hj
      rw [List.getElem?_set_self (List.getElem?_eq_some_iff.mp e).1, e]
    · rw [List.getElem?_set_ne hj]
  refine ⟨.ref p, e, .inl ⟨rfl, xs, SqL.of h3⟩, ?_⟩
  refine he σ Hv H _ A fun v Hv1 H1 g rv => ?_
  have A1 := A.grow g
  obtain ⟨p', xs', e', h1', h2', h3', r'⟩ := A1.own i ds h
  rw [e] at e'
  cases e'
  refine ⟨p, xs', v, rfl, rfl, h3', by rw [r'.length]; exact Nat.lt_of_lt_of_le hz (by decide), ?_⟩
  have g1 : Gr b.v b.h Hv1 (upd H1 p (.lst (xs' ++ [v]))) := ⟨Le.mut A1.gr.big h2, A1.gr.vis, fun a u q => by
    rw [upd_ne (ne_of_none q h1')]
    exact A1.gr.sub a u q, A1.gr.old⟩
  have A2 : At K b σ Hv1 (upd H1 p (.lst (xs' ++ [v]))) (ρ.set i none) := by
    have ne : ∀ {j : Nat} {s : SD}, (ρ.set i none)[j]? = some (some s) → i ≠ j := fun {j s} hj => by
      rintro rfl
      have hl : i < ρ.length := (List.getElem?_eq_some_iff.mp h).1
      rw [List.getElem?_set_self hl] at hj
      cases hj
    refine ⟨g1, A1.sc, by simp [A.len], fun j f hj => ?_, fun j es hj => ?_, fun j k q es fs hjk q1 q2 q3 => ?_⟩
    · have n := ne hj
      rw [List.getElem?_set_ne n] at hj
      exact A1.dat j f hj
    · have n := ne hj
      rw [List.getElem?_set_ne n] at hj
      obtain ⟨q, ys, e1, q1, q2, q3, q4⟩ := A1.own j es hj
      have hqp : q ≠ p := by
        rintro rfl
        exact A1.dis i j q ds es n h hj e e1
      exact ⟨q, ys, e1, q1, q2, by rw [upd_ne hqp]; exact q3, q4⟩
    · have n1 := ne q1
      have n2 := ne q2
      rw [List.getElem?_set_ne n1] at q1
      rw [List.getElem?_set_ne n2] at q2
      exact A1.dis j k q es fs hjk q1 q2 q3
  have A3 := A2.setOwn (i := i) (p := p) (xs := xs' ++ [v]) (ds := ds ++ [d]) h1' h2 upd_same (r'.append (.cons rv .nil)) fun j es hj q1 q2 => by
    rw [List.getElem?_set_ne (Ne.symm hj)] at q1
    exact A1.dis i j p ds es (Ne.symm hj) h q1 e q2
  rw [hs, List.set_set] at A3
  exact C.nx σ Hv1 _ _ A3 k
/-- x[j] = e, x a list that the frame alone knows -/
theorem st_setItem {i j : Nat} {ti : TE} {n : Int} (h : ρ[i]? = some (some (.own ds))) (he : EvD K b te ρ d) (hi : EvD K b ti ρ (.int n)) (hj : ixN ds.length n = some j) (k : N.nx (ρ.set i (some (.own (ds.set j d))))) :
    StD K b (tAsg te (gSub (tVar i) ti rSetL)) N ρ := fun σ Hv H E A C => by
  refine he σ Hv H _ A fun v Hv0 H0 g0 rv => ?_
  have A0 := A.grow g0
  obtain ⟨p, xs, e, h1, h2, h3, r⟩ := A0.own i ds h
  have hs : σ.set i (some (.ref p)) = σ := by
    apply List.ext_getElem?
    intro j
    by_cases hj : i = j
    · subst hj
      rw [List.getElem?_set_self (List.getElem?_eq_some_iff.mp e).1, e]
    · rw [List.getElem?_set_ne hj]
  refine ⟨.ref p, e, ?_⟩
  refine hi σ Hv0 H0 _ A0 fun iv Hv1 H1 g ri => ?_
  have ei := ri.int_inv
  subst ei
  have A1 := A0.grow g
  obtain ⟨p', xs', e', h1', h2', h3', r'⟩ := A1.own i ds h
  rw [e] at e'
  cases e'
  refine ⟨p, xs', n, j, rfl, rfl, h3', by rw [r'.length]; exact hj, ?_⟩
  have g1 : Gr b.v b.h Hv1 (upd H1 p (.lst (xs'.set j v))) := ⟨Le.mut A1.gr.big h2, A1.gr.vis, fun a u q => by
    rw [upd_ne (ne_of_none q h1')]
    exact A1.gr.sub a u q, A1.gr.old⟩
  have A2 : At K b σ Hv1 (upd H1 p (.lst (xs'.set j v))) (ρ.set i none) := by
    have ne : ∀ {j : Nat} {s : SD}, (ρ.set i none)[j]? = some (some s) → i ≠ j := fun {j s} hj => by
      rintro rfl
      have hl : i < ρ.length := (List.getElem?_eq_some_iff.mp h).1
      rw [List.getElem?_set_self hl] at hj
      cases hj
    refine ⟨g1, A1.sc, by simp [A.len], fun j f hj => ?_, fun j es hj => ?_, fun j k q es fs hjk q1 q2 q3 => ?_⟩
    · have n := ne hj
      rw [List.getElem?_set_ne n] at hj
      exact A1.dat j f hj
    · have n := ne hj
      rw [List.getElem?_set_ne n] at hj
      obtain ⟨q, ys, e1, q1, q2, q3, q4⟩ := A1.own j es hj
      have hqp : q ≠ p := by
        rintro rfl
        exact A1.dis i j q ds es n h hj e e1
      exact ⟨q, ys, e1, q1, q2, by rw [upd_ne hqp]; exact q3, q4⟩
    · have n1 := ne q1
      have n2 := ne q2
      rw [List.getElem?_set_ne n1] at q1
      rw [List.getElem?_set_ne n2] at q2
      exact A1.dis j k q es fs hjk q1 q2 q3
  have A3 := A2.setOwn (i := i) (p := p) (xs := xs'.set j v) (ds := ds.set j d) h1' h2 upd_same (r'.set (rv.mono g.vis) j) fun j es hj q1 q2 => by
    rw [List.getElem?_set_ne (Ne.symm hj)] at q1
    exact A1.dis i j p ds es (Ne.symm hj) h q1 e q2
  rw [hs, List.set_set] at A3
  exact C.nx σ Hv1 _ _ A3 k
/-- len of a hidden list -/
theorem evd_lenOwn {i : Nat} (h : ρ[i]? = some (some (.own ds))) : EvD K b (tCB (rLen K) (tCons (tVar i) tNil)) ρ (.int ds.length) := fun σ Hv H Q A q => by
  obtain ⟨p, xs, e, h1, h2, h3, r⟩ := A.own i ds h
  exact ⟨.ref p, e, .ref p, ds.length, rfl, .inl ⟨xs, SqL.of h3, r.length.symm⟩, q _ Hv H (Gr.refl A.sub) (.int _)⟩

/-! ### while -/
theorem st_while (I : Nat → Rho → Prop) (m0 : Nat) (h0 : I m0 ρ)
    (hs : ∀ m ρ', I m ρ' → ∃ c, EvB K b tt ρ' c ∧ (c = true → StD K b t { N with nx := fun ρ2 => ∃ m', m' < m ∧ I m' ρ2, ct := fun ρ2 => ∃ m', m' < m ∧ I m' ρ2, bk := N.nx } ρ') ∧ (c = false → N.nx ρ')) : StD K b (tWhile tt t) N ρ := fun σ Hv H E A C => by
  refine ⟨fun m σ H => ∃ Hv ρ', At K b σ Hv H ρ' ∧ I m ρ', ⟨m0, Hv, ρ, A, h0⟩, ?_⟩
  rintro m σ1 H1 ⟨Hv1, ρ1, A1, i1⟩
  obtain ⟨c, hc, h1, h2⟩ := hs m ρ1 i1
  refine hc σ1 Hv1 H1 _ A1 fun Hv2 H2 g => ?_
  cases c with
  | true =>
    show ∃ Nn, _
    refine ⟨fun σ' H' => ∃ m', m' < m ∧ ∃ Hv ρ', At K b σ' Hv H' ρ' ∧ I m' ρ', fun σ' H' q => q, ?_⟩
    exact h1 rfl σ1 Hv2 H2 _ (A1.grow g) ⟨fun σ' Hv' H' ρ' A' ⟨m', hm, i'⟩ => ⟨m', hm, Hv', ρ', A', i'⟩, C.rt, fun σ' Hv' H' ρ' A' q => C.nx σ' Hv' H' ρ' A' q, fun σ' Hv' H' ρ' A' ⟨m', hm, i'⟩ => ⟨m', hm, Hv', ρ', A', i'⟩⟩
  | false =>
    show E.nx σ1 H2
    exact C.nx σ1 Hv2 H2 ρ1 (A1.grow g) (h2 rfl)

/-! ### targets -/
/-- what a target does with data x: the slots js are stored -/
def GtD (K : PySem.W.Frag) (g : TG) (x : D) (js : List Nat) (f : Rho → Rho) : Prop := ∀ (b : Bs) (v : V) (σ : L2.St) (Hv H : Hp) (ρ : Rho) (Q : L2.St → Hp → Prop), At K b σ Hv H ρ → Rep K Hv v x →
  (∀ σ', (∀ vs : List Nat, (∀ j ∈ js, j ∈ vs) → wipe σ' vs = wipe σ vs) → At K b σ' Hv H (f ρ) → Q σ' H) → g v σ H Q
theorem wipe_get : ∀ (vs : List Nat) (σ : L2.St) (i : Nat), (wipe σ vs)[i]? = if i ∈ vs ∧ i < σ.length then some none else σ[i]?
  | [], σ, i => by simp [wipe]
  | v :: vs, σ, i => by
    show ((wipe σ vs).set v none)[i]? = _
    rw [List.getElem?_set, wipe_length]
    by_cases hv : v = i
    · subst hv
      by_cases hl : v < σ.length
      · simp [hl]
      · simp [hl]
    · have hiv : ¬ i = v := fun z => hv z.symm
      rw [if_neg hv, wipe_get vs σ i]
      simp [hiv]
theorem wipe_set {σ : L2.St} {vs : List Nat} {j : Nat} {o : Option V} (h : j ∈ vs) : wipe (σ.set j o) vs = wipe σ vs := by
  apply List.ext_getElem?
  intro i
  rw [wipe_get, wipe_get, List.length_set]
  by_cases hi : i ∈ vs ∧ i < σ.length
  · rw [if_pos hi, if_pos hi]
  · rw [if_neg hi, if_neg hi]
    by_cases hj : j = i
    · subst hj
      have : ¬ j < σ.length := fun z => hi ⟨h, z⟩
      rw [List.getElem?_eq_none (by simpa using this), List.getElem?_eq_none (by simpa using this)]
    · rw [List.getElem?_set_ne hj]
theorem wipe_wipe {σ : L2.St} {vs : List Nat} : wipe (wipe σ vs) vs = wipe σ vs := by
  apply List.ext_getElem?
  intro i
  rw [wipe_get, wipe_get, wipe_length]
  by_cases hi : i ∈ vs ∧ i < σ.length
  · rw [if_pos hi, if_pos hi]
  · rw [if_neg hi, if_neg hi]
def wipeD (ρ : Rho) : List Nat → Rho
  | [] => ρ
  | v :: vs => (wipeD ρ vs).set v none
theorem At.wipe {σ : L2.St} {Hv H : Hp} (A : At K b σ Hv H ρ) : ∀ vs : List Nat, At K b (wipe σ vs) Hv H (wipeD ρ vs)
  | [] => A
  | v :: vs => (A.wipe vs).forget
theorem gt_name {i : Nat} {x : D} : GtD K (gName i) x [i] (fun ρ => ρ.set i (some (.dat x))) := fun b v σ Hv H ρ Q A r q =>
  q _ (fun vs h => wipe_set (h i List.mem_cons_self)) (A.setDat r)
theorem gt_tup2 {i j : Nat} {x y : D} : GtD K (gTup K 2 (gCons (gName i) (gCons (gName j) gNil))) (.tup [x, y]) [i, j] (fun ρ => (ρ.set i (some (.dat x))).set j (some (.dat y))) := fun b v σ Hv H ρ Q A r q => by
  obtain ⟨a, xs, rfl, ha, rr⟩ := r.tup_inv
  obtain ⟨v1, v2, rfl, r1, r2⟩ := rr.two
  refine ⟨a, _, rfl, SqT.of (A.sub _ _ ha), rfl, v1, [v2], rfl, v2, [], rfl, rfl, ?_⟩
  exact q _ (fun vs h => by rw [wipe_set (h j (by simp)), wipe_set (h i (by simp))]) ((A.setDat r1).setDat r2)
theorem gt_tup3 {i j l : Nat} {x y w : D} : GtD K (gTup K 3 (gCons (gName i) (gCons (gName j) (gCons (gName l) gNil)))) (.tup [x, y, w]) [i, j, l] (fun ρ => ((ρ.set i (some (.dat x))).set j (some (.dat y))).set l (some (.dat w))) := fun b v σ Hv H ρ Q A r q => by
  obtain ⟨a, xs, rfl, ha, rr⟩ := r.tup_inv
  cases rr with
  | cons r1 rr =>
    obtain ⟨v2, v3, rfl, r2, r3⟩ := rr.two
    refine ⟨a, _, rfl, SqT.of (A.sub _ _ ha), rfl, _, [v2, v3], rfl, v2, [v3], rfl, v3, [], rfl, rfl, ?_⟩
    exact q _ (fun vs h => by rw [wipe_set (h l (by simp)), wipe_set (h j (by simp)), wipe_set (h i (by simp))]) (((A.setDat r1).setDat r2).setDat r3)
theorem gt_lst2 {i j : Nat} {x y : D} : GtD K (gLst K 2 (gCons (gName i) (gCons (gName j) gNil))) (.lst [x, y]) [i, j] (fun ρ => (ρ.set i (some (.dat x))).set j (some (.dat y))) := fun b v σ Hv H ρ Q A r q => by
  obtain ⟨a, xs, rfl, ha, rr⟩ := r.lst_inv
  obtain ⟨v1, v2, rfl, r1, r2⟩ := rr.two
  refine ⟨a, _, rfl, SqL.of (A.sub _ _ ha), rfl, v1, [v2], rfl, v2, [], rfl, rfl, ?_⟩
  exact q _ (fun vs h => by rw [wipe_set (h j (by simp)), wipe_set (h i (by simp))]) ((A.setDat r1).setDat r2)
/-- target = value -/
theorem st_asg {g : TG} {js : List Nat} {f : Rho → Rho} (h : EvD K b te ρ d) (hg : GtD K g d js f) (k : N.nx (f ρ)) : StD K b (tAsg te g) N ρ := fun σ Hv H E A C =>
  h σ Hv H _ A fun v Hv1 H1 gr r => hg b v σ Hv1 H1 ρ _ (A.grow gr) r fun σ' _ A' => C.nx σ' Hv1 H1 _ A' k
/-- a walk told by the data it yields, item by item; pn: what stands while it is walked -/
structure SrcD (K : PySem.W.Frag) (b : Bs) (wi : TI) (ρ : Rho) (ds : List D) : Prop where
  run : ∀ (σ : L2.St) (Hv H : Hp) (R : It → Hp → Prop), At K b σ Hv H ρ →
    (∀ (J : It) (Hv1 H1 : Hp), Gr Hv H Hv1 H1 →
      (∀ (i : Nat) (Hv2 H2 : Hp), Le Hv1 Hv2 → Le Hv2 H2 → i < ds.length → J.go i H2) →
      (∀ (i : Nat) (Hv2 H2 : Hp) (x : V) (H' : Hp) (d : D), Le Hv1 Hv2 → Le Hv2 H2 → ds[i]? = some d → J.yld i H2 x H' → ∃ Hv', Gr Hv2 H2 Hv' H' ∧ Rep K Hv' x d) →
      (∀ (Hv2 H2 : Hp), Le Hv1 Hv2 → Le Hv2 H2 → J.stop ds.length H2) → R J H1) → wi σ H R
/-- for -/
theorem st_for {wi : TI} {g : TG} {js : List Nat} {f : D → Rho → Rho} (hw : SrcD K b wi ρ ds) (hg : ∀ x ∈ ds, GtD K g x js (f x)) (I : Nat → Rho → Prop) (h0 : I 0 ρ)
    (hs : ∀ (s : Hp) (i : Nat) (x : D) (ρ' : Rho), ds[i]? = some x → I i ρ' → StD K ⟨b.v, b.h, s⟩ t { N with nx := I (i + 1), ct := I (i + 1), bk := N.nx } (f x ρ'))
    (hd : ∀ ρ', I ds.length ρ' → N.nx ρ') : StD K b (tFor wi g t) N ρ := fun σ Hv H E A C => by
  refine hw.run σ Hv H _ A fun J Hv1 H1 gr hgo hy hst => ?_
  have A1 := A.grow gr
  refine ⟨fun i m σ H => m = ds.length - i ∧ i ≤ ds.length ∧ ∃ Hv ρ', At K ⟨b.v, b.h, Hv1⟩ σ Hv H ρ' ∧ I i ρ', ⟨ds.length, by simp, Nat.zero_le _, Hv1, ρ, ⟨A1.gr, Le.refl _, A1.len, A1.dat, A1.own, A1.dis⟩, h0⟩, ?_⟩
  have back : ∀ {σ : L2.St} {Hv H : Hp} {ρ' : Rho}, At K ⟨b.v, b.h, Hv1⟩ σ Hv H ρ' → At K b σ Hv H ρ' := fun A' => ⟨A'.gr, Le.trans A1.sc A'.sc, A'.len, A'.dat, A'.own, A'.dis⟩
  rintro i m σ2 H2 ⟨rfl, hi, Hv2, ρ2, A2, i2⟩
  by_cases hlt : i < ds.length
  · refine .inr ⟨hgo i Hv2 H2 A2.sc A2.sub hlt, fun σ' H' => ∃ Hv ρ', At K ⟨b.v, b.h, Hv1⟩ σ' Hv H' ρ' ∧ I (i + 1) ρ', fun σ' H' ⟨Hv', ρ', A', i'⟩ => ⟨ds.length - (i + 1), by omega, rfl, hlt, Hv', ρ', A', i'⟩, fun x H' y => ?_⟩
    have hx : ds[i]? = some ds[i] := List.getElem?_eq_getElem hlt
    obtain ⟨Hv3, g3, r3⟩ := hy i Hv2 H2 x H' ds[i] A2.sc A2.sub hx y
    refine hg ds[i] (List.getElem_mem hlt) _ x σ2 Hv3 H' ρ2 _ (A2.grow g3) r3 fun σ4 _ A4 => ?_
    exact hs Hv1 i ds[i] ρ2 hx i2 σ4 Hv3 H' _ A4 ⟨fun σ' Hv' H' ρ' A' q => ⟨Hv', ρ', A', q⟩, fun v Hv' H' e' g' r' q => C.rt v Hv' H' e' g' r' q, fun σ' Hv' H' ρ' A' q => C.nx σ' Hv' H' ρ' (back A') q, fun σ' Hv' H' ρ' A' q => ⟨Hv', ρ', A', q⟩⟩
  · have e : i = ds.length := by omega
    subst e
    exact .inl ⟨hst Hv2 H2 A2.sc A2.sub, C.nx σ2 Hv2 H2 ρ2 (back A2) (hd ρ2 i2)⟩
/-! sources -/
/-- over a list or a tuple -/
def iSeq (K : PySem.W.Frag) (tl : TE) : TI := fun σ H R => iList K tl σ H R ∨ iTup K tl σ H R
theorem src_list {tl : TE} (h : EvD K b tl ρ d) (hd : lstOf d = some ds) : SrcD K b (iList K tl) ρ ds := ⟨fun σ Hv H R A q => h σ Hv H _ A fun v Hv1 H1 g r => by
  obtain ⟨a, xs, rfl, hs, rr⟩ := r.list hd
  have at_ : ∀ {i : Nat} {e : D}, ds[i]? = some e → ∃ v, xs[i]? = some v ∧ Rep K Hv1 v e := fun he => rr.getD he
  refine ⟨a, rfl, ⟨xs, Le.l g.sub hs⟩, q _ Hv1 H1 g (fun i Hv2 H2 l1 l2 hi => ?_) (fun i Hv2 H2 x H' e l1 l2 he y => ?_) fun Hv2 H2 l1 l2 => ⟨xs, Le.l l2 (Le.l l1 hs), by rw [rr.length]; exact Nat.le_refl _⟩⟩
  · obtain ⟨v, hv, _⟩ := at_ (List.getElem?_eq_getElem hi)
    exact ⟨xs, v, Le.l l2 (Le.l l1 hs), hv⟩
  · obtain ⟨rfl, hy⟩ := y
    obtain ⟨v, hv, rv⟩ := at_ he
    have := hy xs (Le.l l2 (Le.l l1 hs))
    rw [hv] at this
    cases this
    exact ⟨Hv2, Gr.refl l2, rv.mono l1⟩⟩
theorem Le.tp {H H' : Hp} {a : Addr} {xs : List V} (e : Le H H') (h : SqT K H a xs) : SqT K H' a xs := by
  rcases h with h | h
  · exact .inl (Le.rd e h)
  · exact .inr h
theorem src_tup {tl : TE} (h : EvD K b tl ρ (.tup ds)) : SrcD K b (iTup K tl) ρ ds := ⟨fun σ Hv H R A q => h σ Hv H _ A fun v Hv1 H1 g r => by
  obtain ⟨a, xs, rfl, hs0, rr⟩ := r.tup_inv
  have hs : SqT K Hv1 a xs := SqT.of hs0
  have at_ : ∀ {i : Nat} {e : D}, ds[i]? = some e → ∃ v, xs[i]? = some v ∧ Rep K Hv1 v e := fun he => rr.getD he
  refine ⟨a, rfl, ⟨xs, Le.tp g.sub hs⟩, q _ Hv1 H1 g (fun i Hv2 H2 l1 l2 hi => ?_) (fun i Hv2 H2 x H' e l1 l2 he y => ?_) fun Hv2 H2 l1 l2 => ⟨xs, Le.tp l2 (Le.tp l1 hs), by rw [rr.length]; exact Nat.le_refl _⟩⟩
  · obtain ⟨v, hv, _⟩ := at_ (List.getElem?_eq_getElem hi)
    exact ⟨xs, v, Le.tp l2 (Le.tp l1 hs), hv⟩
  · obtain ⟨rfl, hy⟩ := y
    obtain ⟨v, hv, rv⟩ := at_ he
    have := hy xs (Le.tp l2 (Le.tp l1 hs))
    rw [hv] at this
    cases this
    exact ⟨Hv2, Gr.refl l2, rv.mono l1⟩⟩
theorem src_seqL {tl : TE} (h : EvD K b tl ρ d) (hd : lstOf d = some ds) : SrcD K b (iSeq K tl) ρ ds := ⟨fun σ Hv H R A q => .inl ((src_list h hd).run σ Hv H R A q)⟩
theorem src_seqT {tl : TE} (h : EvD K b tl ρ (.tup ds)) : SrcD K b (iSeq K tl) ρ ds := ⟨fun σ Hv H R A q => .inr ((src_tup h).run σ Hv H R A q)⟩
theorem pi_seq {X : Cx} {tg l : Expr} {tl : TE} (hl : PE X l tl) : PI X tg l (iSeq X.K tl) := ⟨fun pins s σ H R I h => h.elim (fun q => (pi_list hl).run pins s σ H R I q) (fun q => (pi_tup hl).run pins s σ H R I q)⟩
theorem src_rng1 {n : Int} (ha : EvA K b tA ρ [.int n]) (h1 : -(2 ^ 62) ≤ n) (h2 : n < 2 ^ 62) : SrcD K b (iRng1 tA) ρ ((List.range n.toNat).map fun i => .int (i : Nat)) := ⟨fun σ Hv H R A q => ha σ Hv H _ A fun vs Hv1 H1 g r => by
  obtain ⟨v, rfl, rv⟩ := r.one
  have e := rv.int_inv
  subst e
  refine ⟨n, rfl, h1, h2, q _ Hv1 H1 g (fun i Hv2 H2 l1 l2 hi => by rw [List.length_map, List.length_range] at hi; exact hi) (fun i Hv2 H2 x H' e l1 l2 he y => ?_) fun Hv2 H2 l1 l2 => by rw [List.length_map, List.length_range]; exact Nat.le_refl _⟩
  obtain ⟨rfl, rfl⟩ := y
  refine ⟨Hv2, Gr.refl l2, ?_⟩
  rw [List.getElem?_map] at he
  by_cases hi : i < n.toNat
  · rw [List.getElem?_range hi] at he
    cases he
    rw [Int.zero_add]
    exact .int _
  · rw [List.getElem?_eq_none (by simpa using hi)] at he
    cases he⟩
theorem src_rng2 {m n : Int} (ha : EvA K b tA ρ [.int m, .int n]) (h1 : -(2 ^ 62) ≤ m ∧ m < 2 ^ 62 ∧ -(2 ^ 62) ≤ n ∧ n < 2 ^ 62) : SrcD K b (iRng2 tA) ρ ((List.range (n - m).toNat).map fun i => .int (m + (i : Nat))) := ⟨fun σ Hv H R A q => ha σ Hv H _ A fun vs Hv1 H1 g r => by
  obtain ⟨v, w, rfl, rv, rw'⟩ := r.two
  have e := rv.int_inv
  have e2 := rw'.int_inv
  subst e e2
  refine ⟨m, n, rfl, h1, q _ Hv1 H1 g (fun i Hv2 H2 l1 l2 hi => by rw [List.length_map, List.length_range] at hi; exact hi) (fun i Hv2 H2 x H' e l1 l2 he y => ?_) fun Hv2 H2 l1 l2 => by rw [List.length_map, List.length_range]; exact Nat.le_refl _⟩
  obtain ⟨rfl, rfl⟩ := y
  refine ⟨Hv2, Gr.refl l2, ?_⟩
  rw [List.getElem?_map] at he
  by_cases hi : i < (n - m).toNat
  · rw [List.getElem?_range hi] at he
    cases he
    exact .int _
  · rw [List.getElem?_eq_none (by simpa using hi)] at he
    cases he⟩
theorem src_rng3 {m n c : Int} {k : Nat} (ha : EvA K b tA ρ [.int m, .int n, .int c]) (h1 : RgC m n c k) : SrcD K b (iRng3 tA) ρ ((List.range k).map fun i => .int (m + (i : Nat) * c)) := ⟨fun σ Hv H R A q => ha σ Hv H _ A fun vs Hv1 H1 g r => by
  cases r with
  | cons r1 r =>
    obtain ⟨w, w2, rfl, rw', rw2⟩ := r.two
    have e := r1.int_inv
    have e2 := rw'.int_inv
    have e3 := rw2.int_inv
    subst e e2 e3
    refine ⟨m, n, c, k, rfl, h1, q _ Hv1 H1 g (fun i Hv2 H2 l1 l2 hi => by rw [List.length_map, List.length_range] at hi; exact hi) (fun i Hv2 H2 x H' e l1 l2 he y => ?_) fun Hv2 H2 l1 l2 => by rw [List.length_map, List.length_range]; exact Nat.le_refl _⟩
    obtain ⟨rfl, rfl⟩ := y
    refine ⟨Hv2, Gr.refl l2, ?_⟩
    rw [List.getElem?_map] at he
    by_cases hi : i < k
    · rw [List.getElem?_range hi] at he
      cases he
      exact .int _
    · rw [List.getElem?_eq_none (by simpa using hi)] at he
      cases he⟩
/-- the items with their places -/
def enumD (ds : List D) : List D := (List.range ds.length).map fun i => .tup [.int (i : Nat), ds[i]?.getD .non]
theorem enumD_get {i : Nat} {e : D} (h : (enumD ds)[i]? = some e) : ∃ x, ds[i]? = some x ∧ e = .tup [.int (i : Nat), x] := by
  unfold enumD at h
  rw [List.getElem?_map] at h
  by_cases hi : i < ds.length
  · rw [List.getElem?_range hi] at h
    cases h
    exact ⟨ds[i], List.getElem?_eq_getElem hi, by
      show D.tup [.int (i : Nat), ds[i]?.getD .non] = _
      rw [List.getElem?_eq_getElem hi] <;> rfl⟩
  · rw [List.getElem?_eq_none (by simpa using hi)] at h
    cases h
theorem enumD_length : (enumD ds).length = ds.length := by simp [enumD]
theorem src_enum (ha : EvA K b tA ρ [d]) (hd : lstOf d = some ds) : SrcD K b (iEnum K tA) ρ (enumD ds) := ⟨fun σ Hv H R A q => ha σ Hv H _ A fun vs Hv1 H1 g r0 => by
  obtain ⟨v, rfl, r⟩ := r0.one
  obtain ⟨a, xs, rfl, hs, rr⟩ := r.list hd
  refine ⟨a, xs, rfl, Le.l g.sub hs, q _ Hv1 H1 g (fun i Hv2 H2 l1 l2 hi => ?_) (fun i Hv2 H2 x H' e l1 l2 he y => ?_) fun Hv2 H2 l1 l2 => ⟨xs, Le.l l2 (Le.l l1 hs), by rw [rr.length, enumD_length]; exact Nat.le_refl _⟩⟩
  · rw [enumD_length] at hi
    obtain ⟨v, hv, _⟩ := rr.getD (List.getElem?_eq_getElem hi)
    exact ⟨xs, v, Le.l l2 (Le.l l1 hs), hv⟩
  · obtain ⟨x0, hx0, rfl⟩ := enumD_get he
    obtain ⟨T, w, rfl, hT, rfl, hy⟩ := y
    obtain ⟨v, hv, rv⟩ := rr.getD hx0
    have := hy xs (Le.l l2 (Le.l l1 hs))
    rw [hv] at this
    cases this
    exact ⟨_, Gr.new l2 hT, .tup upd_same (.cons (.int _) (.cons (rv.mono (Le.trans l1 (Le.new (Le.none l2 hT)))) .nil))⟩⟩
def zipD : List D → List D → List D
  | x :: xs, y :: ys => .tup [x, y] :: zipD xs ys
  | _, _ => []
theorem zipD_get : ∀ {ds es : List D} {i : Nat} {e : D}, (zipD ds es)[i]? = some e → ∃ x y, ds[i]? = some x ∧ es[i]? = some y ∧ e = .tup [x, y]
  | [], _, _, _, h => by simp [zipD] at h
  | _ :: _, [], _, _, h => by simp [zipD] at h
  | x :: xs, y :: ys, 0, e, h => by
    simp [zipD] at h
    exact ⟨x, y, rfl, rfl, h.symm⟩
  | x :: xs, y :: ys, i + 1, e, h => by
    obtain ⟨a, c, h1, h2, h3⟩ := zipD_get (ds := xs) (es := ys) (i := i) (by simpa [zipD] using h)
    exact ⟨a, c, by simpa using h1, by simpa using h2, h3⟩
theorem zipD_length : ∀ (ds es : List D), (zipD ds es).length = min ds.length es.length
  | [], _ => by simp [zipD]
  | _ :: _, [] => by simp [zipD]
  | x :: xs, y :: ys => by
    simp only [zipD, List.length_cons, zipD_length xs ys]
    omega
theorem src_zip {es : List D} (ha : EvA K b tA ρ [d, e]) (hd : lstOf d = some ds) (he : lstOf e = some es) : SrcD K b (iZip K tA) ρ (zipD ds es) := ⟨fun σ Hv H R A q => ha σ Hv H _ A fun vs Hv1 H1 g r => by
  obtain ⟨v, w, rfl, r1, r2⟩ := r.two
  obtain ⟨a, xs, rfl, hs, rr⟩ := r1.list hd
  obtain ⟨c, ys, rfl, ht, rs⟩ := r2.list he
  refine ⟨a, c, xs, ys, rfl, Le.l g.sub hs, Le.l g.sub ht, q _ Hv1 H1 g (fun i Hv2 H2 l1 l2 hi => ?_) (fun i Hv2 H2 x H' e l1 l2 he y => ?_) fun Hv2 H2 l1 l2 => ⟨xs, ys, Le.l l2 (Le.l l1 hs), Le.l l2 (Le.l l1 ht), by rw [rr.length, rs.length, zipD_length]; omega⟩⟩
  · rw [zipD_length] at hi
    obtain ⟨v, hv, _⟩ := rr.getD (List.getElem?_eq_getElem (show i < ds.length by omega))
    obtain ⟨w, hw, _⟩ := rs.getD (List.getElem?_eq_getElem (show i < es.length by omega))
    exact ⟨xs, ys, v, w, Le.l l2 (Le.l l1 hs), Le.l l2 (Le.l l1 ht), hv, hw⟩
  · obtain ⟨x0, y0, hx0, hy0, rfl⟩ := zipD_get he
    obtain ⟨T, w, w2, rfl, hT, rfl, hy, hy2⟩ := y
    obtain ⟨v, hv, rv⟩ := rr.getD hx0
    obtain ⟨v2, hv2, rv2⟩ := rs.getD hy0
    have e1 := hy xs (Le.l l2 (Le.l l1 hs))
    rw [hv] at e1
    cases e1
    have e2 := hy2 ys (Le.l l2 (Le.l l1 ht))
    rw [hv2] at e2
    cases e2
    exact ⟨_, Gr.new l2 hT, .tup upd_same (.cons (rv.mono (Le.trans l1 (Le.new (Le.none l2 hT)))) (.cons (rv2.mono (Le.trans l1 (Le.new (Le.none l2 hT)))) .nil))⟩⟩

/-! ### comprehensions -/
theorem evf_lc {wi : TI} {g : TG} {js vs : List Nat} {f : D → Rho → Rho} (p : D → Bool) (m : D → D) (hw : SrcD K b wi ρ ds) (hg : ∀ x ∈ ds, GtD K g x js (f x)) (hj : ∀ j ∈ js, j ∈ vs) (hz : ds.length ≤ 100000)
    (ht : ∀ (x : D), x ∈ ds → EvB K b tt (f x (wipeD ρ vs)) (p x)) (he : ∀ (x : D), x ∈ ds → p x = true → EvD K b te (f x (wipeD ρ vs)) (m x)) :
    EvF K b (tLc wi g tt te vs) ρ ((ds.filter p).map m) := fun σ Hv H Q A q => by
  refine hw.run σ Hv H _ A fun J Hv1 H1 gr hgo hy hst => ?_
  have A1 := A.grow gr
  intro Dl hD
  have hDv : Hv1 Dl = none := Le.none gr.sub hD
  refine ⟨fun i k H => k = ds.length - i ∧ i ≤ ds.length ∧ ∃ Hv' acc, Gr Hv1 H1 Hv' H ∧ Hv' Dl = none ∧ H Dl = some (.lst acc) ∧ RepAll K Hv' acc (((ds.take i).filter p).map m),
    ⟨ds.length, by simp, Nat.zero_le _, Hv1, [], (Gr.refl gr.sub).hid hD hDv, hDv, upd_same, by simpa using RepAll.nil⟩, ?_⟩
  rintro i k H2 ⟨rfl, hi, Hv2, acc, g2, hn, ha, r⟩
  by_cases hlt : i < ds.length
  · refine .inr ⟨hgo i Hv2 H2 g2.vis g2.sub hlt, fun H' => ∃ Hv' acc, Gr Hv1 H1 Hv' H' ∧ Hv' Dl = none ∧ H' Dl = some (.lst acc) ∧ RepAll K Hv' acc (((ds.take (i + 1)).filter p).map m), fun H' q => ⟨ds.length - (i + 1), by omega, rfl, hlt, q⟩, fun x H' y => ?_⟩
    have hx : ds[i]? = some ds[i] := List.getElem?_eq_getElem hlt
    have hm : ds[i] ∈ ds := List.getElem_mem hlt
    obtain ⟨Hv3, g3, r3⟩ := hy i Hv2 H2 x H' ds[i] g2.vis g2.sub hx y
    have A3 : At K b (wipe σ vs) Hv3 H' (wipeD ρ vs) := ((A1.grow g2).grow g3).wipe vs
    refine hg ds[i] hm b x (wipe σ vs) Hv3 H' _ _ A3 r3 fun σ4 w4 A4 => ⟨by rw [w4 vs hj, wipe_wipe], ?_⟩
    refine ht ds[i] hm σ4 Hv3 H' _ A4 fun Hv5 H5 g5 => ?_
    have hn5 : Hv5 Dl = none := by
      have z1 : H' Dl ≠ none := by rw [g3.big _ _ ha]; exact fun z => nomatch z
      have z2 : H2 Dl ≠ none := by rw [ha]; exact fun z => nomatch z
      rw [g5.old Dl z1, g3.old Dl z2]
      exact hn
    have ha5 : H5 Dl = some (.lst acc) := g5.big _ _ (g3.big _ _ ha)
    have r5 : RepAll K Hv5 acc (((ds.take i).filter p).map m) := r.mono (Le.trans g3.vis g5.vis)
    have gg : Gr Hv1 H1 Hv5 H5 := (g2.trans g3).trans g5
    have et : ds.take (i + 1) = ds.take i ++ [ds[i]] := by rw [List.take_add_one, hx] <;> rfl
    cases hp : p ds[i] with
    | false =>
      show ∃ Hv' acc, _
      refine ⟨Hv5, acc, gg, hn5, ha5, ?_⟩
      rw [et, List.filter_append, List.map_append, List.filter_cons, hp]
      simpa using r5
    | true =>
      show te σ4 H5 _
      refine he ds[i] hm hp σ4 Hv5 H5 _ (A4.grow g5) fun y Hv6 H6 g6 ry => ?_
      have z5 : H5 Dl ≠ none := by rw [ha5]; exact fun z => nomatch z
      have hn6 : Hv6 Dl = none := by
        rw [g6.old Dl z5]
        exact hn5
      have ha6 := g6.big _ _ ha5
      refine ⟨acc, ha6, ?_, Hv6, acc ++ [y], (gg.trans g6).hid hD hn6, hn6, upd_same, ?_⟩
      · have h1 := r5.length
        rw [List.length_map] at h1
        have h2 := List.length_filter_le p (ds.take i)
        rw [List.length_take] at h2
        exact Nat.lt_of_lt_of_le (show acc.length < 100000 by omega) (by decide)
      · rw [et, List.filter_append, List.map_append, List.filter_cons, hp]
        exact (r5.mono g6.vis).append (.cons ry .nil)
  · have e : i = ds.length := by omega
    subst e
    refine .inl ⟨hst Hv2 H2 g2.vis g2.sub, ?_⟩
    rw [List.take_length] at r
    exact q Dl acc Hv2 H2 (gr.trans g2) (Le.none gr.big hD) hn ha r
theorem evb_yes : EvB K b tYes ρ true := fun σ Hv H Q A q => q Hv H (Gr.refl A.sub)
theorem evf_lc0 {wi : TI} {g : TG} {js vs : List Nat} {f : D → Rho → Rho} (m : D → D) (hw : SrcD K b wi ρ ds) (hg : ∀ x ∈ ds, GtD K g x js (f x)) (hj : ∀ j ∈ js, j ∈ vs) (hz : ds.length ≤ 100000)
    (he : ∀ (x : D), x ∈ ds → EvD K b te (f x (wipeD ρ vs)) (m x)) : EvF K b (tLc wi g tYes te vs) ρ (ds.map m) := by
  have h := evf_lc (K := K) (b := b) (ρ := ρ) (tt := tYes) (te := te) (p := fun _ => true) m hw hg hj hz (fun x _ => evb_yes) (fun x hx _ => he x hx)
  rw [List.filter_eq_self.mpr (fun _ _ => rfl)] at h
  exact h
end

/-! ### a def -/
def rho0 (n : Nat) (ds : List D) : Rho := ds.map (fun d => some (.dat d)) ++ List.replicate (n - ds.length) none
def Exc (b : Bs) (E : XK) (c : Value) : Prop := ∀ Hv H, Gr b.v b.h Hv H → E c none H
/-- what is to be shown of a def's reading -/
def BodyD (K : PySem.W.Frag) (n : Nat) (t : XK → TS) (R : List D → Out → Prop) : Prop := ∀ (ds : List D) (o : Out) (b : Bs) (E : XK), R ds o → (∀ c, o = .exc c → Exc b E c) →
  StD K b (t E) { nx := fun _ => o = .ret .non, rt := fun d => o = .ret d } (rho0 n ds)
theorem at_entry {K : PySem.W.Frag} {H Hv : Hp} {vs : List V} {ds : List D} {N : List Str} (l : Le Hv H) (r : RepAll K Hv vs ds) : At K ⟨Hv, H, Hv⟩ (L2.start N vs) Hv H (rho0 N.length ds) := by
  have hl := r.length
  refine ⟨Gr.refl l, Le.refl _, ?_, fun i d h => ?_, fun i es h => ?_, fun i j p es fs hij h1 => ?_⟩
  · unfold L2.start rho0
    simp only [List.length_append, List.length_map, List.length_replicate, hl]
  · unfold rho0 at h
    by_cases hi : i < ds.length
    · rw [List.getElem?_append_left (by simpa using hi), List.getElem?_map] at h
      cases e : ds[i]? with
      | none => rw [e] at h; cases h
      | some d' =>
        rw [e] at h
        cases h
        obtain ⟨v, hv, rv⟩ := r.getD e
        refine ⟨v, ?_, rv⟩
        unfold L2.start
        rw [List.getElem?_append_left (by simpa [hl] using hi), List.getElem?_map, hv] <;> rfl
    · rw [List.getElem?_append_right (by simpa using hi), List.getElem?_replicate] at h
      split at h <;> cases h
  · unfold rho0 at h
    by_cases hi : i < ds.length
    · rw [List.getElem?_append_left (by simpa using hi), List.getElem?_map] at h
      cases e : ds[i]? with
      | none => rw [e] at h; cases h
      | some d' => rw [e] at h; cases h
    · rw [List.getElem?_append_right (by simpa using hi), List.getElem?_replicate] at h
      split at h <;> cases h
  · unfold rho0 at h1
    by_cases hi : i < ds.length
    · rw [List.getElem?_append_left (by simpa using hi), List.getElem?_map] at h1
      cases e : ds[i]? with
      | none => rw [e] at h1; cases h1
      | some d' => rw [e] at h1; cases h1
    · rw [List.getElem?_append_right (by simpa using hi), List.getElem?_replicate] at h1
      split at h1 <;> cases h1
theorem body_pure {K : PySem.W.Frag} {n : Nat} {t : XK → TS} {R : List D → Out → Prop} (h : BodyD K n t R) {N : List Str} (hn : N.length = n) (vs : List V) (H : Hp) (Q : VK) (E : XK) (hs : spD K R vs H Q E) :
    t E { nx := fun _ H' => Q .non H', rt := Q } (L2.start N vs) H := by
  subst hn
  obtain ⟨ds, o, Hv, l, r, hR, hq⟩ := hs
  refine h ds o ⟨Hv, H, Hv⟩ E hR (fun c e => ?_) (L2.start N vs) Hv H _ (at_entry l r) ⟨fun σ Hv' H' ρ A e => ?_, fun v Hv' H' d g rv e => ?_, fun _ _ _ _ _ z => z.elim, fun _ _ _ _ _ z => z.elim⟩
  · subst e
    exact fun Hv' H' g => hq Hv' H' g
  · subst e
    exact hq .non Hv' H' A.gr .non
  · subst e
    exact hq v Hv' H' g rv
theorem spD_len {K : PySem.W.Frag} {R : List D → Out → Prop} {n : Nat} (h : ∀ ds o, R ds o → ds.length = n) : ∀ vs H Q E, spD K R vs H Q E → vs.length = n := fun vs H Q E ⟨ds, o, Hv, l, r, hR, _⟩ => by
  rw [r.length]
  exact h ds o hR
/-- raise C(..) -/
def tRaiseC (W : WX) (c : Value) : TS := fun _ σ H => W c none σ H
theorem st_raise {K : PySem.W.Frag} {b : Bs} {ρ : Rho} {N : DE} {E : XK} {c : Value} (h : Exc b E c) : StD K b (tRaiseC (fun c d _ H => E c d H) c) N ρ := fun σ Hv H _ A _ => h Hv H A.gr
end Kn
namespace Kn
open PySem PySem.Spec L2

/-! ### defs as callers see them -/
/-- the def at the module's name x keeps the promise sp -/
structure Cal (P : Program) (w : World) (K : PySem.W.Frag) (mg : Str → Option Value) (base : Heap) (k : Nat) (x : Str) (ps : List Str) (sp : Sp) : Prop where
  ex : ∃ (f : Addr) (fd : FuncData), mg x = some (.ref f) ∧ PySem.W.keepIn K (.ref f) = true ∧ Binds K fd ps [] ∧ FnOk P w K mg base (L2.CX P w) k f fd ps sp
theorem Cal.mk' {P : Program} {w : World} {K : PySem.W.Frag} {mg : Str → Option Value} {base : Heap} {k : Nat} {x : Str} {ps : List Str} {sp : Sp} {f : Addr} {fd : FuncData} (h1 : mg x = some (.ref f)) (h2 : PySem.W.keepIn K (.ref f) = true) (h3 : Binds K fd ps []) (h4 : FnOk P w K mg base (L2.CX P w) k f fd ps sp) :
    Cal P w K mg base k x ps sp := ⟨⟨f, fd, h1, h2, h3, h4⟩⟩
section
variable {X : Cx} {k j : Nat} {x : Str} {ps : List Str} {sp : Sp} {p pos : Pos} {e : Expr} {es : List Expr} {t : TA}
theorem pe_callC (C : Cal X.prog X.w X.K X.mg X.base k x ps sp) (hr : Room k X.A) (hg : Gl X x) (ha : PA X (e :: es) t) (hdb : (x == ("__debug__" : Str)) = false := by decide)
    (he : starEach (e :: es) X.env = (false, eval e X.env) :: starEach es X.env := by rfl) (hpl : (backTo pos (starEach es X.env)).any (·.1) = false := by rfl) : PE X (.Call (.Name x p) (e :: es) [] pos) (tCall sp [] E0 t) := by
  obtain ⟨f, fd, hm, hk, hb, F⟩ := C.ex
  exact pe_call F hr hg hm hk hb .nil passL ha hdb he hpl
theorem pe_callC0 (C : Cal X.prog X.w X.K X.mg X.base k x ps sp) (hr : Room k X.A) (hg : Gl X x) (hdb : (x == ("__debug__" : Str)) = false := by decide) : PE X (.Call (.Name x p) [] [] pos) (tCall sp [] E0 tNil) := by
  obtain ⟨f, fd, hm, hk, hb, F⟩ := C.ex
  exact pe_call0 F hr hg hm hk hb .nil passL hdb
/-- in a def that lets out what its callee lets out -/
theorem pe_callCX {E : XK} (C : Cal X.prog X.w X.K X.mg X.base k x ps sp) (hr : Room k X.A) (hg : Gl X x) (tk : Takes X (fun cls d _ H => E cls d H)) (ha : PA X (e :: es) t) (hdb : (x == ("__debug__" : Str)) = false := by decide)
    (he : starEach (e :: es) X.env = (false, eval e X.env) :: starEach es X.env := by rfl) (hpl : (backTo pos (starEach es X.env)).any (·.1) = false := by rfl) : PE X (.Call (.Name x p) (e :: es) [] pos) (tCall sp [] E t) := by
  obtain ⟨f, fd, hm, hk, hb, F⟩ := C.ex
  exact pe_call F hr hg hm hk hb .nil (passes_call tk fun _ _ _ _ h => h) ha hdb he hpl
/-- within a try -/
theorem pe_callCS {W : WX} (C : Cal X.prog X.w X.K X.mg X.base k x ps sp) (hr : Room k X.A) (hg : Gl X x) (tk : Takes X W) (ha : PA X (e :: es) t) (hdb : (x == ("__debug__" : Str)) = false := by decide)
    (he : starEach (e :: es) X.env = (false, eval e X.env) :: starEach es X.env := by rfl) (hpl : (backTo pos (starEach es X.env)).any (·.1) = false := by rfl) : PE X (.Call (.Name x p) (e :: es) [] pos) (tCallS sp (WE W) t) := by
  obtain ⟨f, fd, hm, hk, hb, F⟩ := C.ex
  exact pe_callS F hr hg hm hk hb (fun σ => passAt tk σ) ha hdb he hpl
end
/-- an own class of errors without __init__ -/
structure ExcF (K : PySem.W.Frag) (mg : Str → Option Value) (x : Str) : Prop where
  g : mg x = some (.ref (He.ga K x))
  i : PySem.W.excIn K (He.ga K x) He.veBase "ValueError.__new__" = true
  k : PySem.W.keepIn K (.ref (He.ga K x)) = true
  s : PySem.W.subIn K (.ref (He.ga K x)) (.type "BaseException") = some true
  t : PySem.W.typeIn K (.ref (He.ga K x)) = some (.type "type")
theorem excC {K : PySem.W.Frag} {h : Heap} {mg : Str → Option Value} {x : Str} (X : K.In h) (G : h.Ns mainGlobals mg) (c1 : (He.Fa.glo x).ok K = true) (c2 : (He.Fa.exc x).ok K = true) : ExcF K mg x := by
  obtain ⟨h1, h2, h3, h4⟩ := He.exc_ok c2
  exact ⟨He.glo_ok X G c1, h1, h2, h3, h4⟩
theorem ps_raiseC {X : Cx} {W : WX} {x m : Str} {j : Nat} {p p2 pos pos2 : Pos} (e : ExcF X.K X.mg x) (hc : X.calm = true) (tk : Takes X W) (hg : Gl X x) (hdb : (x == ("__debug__" : Str)) = false := by decide) :
    PS X (.Raise (some (.Call (.Name x p) [.Constant (.str m) j p2] [] pos)) none pos2) (tRaiseC W (.ref (He.ga X.K x))) :=
  ps_raise hc tk (pmk_own PySem.F.excBase_ValueError e.i e.g e.k (raises_own e.s e.t) hg hdb)
/-- try .. except c as n -/
def tTryAs (K : PySem.W.Frag) (c : Value) (i : Nat) (tb : WX → TS) (ts : Addr → Value → Option Addr → TS) : TS := fun D σ H => tb (wAs K c i ts (fun _ _ _ _ => False) D) D σ H

/-! ### comprehensions, the wiped slots told -/
section
variable {X : Cx} {elt tg iter : Expr} {ifs : List Expr} {scope : Scope} {pos spos py : Pos} {y : Str} {wi : TI} {g : TG} {tt : TT} {te : TE} {i : Nat}
theorem pe_lcV (own : List (Str × Nat)) (vs : List Nat) (hv : own.map (·.2) = vs) (hc : X.calm = true) (hN : X.N.Nodup) (hi : PI X tg iter wi) (ok : BlkOk X.N X.env.scope scope own)
    (hg : ∀ (s : Shared) (H : Hp) (C : Addr) (cl : List (Str × Addr)) (fp : List Addr), PG (X.blk s H scope (compEnvC scope cl C X.env) fp) tg g)
    (ht : ∀ (s : Shared) (H : Hp) (C : Addr) (cl : List (Str × Addr)) (fp : List Addr), PTs (X.blk s H scope (compEnvC scope cl C X.env) fp) ifs tt)
    (he : ∀ (s : Shared) (H : Hp) (C : Addr) (cl : List (Str × Addr)) (fp : List Addr), PE (X.blk s H scope (compEnvC scope cl C X.env) fp) elt te)
    (hs : ∀ x, foldedSetIterable iter X.env x = pure x := by intro _; rfl) : PE X (.ListComp elt [⟨tg, iter, ifs, 0⟩] scope pos) (tLc wi g tt te vs) := by
  subst hv
  exact pe_lc hc hN hi ok hg ht he hs
theorem ps_setLcV (own : List (Str × Nat)) (vs : List Nat) (hv : own.map (·.2) = vs) (hc : X.calm = true) (hN : X.N.Nodup) (hy : X.N[i]? = some y) (hyl : X.env.scope.names.lookup y = some .local)
    (hsw : swapsWith (.ListComp elt [⟨tg, iter, ifs, 0⟩] scope pos) (some (.Name y py)) spos.line X.env = pure true) (hi : PI X tg iter wi) (ok : BlkOk X.N X.env.scope scope own)
    (hg : ∀ (s : Shared) (H : Hp) (C : Addr) (cl : List (Str × Addr)) (fp : List Addr), PG (X.blk s H scope (compEnvC scope cl C X.env) fp) tg g)
    (ht : ∀ (s : Shared) (H : Hp) (C : Addr) (cl : List (Str × Addr)) (fp : List Addr), PTs (X.blk s H scope (compEnvC scope cl C X.env) fp) ifs tt)
    (he : ∀ (s : Shared) (H : Hp) (C : Addr) (cl : List (Str × Addr)) (fp : List Addr), PE (X.blk s H scope (compEnvC scope cl C X.env) fp) elt te)
    (hs : ∀ x, foldedSetIterable iter X.env x = pure x := by intro _; rfl) : PS X (.Assign [.Name y py] (.ListComp elt [⟨tg, iter, ifs, 0⟩] scope pos) spos) (tAsg (tLc wi g tt te vs) (gName i)) := by
  subst hv
  exact ps_setLc hc hN hy hyl hsw hi ok hg ht he hs
end

/-! ### sizes -/
theorem mul_s {i j : Int} (h : -18446744073709551616 < i ∧ i < 18446744073709551616 ∨ -18446744073709551616 < j ∧ j < 18446744073709551616) : IntMulOk i j := CMul.ok h
theorem mul_w {i j : Int} {a b : Nat} (ha : i.natAbs < 2 ^ a) (hb : j.natAbs < 2 ^ b) (h0 : 0 < a) (h1 : 0 < b) (h : a + b ≤ 1000000) : IntMulOk i j := CMulW.ok (wide_mul ha hb h0 h1 h)
theorem log_lt {j : Int} {b : Nat} (hb : j.natAbs < 2 ^ b) (h0 : 0 < b) (h9 : b ≤ 9000) : j.natAbs.log2 < 9000 := Nat.lt_of_lt_of_le (PySem.Flt.log2_lt_of h0 hb) h9
theorem log_s {j : Int} (h : -18446744073709551616 < j ∧ j < 18446744073709551616) : j.natAbs.log2 < 9000 := log_lt (b := 64) (by omega) (by decide) (by decide)

/-! ### the module's end -/
/-- the law's def at the module's name law: what walk_ofE asks -/
theorem law_end {K : PySem.W.Frag} {R : List D → Out → Prop} {x : Str} {f : Addr} {fd : FuncData} {params : Arguments} {body : List Stmt} {scope : Scope}
    (F : FunD K "law" "law" params body scope [] [] f fd) (hb : ∀ (kV doc pm : Value) (an : Option Addr) (cdv ct : Value) (us : List Value), us.length = [x].length → bindArgs (PySem.W.fnOf "law" "law" params body scope .none kV doc pm an cdv ct) ⟨us, []⟩ = pure ([x].zip us))
    (hR : ∀ ns : List Int, ns.length ≤ 63 → R [.fro (ns.map D.int)] (.ret (.bl true))) :
    (∀ (s : Shared) (u : Value), BindsTo s fd ⟨[u], []⟩ [(x, u)]) ∧ ∀ (H : Hp) (a : Addr) (ns : List Int), ns.length ≤ 63 → Only H → SqL K H a (ns.map V.int) → spD K R [.ref a] H (fun v _ => v = .bl true) fun _ _ _ => False := by
  refine ⟨fun s u => FunD.bindsA F hb s [u] rfl, fun H a ns hl _ hS => ⟨[.fro (ns.map D.int)], .ret (.bl true), H, Le.refl H, .cons (.fro hS (RepAll.ints ns)) .nil, hR ns hl, fun v Hv' H' _ r => r.bl_inv⟩⟩
theorem cx_none {P : Program} {w : World} {outer : List Env} {H : Hp} {s : Shared} {e : Value} {s' : Shared} (z : L2.CX P w outer H s (fun _ _ _ => False) e s') : False := by
  obtain ⟨_, _, _, _, _, _, _, _, _, _, _, _, q⟩ := z
  exact q
/-- a law's end over the head's facts; what is let out hangs on the world -/
theorem walk_end {l : PySem.W.OpenLaw} {n k : Nat} {q : Program} {loose : List Str} {XP : (Str → Option Value) → Heap → Prop} {YP : World → Heap → Prop} {d : DefRec} {x : Str}
    (hn : l.most = some n) (hn2 : n ≤ sizeLine) (hdf : d.params.defaults = []) (hr : Room k callerA)
    (F : ∀ (w : World) (mg : Str → Option Value) (fa : Addr) (h : Heap), YP w h → h.Ns mainGlobals mg → mg d.name = some (.ref fa) → ∃ (K : PySem.W.Frag) (fd : FuncData) (sp : Sp), K.In h ∧
      (∀ (s : Shared) (u : Value), BindsTo s fd ⟨[u], []⟩ [(x, u)]) ∧ (∀ (H : Hp) (a : Addr) (ns : List Int), ns.length ≤ n → Only H → SqL K H a (ns.map V.int) → sp [.ref a] H (fun v _ => v = .bl true) fun _ _ _ => False) ∧
      ∀ b : Heap, K.In b → b.Ns mainGlobals mg → FnOk l.prog w K mg b (L2.CX l.prog w) k fa fd [x] sp) : PySem.W.WalkO q loose XP YP l.row.toRowW d [] (fun f vs => PySem.call f vs) :=
  Att.attach_call hn hdf fun w _ s₁ mg mb fa o pm cd doc a vs ns G Y _ _ _ hmg hobj hints hlen hg => by
    obtain ⟨K, fd, sp, KX, h1, h2, h3⟩ := F w mg fa _ Y G.T.g hmg
    exact law_call KX G.T.g G.T.b G.T.builtins G.T.nolimit hg hobj hints (Nat.le_trans hlen hn2) hr h3 h1 (fun H hO hS => h2 H a ns hlen hO hS) fun H e s' => cx_none
end Kn
namespace Kn
open PySem PySem.Spec L2

/-! ### isinstance of a caught error -/
def rIsX (K : PySem.W.Frag) (a : Addr) (cls : Value) (d : Option Addr) : List V → Hp → VK → Prop := fun xs H Q => ∃ (D : Addr) (c : V) (cv : Value) (b : Bool), cls = .ref D ∧ d = none ∧ ExcC K D ∧ xs = [.ref a, c] ∧ (∀ u, RelV c u → u = cv) ∧ PySem.W.kitOne K (.ref D) cv = some b ∧ Q (.bl b) H
theorem call_isX {X : Cx} {a : Addr} {oe : Obj} {pn : List (Addr × Obj)} {cls : Value} {d : Option Addr} (hz : Zc cls d oe) (hf : ∃ vs, oe.data = .fields vs) : CallR (X.suite a ((a, oe) :: pn)) (.builtin "isinstance") (rIsX X.K a cls d) := by
  intro pins s σ H xs us Q I r h
  obtain ⟨D, c, cv, b, rfl, rfl, C, e1, e2, e3, q⟩ := h
  exact call_isE C hz hf pins s σ H xs us Q I r ⟨c, cv, b, e1, e2, e3, q⟩
section
variable {K : PySem.W.Frag}
theorem cd_isXr {a D C : Addr} {k : Bool} (h : ExcC K D) (e : PySem.W.kitOne K (.ref D) (.ref C) = some k) : CD K (rIsX K a (.ref D) none) [.obj (.ref a), .obj (.ref C)] (.bl k) := fun xs Hv H Q l r q => by
  obtain ⟨x, y, rfl, r1, r2⟩ := r.two
  have e1 := r1.obj_inv
  have e2 := r2.obj_inv
  subst e1 e2
  exact ⟨D, .ref C, .ref C, k, rfl, rfl, h, rfl, fun u hu => hu, e, q _ Hv H (Gr.refl l) (.bl _)⟩
theorem cd_isXt {a D : Addr} {n : String} {k : Bool} (h : ExcC K D) (e : PySem.W.kitOne K (.ref D) (.type n) = some k) : CD K (rIsX K a (.ref D) none) [.obj (.ref a), .obj (.ty n)] (.bl k) := fun xs Hv H Q l r q => by
  obtain ⟨x, y, rfl, r1, r2⟩ := r.two
  have e1 := r1.obj_inv
  have e2 := r2.obj_inv
  subst e1 e2
  exact ⟨D, .ty n, .type n, k, rfl, rfl, h, rfl, fun u hu => hu, e, q _ Hv H (Gr.refl l) (.bl _)⟩
end
/-! the facts of it, by the head -/
def excXB (K : PySem.W.Frag) (x : Str) : Bool :=
  He.eqO (PySem.W.findIn K (.ref (He.ga K x)) "__getattribute__") (some (some (.builtin "BaseException.__getattribute__"))) && (He.eqO (PySem.W.findIn K (.ref (He.ga K x)) "__getattr__") (some none) &&
  (decide (PySem.W.subIn K (.ref (He.ga K x)) (.type "BaseException") = some true) && (PySem.W.hasDictIn K (He.ga K x) && (He.eqO (PySem.W.findIn K (.ref (He.ga K x)) "__class__") (some (some (.builtin "object.__class__"))) &&
  (He.eqO (PySem.W.specialIn K (.builtin "object.__class__") "__get__") (some (some (.builtin "getset_descriptor.__get__"))) && (decide (PySem.W.takesIn K (.builtin "object.__class__") = some true) && decide (PySem.W.mroIn K (He.ga K x) (.type "object") = some true)))))))
theorem excXB_ok {K : PySem.W.Frag} {x : Str} (h : excXB K x = true) : ExcC K (He.ga K x) := by
  obtain ⟨h1, h⟩ := He.ba h
  obtain ⟨h2, h⟩ := He.ba h
  obtain ⟨h3, h⟩ := He.ba h
  obtain ⟨h4, h⟩ := He.ba h
  obtain ⟨h5, h⟩ := He.ba h
  obtain ⟨h6, h⟩ := He.ba h
  obtain ⟨h7, h8⟩ := He.ba h
  exact ⟨He.eqO_ok h1, He.eqO_ok h2, of_decide_eq_true h3, h4, He.eqO_ok h5, He.eqO_ok h6, of_decide_eq_true h7, of_decide_eq_true h8⟩
def kitVB (K : PySem.W.Frag) (x : Str) (n : String) (b : Bool) : Bool := decide (PySem.W.kitOne K (.ref (He.ga K x)) (.type n) = some b)
def kitPB (K : PySem.W.Frag) (x y : Str) (b : Bool) : Bool := decide (PySem.W.kitOne K (.ref (He.ga K x)) (.ref (He.ga K y)) = some b)
def exmPB (K : PySem.W.Frag) (x y : Str) (b : Bool) : Bool := decide (PySem.W.exmOne K (.ref (He.ga K x)) (.ref (He.ga K y)) = some b)
/-- all of it for the errors xs, the classes ys -/
def exB (xs ys : List Str) (K : PySem.W.Frag) : Bool := xs.all fun x => excXB K x && (kitVB K x "ValueError" true && (exmPB K x x true && (exmPB K x "KnellError" true && ys.all fun y => kitPB K x y (x == y || y == "KnellError"))))
structure ExOk (ys : List Str) (K : PySem.W.Frag) (x : Str) : Prop where
  c : ExcC K (He.ga K x)
  v : PySem.W.kitOne K (.ref (He.ga K x)) (.type "ValueError") = some true
  self : PySem.W.exmOne K (.ref (He.ga K x)) (.ref (He.ga K x)) = some true
  base : PySem.W.exmOne K (.ref (He.ga K x)) (.ref (He.ga K "KnellError")) = some true
  k : ∀ y ∈ ys, PySem.W.kitOne K (.ref (He.ga K x)) (.ref (He.ga K y)) = some (x == y || y == "KnellError")
theorem exB_ok {xs ys : List Str} {K : PySem.W.Frag} (h : exB xs ys K = true) {x : Str} (hx : x ∈ xs) : ExOk ys K x := by
  have h1 := List.all_eq_true.mp h x hx
  obtain ⟨h2, h1⟩ := He.ba h1
  obtain ⟨h3, h1⟩ := He.ba h1
  obtain ⟨h4, h1⟩ := He.ba h1
  obtain ⟨h5, h6⟩ := He.ba h1
  exact ⟨excXB_ok h2, of_decide_eq_true h3, of_decide_eq_true h4, of_decide_eq_true h5, fun y hy => of_decide_eq_true (List.all_eq_true.mp h6 y hy)⟩
/-! the head's look with one more truth -/
abbrev AlX : Type := He.AlD × Bool
def obsX (fa : List He.Fa) (fn : List He.DefD) (ex : PySem.W.Frag → Bool) (K : PySem.W.Frag) : AlX := (He.obsD fa fn K, ex K)
def hookX (n : Nat) (fa : List He.Fa) (fn : List He.DefD) (ex : PySem.W.Frag → Bool) : PySem.W.Hook where
  α := AlX
  obs := fun s => obsX fa fn ex (He.frG s.heap.get? (He.asD s.heap.get? n))
  val := fun _ => (He.valD fn, true)
  says := fun _ h => ∃ K : PySem.W.Frag, K.In h ∧ He.SaysD fa fn K ∧ ex K = true
  of := fun _ _ e => ⟨_, He.frG_in, congrArg (fun z : AlX => z.1) e, congrArg (fun z : AlX => z.2) e⟩
  keeps := fun _ _ _ ⟨K, hK, c⟩ k => ⟨K, PySem.W.Frag.In.keeps hK k, c⟩
def obsXG (n : Nat) (fa : List He.Fa) (fn : List He.DefD) (ex : PySem.W.Frag → Bool) (g : Addr → Option Obj) : AlX := obsX fa fn ex (He.frG g (He.asD g n))
theorem obsXG_eq {n : Nat} {fa : List He.Fa} {fn : List He.DefD} {ex : PySem.W.Frag → Bool} {g : Addr → Option Obj} {s : Shared} (h : ∀ a, g a = s.heap.get? a) : obsXG n fa fn ex g = (hookX n fa fn ex).obs s := by
  rw [show g = s.heap.get? from funext h] <;> rfl

/-! ### try -/
section
variable {K : PySem.W.Frag} {b : Bs} {ρ : Rho} {tA : TA} {ds : List D} {N : DE} {R : List D → Out → Prop} {c cls : Value} {i : Nat} {tb : WX → TS} {ts : Addr → Value → Option Addr → TS}
theorem st_try_ok (h : ∀ W, StD K b (tb W) N ρ) : StD K b (tTryAs K c i tb ts) N ρ := fun σ Hv H E A C => h _ σ Hv H E A C
/-- what is wanted where the suite is come to -/
theorem was_of {σ : L2.St} {Hv H : Hp} {E : Ends} {Wo : WX} (A : At K b σ Hv H ρ) (C : Cn K b N E) (he : PySem.W.exmOne K cls c = some true)
    (hs : ∀ a : Addr, StD K b (ts a cls none) { nx := fun r => N.nx (r.set i none), rt := N.rt, bk := fun r => N.bk (r.set i none), ct := fun r => N.ct (r.set i none) } (ρ.set i (some (.dat (.obj (.ref a)))))) : wAs K c i ts Wo E cls none σ H :=
  ⟨true, he, fun _ a _ => hs a _ Hv H _ (A.setDat (.obj (.ref a))) ⟨fun σ' Hv' H' ρ' A' q => C.nx _ Hv' H' _ A'.forget q, C.rt, fun σ' Hv' H' ρ' A' q => C.bk _ Hv' H' _ A'.forget q, fun σ' Hv' H' ρ' A' q => C.ct _ Hv' H' _ A'.forget q⟩, fun z => nomatch z⟩
theorem st_try_drop (ha : EvA K b tA ρ ds) (hr : R ds (.exc cls)) (he : PySem.W.exmOne K cls c = some true)
    (hs : ∀ a : Addr, StD K b (ts a cls none) { nx := fun r => N.nx (r.set i none), rt := N.rt, bk := fun r => N.bk (r.set i none), ct := fun r => N.ct (r.set i none) } (ρ.set i (some (.dat (.obj (.ref a)))))) :
    StD K b (tTryAs K c i (fun W => tDrop (tCallS (spD K R) (WE W) tA)) ts) N ρ := fun σ Hv H E A C =>
  ha σ Hv H _ A fun vs Hv1 H1 g1 r1 => ⟨ds, .exc cls, Hv1, g1.sub, r1, hr, fun Hv2 H2 g2 => was_of (A.grow (g1.trans g2)) C he hs⟩
end
end Kn
namespace Kn

/-! ### Euclid with weights -/
/-- the rest by the floor division, by the divisor's sign -/
theorem rest_pos {h t : Int} (ht : 0 < t) : h.fdiv t = h / t ∧ h - h.fdiv t * t = h % t := by
  have e : h.fdiv t = h / t := Int.fdiv_eq_ediv_of_nonneg h (by omega)
  refine ⟨e, ?_⟩
  rw [e, Int.emod_def, Int.mul_comm]
theorem rest_neg {h t : Int} (ht : t < 0) : h.fdiv t = (-h) / (-t) ∧ h - h.fdiv t * t = -((-h) % (-t)) := by
  have e : h.fdiv t = (-h) / (-t) := by
    rw [← Int.neg_fdiv_neg]
    exact Int.fdiv_eq_ediv_of_nonneg (-h) (by omega)
  refine ⟨e, ?_⟩
  rw [e, Int.emod_def, Int.neg_mul, Int.mul_comm t]
  omega
theorem rest_lt {h t : Int} (ht : t ≠ 0) : (h - h.fdiv t * t).natAbs < t.natAbs := by
  rcases Int.lt_or_gt_of_ne ht with h1 | h1
  · rw [(rest_neg h1).2]
    have := Int.emod_nonneg (-h) (show -t ≠ 0 by omega)
    have := Int.emod_lt_of_pos (-h) (show 0 < -t by omega)
    omega
  · rw [(rest_pos h1).2]
    have := Int.emod_nonneg h (show t ≠ 0 by omega)
    have := Int.emod_lt_of_pos h h1
    omega
def wl (here u v there ou ov : Int) : Int × Int × Int :=
  if _h : there = 0 then (here, u, v) else wl there ou ov (here - here.fdiv there * there) (u - here.fdiv there * ou) (v - here.fdiv there * ov)
termination_by there.natAbs
decreasing_by exact rest_lt _h
theorem wl_zero (here u v ou ov : Int) : wl here u v 0 ou ov = (here, u, v) := by
  rw [wl]
  simp
theorem wl_step {there : Int} (h : there ≠ 0) (here u v ou ov : Int) : wl here u v there ou ov = wl there ou ov (here - here.fdiv there * there) (u - here.fdiv there * ou) (v - here.fdiv there * ov) := by
  rw [wl, dif_neg h]
/-- what weights tells -/
def wRes (a c : Int) : Int × Int × Int :=
  if (wl a 1 0 c 0 1).1 < 0 then (0 - (wl a 1 0 c 0 1).1, 0 - (wl a 1 0 c 0 1).2.1, 0 - (wl a 1 0 c 0 1).2.2) else wl a 1 0 c 0 1

/-- what stays true of the loop; B bounds the weights -/
structure WJ (a c : Int) (B : Nat) (here u v there ou ov : Int) : Prop where
  e1 : here = u * a + v * c
  e2 : there = ou * a + ov * c
  g : Int.gcd here there = Int.gcd a c
  bh : here.natAbs ≤ B
  bt : there.natAbs ≤ c.natAbs
  bu : u.natAbs ≤ B
  bv : v.natAbs ≤ B
  bou : ou.natAbs ≤ B
  bov : ov.natAbs ≤ B
  later : (here = a ∧ there = c ∧ u = 1 ∧ v = 0 ∧ ou = 0 ∧ ov = 1) ∨
    (here ≠ 0 ∧ ((0 < here ∧ 0 ≤ there) ∨ (here < 0 ∧ there ≤ 0)) ∧ u.natAbs * there.natAbs + ou.natAbs * here.natAbs ≤ B ∧ v.natAbs * there.natAbs + ov.natAbs * here.natAbs ≤ B)
theorem wj_start (a c : Int) : WJ a c (a.natAbs + 2 * c.natAbs + 1) a 1 0 c 0 1 := by
  refine ⟨by omega, by omega, rfl, by omega, Nat.le_refl _, by omega, by omega, by omega, by omega, .inl ⟨rfl, rfl, rfl, rfl, rfl, rfl⟩⟩
/-- signs alike: sizes divide -/
theorem rest_abs {h t : Int} (hs : (0 < t ∧ 0 ≤ h) ∨ (t < 0 ∧ h ≤ 0)) : (h.fdiv t).natAbs * t.natAbs + (h - h.fdiv t * t).natAbs = h.natAbs := by
  rcases hs with ⟨h1, h2⟩ | ⟨h1, h2⟩
  · obtain ⟨e1, e2⟩ := rest_pos (h := h) h1
    rw [e2, e1]
    have a1 : 0 ≤ h / t := Int.ediv_nonneg h2 (by omega)
    have a2 := Int.emod_nonneg h (show t ≠ 0 by omega)
    have a3 := Int.mul_ediv_add_emod h t
    have a4 : ((h / t).natAbs * t.natAbs : Nat) = (h / t * t).natAbs := (Int.natAbs_mul _ _).symm
    rw [a4]
    have a5 : 0 ≤ h / t * t := Int.mul_nonneg a1 (by omega)
    rw [Int.mul_comm] at a3
    omega
  · obtain ⟨e1, e2⟩ := rest_neg (h := h) h1
    rw [e2, e1]
    have a1 : 0 ≤ (-h) / (-t) := Int.ediv_nonneg (by omega) (by omega)
    have a2 := Int.emod_nonneg (-h) (show -t ≠ 0 by omega)
    have a3 := Int.mul_ediv_add_emod (-h) (-t)
    have a4 : (((-h) / (-t)).natAbs * t.natAbs : Nat) = ((-h) / (-t) * (-t)).natAbs := by rw [Int.natAbs_mul, Int.natAbs_neg]
    rw [a4]
    have a5 : 0 ≤ (-h) / (-t) * (-t) := Int.mul_nonneg a1 (by omega)
    rw [Int.mul_comm] at a3
    omega
theorem rest_sign {h t : Int} (ht : t ≠ 0) : (0 < t ∧ 0 ≤ h - h.fdiv t * t) ∨ (t < 0 ∧ h - h.fdiv t * t ≤ 0) := by
  rcases Int.lt_or_gt_of_ne ht with h1 | h1
  · refine .inr ⟨h1, ?_⟩
    rw [(rest_neg h1).2]
    have := Int.emod_nonneg (-h) (show -t ≠ 0 by omega)
    omega
  · refine .inl ⟨h1, ?_⟩
    rw [(rest_pos h1).2]
    exact Int.emod_nonneg h (show t ≠ 0 by omega)
theorem pot {p q t h w : Nat} {x y z : Nat} (e : w * t + x = h) (hz : z ≤ p + w * q) (hb : p * t + q * h ≤ y) : q * x + z * t ≤ y := by
  subst e
  have h1 : z * t ≤ (p + w * q) * t := Nat.mul_le_mul_right t hz
  have h2 : (p + w * q) * t = p * t + w * q * t := Nat.add_mul _ _ _
  have h3 : q * (w * t + x) = q * (w * t) + q * x := Nat.mul_add _ _ _
  have h4 : w * q * t = q * (w * t) := by rw [Nat.mul_comm w q, Nat.mul_assoc]
  omega
theorem lin {a c u v ou ov q : Int} : u * a + v * c - q * (ou * a + ov * c) = (u - q * ou) * a + (v - q * ov) * c := by
  rw [Int.sub_mul, Int.sub_mul, Int.mul_add, ← Int.mul_assoc, ← Int.mul_assoc]
  omega
theorem wj_step {a c : Int} {B : Nat} {here u v there ou ov : Int} (hB : a.natAbs + 2 * c.natAbs + 1 ≤ B) (J : WJ a c B here u v there ou ov) (ht : there ≠ 0) :
    WJ a c B there ou ov (here - here.fdiv there * there) (u - here.fdiv there * ou) (v - here.fdiv there * ov) := by
  have hr := rest_lt (h := here) ht
  have hs := rest_sign (h := here) ht
  have g : Int.gcd there (here - here.fdiv there * there) = Int.gcd a c := by
    rw [Int.gcd_sub_mul_right_right, Int.gcd_comm]
    exact J.g
  have e1 : here - here.fdiv there * there = (u - here.fdiv there * ou) * a + (v - here.fdiv there * ov) * c := by
    rw [← lin, ← J.e1, ← J.e2]
  have bt := J.bt
  have bs : ∀ (p q : Int), (p - here.fdiv there * q).natAbs ≤ p.natAbs + (here.fdiv there).natAbs * q.natAbs := fun p q => by
    have h1 := Int.natAbs_sub_le p (here.fdiv there * q)
    rw [Int.natAbs_mul] at h1
    exact h1
  have sg : (0 < there ∧ 0 ≤ here - here.fdiv there * there) ∨ (there < 0 ∧ here - here.fdiv there * there ≤ 0) := hs
  have one : 1 ≤ there.natAbs := by omega
  -- the two sums at the new state
  have key : ou.natAbs * (here - here.fdiv there * there).natAbs + (u - here.fdiv there * ou).natAbs * there.natAbs ≤ B ∧ ov.natAbs * (here - here.fdiv there * there).natAbs + (v - here.fdiv there * ov).natAbs * there.natAbs ≤ B := by
    rcases J.later with ⟨rfl, rfl, rfl, rfl, rfl, rfl⟩ | ⟨hn, hsg, p1, p2⟩
    · constructor
      · rw [Int.mul_zero]
        show 0 * _ + 1 * there.natAbs ≤ B
        omega
      · have h1 : (0 - here.fdiv there * 1).natAbs * there.natAbs = (here.fdiv there * there).natAbs := by
          rw [Int.mul_one, Int.natAbs_mul]
          congr 1
          omega
        rw [h1]
        show 1 * _ + _ ≤ B
        omega
    · have ab := rest_abs (h := here) (t := there) (by omega)
      exact ⟨pot ab (bs u ou) p1, pot ab (bs v ov) p2⟩
  have ge : ∀ {x y z : Nat}, y + x * there.natAbs ≤ z → x ≤ z := fun {x y z} h => by
    have : x * 1 ≤ x * there.natAbs := Nat.mul_le_mul_left x one
    omega
  exact ⟨J.e2, e1, g, by omega, by omega, J.bou, J.bov, ge key.1, ge key.2, .inr ⟨ht, by omega, key.1, key.2⟩⟩
theorem wl_end {a c : Int} {B : Nat} (hB : a.natAbs + 2 * c.natAbs + 1 ≤ B) : ∀ (n : Nat) {here u v there ou ov : Int}, there.natAbs ≤ n → WJ a c B here u v there ou ov →
    (wl here u v there ou ov).1.natAbs = Int.gcd a c ∧ (wl here u v there ou ov).1 = (wl here u v there ou ov).2.1 * a + (wl here u v there ou ov).2.2 * c ∧ (wl here u v there ou ov).2.1.natAbs ≤ B ∧ (wl here u v there ou ov).2.2.natAbs ≤ B
  | n, here, u, v, there, ou, ov, hn, J => by
    by_cases ht : there = 0
    · subst ht
      rw [wl_zero]
      have g := J.g
      rw [Int.gcd_zero_right] at g
      exact ⟨g, J.e1, J.bu, J.bv⟩
    · rw [wl_step ht]
      cases n with
      | zero => omega
      | succ n => exact wl_end hB n (by have := rest_lt (h := here) ht; omega) (wj_step hB J ht)
/-- the weights' three numbers -/
def wU (a c : Int) : Int := (wRes a c).2.1
def wV (a c : Int) : Int := (wRes a c).2.2
theorem wRes_1 (a c : Int) : (wRes a c).1 = (Int.gcd a c : Int) := by
  obtain ⟨h1, _, _, _⟩ := wl_end (a := a) (c := c) (Nat.le_refl _) _ (Nat.le_refl _) (wj_start a c)
  unfold wRes
  split
  · show 0 - (wl a 1 0 c 0 1).1 = _
    omega
  · show (wl a 1 0 c 0 1).1 = _
    omega
theorem wRes_eq (a c : Int) : wRes a c = ((Int.gcd a c : Int), wU a c, wV a c) := by
  rw [← wRes_1] <;> rfl
theorem w_lin (a c : Int) : wU a c * a + wV a c * c = (Int.gcd a c : Int) := by
  obtain ⟨_, h2, _, _⟩ := wl_end (a := a) (c := c) (Nat.le_refl _) _ (Nat.le_refl _) (wj_start a c)
  rw [← wRes_1]
  unfold wU wV wRes
  split
  · show (0 - (wl a 1 0 c 0 1).2.1) * a + (0 - (wl a 1 0 c 0 1).2.2) * c = 0 - (wl a 1 0 c 0 1).1
    rw [Int.sub_mul, Int.sub_mul]
    omega
  · exact h2.symm
theorem wU_le (a c : Int) : (wU a c).natAbs ≤ a.natAbs + 2 * c.natAbs + 1 := by
  obtain ⟨_, _, h3, _⟩ := wl_end (a := a) (c := c) (Nat.le_refl _) _ (Nat.le_refl _) (wj_start a c)
  unfold wU wRes
  split
  · show (0 - (wl a 1 0 c 0 1).2.1).natAbs ≤ _
    omega
  · exact h3
theorem wV_le (a c : Int) : (wV a c).natAbs ≤ a.natAbs + 2 * c.natAbs + 1 := by
  obtain ⟨_, _, _, h4⟩ := wl_end (a := a) (c := c) (Nat.le_refl _) _ (Nat.le_refl _) (wj_start a c)
  unfold wV wRes
  split
  · show (0 - (wl a 1 0 c 0 1).2.2).natAbs ≤ _
    omega
  · exact h4
end Kn
namespace Kn
open PySem PySem.Spec L2

/-! ### sizes by powers of two -/
def Sm (n : Nat) (i : Int) : Prop := i.natAbs < 2 ^ n
theorem Sm.mono {n m : Nat} {i : Int} (h : Sm n i) (hm : n ≤ m) : Sm m i := Nat.lt_of_lt_of_le h (Nat.pow_le_pow_right (by decide) hm)
theorem Sm.le {n : Nat} {i j : Int} (h : Sm n j) (hi : i.natAbs ≤ j.natAbs) : Sm n i := Nat.lt_of_le_of_lt hi h
theorem Sm.mul {n m : Nat} {i j : Int} (h : Sm n i) (h2 : Sm m j) : Sm (n + m) (i * j) := by
  unfold Sm at *
  rw [Int.natAbs_mul, Nat.pow_add]
  exact Nat.mul_lt_mul'' h h2
theorem Sm.add {n : Nat} {i j : Int} (h : Sm n i) (h2 : Sm n j) : Sm (n + 1) (i + j) := by
  unfold Sm at *
  rw [Nat.pow_succ]
  have := Int.natAbs_add_le i j
  omega
theorem Sm.sub {n : Nat} {i j : Int} (h : Sm n i) (h2 : Sm n j) : Sm (n + 1) (i - j) := by
  unfold Sm at *
  rw [Nat.pow_succ]
  have := Int.natAbs_sub_le i j
  omega
theorem Sm.lt {n : Nat} {i : Int} (h0 : -(2 : Int) ^ n < i) (h1 : i < (2 : Int) ^ n) : Sm n i := by
  unfold Sm
  have e : ((2 ^ n : Nat) : Int) = (2 : Int) ^ n := by
    rw [Int.natCast_pow] <;> rfl
  omega
theorem Sm.lit {n : Nat} {i : Int} (h : decide (i.natAbs < 2 ^ n) = true) : Sm n i := (of_decide_eq_true h : i.natAbs < 2 ^ n)
theorem mulOk {n m : Nat} {i j : Int} (h : Sm n i) (h2 : Sm m j) (hz : n + m ≤ 999998) : IntMulOk i j :=
  mul_w (a := n + 1) (b := m + 1) (h.mono (Nat.le_succ _)) (h2.mono (Nat.le_succ _)) (Nat.succ_pos _) (Nat.succ_pos _) (by omega)
theorem divOk {n : Nat} {j : Int} (h : Sm n j) (hz : n ≤ 8999) : j.natAbs.log2 < 9000 := log_lt (b := n + 1) (h.mono (Nat.le_succ _)) (Nat.succ_pos _) (by omega)
/-- the sizes that weights needs -/
theorem sm_sum {n : Nat} {a c x : Int} (ha : Sm n a) (hc : Sm n c) (h : x.natAbs ≤ a.natAbs + 2 * c.natAbs + 1) : Sm (n + 2) x := by
  unfold Sm at *
  rw [Nat.pow_add]
  omega
theorem sm_wU {n : Nat} {a c : Int} (ha : Sm n a) (hc : Sm n c) : Sm (n + 2) (wU a c) := sm_sum ha hc (wU_le a c)
theorem sm_wV {n : Nat} {a c : Int} (ha : Sm n a) (hc : Sm n c) : Sm (n + 2) (wV a c) := sm_sum ha hc (wV_le a c)
theorem sm_gcd {n : Nat} {a c : Int} (ha : Sm n a) (h : a ≠ 0) : Sm n (Int.gcd a c : Int) := ha.le (by
  have h1 := Int.gcd_dvd_left a c
  have h2 := Int.natAbs_dvd_natAbs.mpr h1
  exact Nat.le_of_dvd (by omega) h2)
/-! ### ranges by steps -/
theorem rg3 {j : Int} {n : Nat} (h0 : 0 < j) (h1 : j ≤ 100000) (hn : (j - 1) / 3 + 1 = (n : Int)) : RgC 0 j 3 n := by
  have e : Builtin.Range.rangeSize 0 j 3 = n := by
    unfold Builtin.Range.rangeSize
    rw [if_pos (by decide), if_pos h0]
    omega
  refine ⟨by decide, by decide, ?_, e⟩
  unfold Builtin.Range.small
  rw [e]
  simp only [Builtin.Range.rangeFitsLong, Bool.and_eq_true, Bool.or_eq_true, decide_eq_true_eq, beq_iff_eq, show (3 : Int) > 0 by decide, if_true]
  omega
theorem rg2 {i j : Int} {n : Nat} (hi : 0 ≤ i) (h0 : i < j) (h1 : j ≤ 100000) (hn : (j - i - 1) / 2 + 1 = (n : Int)) : RgC i j 2 n := by
  have e : Builtin.Range.rangeSize i j 2 = n := by
    unfold Builtin.Range.rangeSize
    rw [if_pos (by decide), if_pos h0]
    omega
  refine ⟨by decide, by decide, ?_, e⟩
  unfold Builtin.Range.small
  rw [e]
  simp only [Builtin.Range.rangeFitsLong, Bool.and_eq_true, Bool.or_eq_true, decide_eq_true_eq, beq_iff_eq, show (2 : Int) > 0 by decide, if_true]
  omega
end Kn
namespace Kn
open PySem PySem.Spec L2

/-! ### beats that meet, in plain numbers -/
/-- a beat -/
abbrev Bt (r g : Int) : D := .tup [.int r, .int g]
abbrev gcI (g h : Int) : Int := (Int.gcd g h : Int)
theorem gcI_pos {g h : Int} (hg : 0 < g) : 0 < gcI g h := by
  have : 0 < Int.gcd g h := Int.gcd_pos_of_ne_zero_left h (by omega)
  show 0 < (Int.gcd g h : Int)
  omega
theorem gcI_l (g h : Int) : gcI g h ∣ g := Int.gcd_dvd_left g h
theorem gcI_r (g h : Int) : gcI g h ∣ h := Int.gcd_dvd_right g h
theorem gcI_to {x g h : Int} (h1 : x ∣ g) (h2 : x ∣ h) : x ∣ gcI g h := Int.dvd_coe_gcd h1 h2
def cmG (g h : Int) : Int := g / gcI g h * h
def cmF (r g s h : Int) : Int := r + (s - r) / gcI g h * wU g h * g
def cmR (r g s h : Int) : Int := cmF r g s h % cmG g h
theorem cmG_mul {g h : Int} (hg : 0 < g) : cmG g h * gcI g h = g * h := by
  unfold cmG
  rw [Int.mul_right_comm, Int.ediv_mul_cancel (gcI_l g h)]
theorem cmG_pos {g h : Int} (hg : 0 < g) (hh : 0 < h) : 0 < cmG g h := by
  have := gcI_pos (h := h) hg
  exact Int.mul_pos (Int.ediv_pos_of_pos_of_dvd hg (by omega) (gcI_l g h)) hh
theorem cmG_r {g h : Int} : h ∣ cmG g h := ⟨g / gcI g h, by unfold cmG; rw [Int.mul_comm]⟩
theorem cmG_l {g h : Int} : g ∣ cmG g h := by
  obtain ⟨c, hc⟩ := gcI_r g h
  refine ⟨c, ?_⟩
  unfold cmG
  conv => lhs; rw [hc]
  by_cases h0 : gcI g h = 0
  · have hg : g = 0 := by have := gcI_l g h; rw [h0] at this; exact Int.zero_dvd.mp this
    have h0' : h = 0 := by rw [hc, h0, Int.zero_mul]
    rw [h0] at *
    rw [hg]
    simp
  · rw [← Int.mul_assoc, show g / gcI g (gcI g h * c) * gcI g h = g from ?_]
    have e : gcI g (gcI g h * c) = gcI g h := by rw [← hc]
    rw [e, Int.ediv_mul_cancel (gcI_l g h)]
theorem cmG_le {g h : Int} (hg : 0 < g) (hh : 0 < h) : cmG g h ≤ g * h := by
  have h1 := gcI_pos (h := h) hg
  have h2 := cmG_pos hg hh
  rw [← cmG_mul hg]
  have := Int.mul_le_mul_of_nonneg_left (show 1 ≤ gcI g h by omega) (show 0 ≤ cmG g h by omega)
  omega
/-- it is the least one -/
theorem cmG_dvd {g h x : Int} (hg : 0 < g) (h1 : g ∣ x) (h2 : h ∣ x) : cmG g h ∣ x := by
  have hp := gcI_pos (h := h) hg
  refine Int.dvd_of_mul_dvd_mul_right (show gcI g h ≠ 0 by omega) ?_
  rw [cmG_mul hg]
  have e := w_lin g h
  show g * h ∣ x * (Int.gcd g h : Int)
  rw [← e, Int.mul_add, ← Int.mul_assoc, ← Int.mul_assoc, Int.mul_comm (x * wU g h) g, Int.mul_comm (x * wV g h) h]
  refine Int.dvd_add ?_ ?_
  · exact Int.mul_dvd_mul_left g (Int.dvd_trans h2 ⟨wU g h, rfl⟩)
  · rw [Int.mul_comm g h]
    exact Int.mul_dvd_mul_left h (Int.dvd_trans h1 ⟨wV g h, rfl⟩)
theorem cm_sub {m c g f : Int} (h1 : g ∣ m - f) (h2 : g ∣ c) : g ∣ m % c - f := by
  have e : m % c - f = (m - f) - c * (m / c) := by have := Int.emod_add_mul_ediv m c; omega
  rw [e]
  exact Int.dvd_sub h1 (Int.dvd_trans h2 ⟨_, rfl⟩)
theorem cmR_l {r g s h : Int} : g ∣ cmR r g s h - r := by
  refine cm_sub ?_ cmG_l
  unfold cmF
  rw [show r + (s - r) / gcI g h * wU g h * g - r = (s - r) / gcI g h * wU g h * g by omega]
  exact ⟨_, Int.mul_comm _ _⟩
theorem cmR_r {r g s h : Int} (hc : gcI g h ∣ s - r) : h ∣ cmR r g s h - s := by
  refine cm_sub ?_ cmG_r
  have e := w_lin g h
  obtain ⟨q, hq⟩ := hc
  by_cases h0 : gcI g h = 0
  · have : s = r := by rw [h0, Int.zero_mul] at hq; omega
    have z : h = 0 := by have := gcI_r g h; rw [h0] at this; exact Int.zero_dvd.mp this
    have z2 : g = 0 := by have := gcI_l g h; rw [h0] at this; exact Int.zero_dvd.mp this
    unfold cmF
    rw [z2, this, Int.mul_zero, Int.add_zero, Int.sub_self]
    exact Int.dvd_zero _
  · unfold cmF
    have e2 : (s - r) / gcI g h = q := by rw [hq, Int.mul_ediv_cancel_left _ h0]
    rw [e2]
    refine ⟨-(q * wV g h), ?_⟩
    have e3 : q * wU g h * g + q * (wV g h * h) = q * gcI g h := by rw [Int.mul_assoc, ← Int.mul_add, e]
    have e4 : h * -(q * wV g h) = -(q * (wV g h * h)) := by rw [Int.mul_neg, Int.mul_comm h, Int.mul_assoc]
    rw [e4]
    have e5 : s - r = q * gcI g h := by rw [hq, Int.mul_comm]
    omega
theorem cmR_lt {r g s h : Int} (hg : 0 < g) (hh : 0 < h) : 0 ≤ cmR r g s h ∧ cmR r g s h < cmG g h := by
  have := cmG_pos hg hh
  exact ⟨Int.emod_nonneg _ (by omega), Int.emod_lt_of_pos _ this⟩
/-- both ring at a moment just where the beat met rings -/
theorem cm_iff {r g s h m : Int} (hg : 0 < g) (hc : gcI g h ∣ s - r) : cmG g h ∣ m - cmR r g s h ↔ g ∣ m - r ∧ h ∣ m - s := by
  constructor
  · intro q
    have a := Int.dvd_add (Int.dvd_trans cmG_l q) (cmR_l (r := r) (g := g) (s := s) (h := h))
    have b := Int.dvd_add (Int.dvd_trans cmG_r q) (cmR_r hc)
    exact ⟨by rwa [show m - cmR r g s h + (cmR r g s h - r) = m - r by omega] at a, by rwa [show m - cmR r g s h + (cmR r g s h - s) = m - s by omega] at b⟩
  · rintro ⟨a, b⟩
    refine cmG_dvd hg ?_ ?_
    · have := Int.dvd_sub a (cmR_l (r := r) (g := g) (s := s) (h := h))
      rwa [show m - r - (cmR r g s h - r) = m - cmR r g s h by omega] at this
    · have := Int.dvd_sub b (cmR_r hc)
      rwa [show m - s - (cmR r g s h - s) = m - cmR r g s h by omega] at this
/-- where both ring the beats do not clash -/
theorem cm_no {r g s h m : Int} (h1 : g ∣ m - r) (h2 : h ∣ m - s) : gcI g h ∣ s - r := by
  have a := Int.dvd_sub (Int.dvd_trans (gcI_l g h) h1) (Int.dvd_trans (gcI_r g h) h2)
  rwa [show m - r - (m - s) = s - r by omega] at a
theorem mod0 {a b : Int} : a % b = 0 ↔ b ∣ a := Int.dvd_iff_emod_eq_zero.symm
/-- the number that keeps two beats apart, or none -/
def clD (r g s h : Int) : D := if (s - r) % gcI g h = 0 then .non else .int (gcI g h)
def metD (r g s h : Int) : D := if (s - r) % gcI g h = 0 then Bt (cmR r g s h) (cmG g h) else .non
theorem sm_cmG {n m : Nat} {g h : Int} (hg : 0 < g) (hh : 0 < h) (sg : Sm n g) (sh : Sm m h) : Sm (n + m) (cmG g h) := by
  have h1 := cmG_le hg hh
  have h2 := cmG_pos hg hh
  exact (sg.mul sh).le (by omega)
/-- the states after a statement, told at once -/
theorem st_join {K : PySem.W.Frag} {b : Bs} {ρ : Rho} {t u : TS} {N : DE} (P : Rho → Prop) (h : StD K b t { N with nx := P } ρ) (k : ∀ r, P r → StD K b u N r) : StD K b (tSeq t u) N ρ :=
  st_seq (st_mono h k (fun _ q => q) (fun _ q => q) (fun _ q => q))
theorem evf_nil {K : PySem.W.Frag} {b : Bs} {ρ : Rho} : EvF K b (tLst tNil) ρ [] := evf_lst eva_nil (by decide)
theorem atI_nat {α : Type} {xs : List α} {i : Nat} {d : α} (h : xs[i]? = some d) : atI xs (i : Int) = some d := by
  unfold atI
  have hj := (List.getElem?_eq_some_iff.mp h).1
  have e : ixN xs.length (i : Int) = some i := by
    unfold ixN
    rw [if_pos (by omega), if_pos (by omega)]
    rfl
  rw [e]
  exact h
theorem atI_last {α : Type} {xs : List α} {n : Nat} {d : α} (hl : xs.length = n + 1) (h : xs[n]? = some d) : atI xs (-1) = some d := by
  unfold atI ixN
  rw [if_neg (by decide), if_pos (by omega)]
  show xs[(-1 + (xs.length : Int)).toNat]? = some d
  rw [hl, show (-1 + ((n + 1 : Nat) : Int)).toNat = n by omega]
  exact h
theorem ud_neg {K : PySem.W.Frag} {i : Int} : UD K (rU fun i => .int (-i)) (.int i) (.int (-i)) := fun x Hv H Q l r q => ⟨i, r.int_inv, q _ Hv H (Gr.refl l) (.int _)⟩
section
variable {K : PySem.W.Frag} {b : Bs} {ρ : Rho} {te : TE} {tt : TT} {t : TS} {N : DE}
/-- for, over items told by something else -/
theorem st_forT {α : Type} {xs : List α} (a : α → D) {wi : TI} {g : TG} {js : List Nat} {f : D → Rho → Rho} (hw : SrcD K b wi ρ (xs.map a)) (hg : ∀ x ∈ xs, GtD K g (a x) js (f (a x))) (I : Nat → Rho → Prop) (h0 : I 0 ρ)
    (hs : ∀ (s : Hp) (i : Nat) (x : α) (ρ' : Rho), xs[i]? = some x → I i ρ' → StD K ⟨b.v, b.h, s⟩ t { N with nx := I (i + 1), ct := I (i + 1), bk := N.nx } (f (a x) ρ'))
    (hd : ∀ ρ', I xs.length ρ' → N.nx ρ') : StD K b (tFor wi g t) N ρ := by
  refine st_for hw (f := f) (js := js) (fun x hx => ?_) I h0 (fun s i x ρ' hx hI => ?_) (fun ρ' hI => hd ρ' (by rwa [List.length_map] at hI))
  · obtain ⟨y, hy, rfl⟩ := List.mem_map.mp hx
    exact hg y hy
  · rw [List.getElem?_map] at hx
    cases hy : xs[i]? with
    | none => rw [hy] at hx; cases hx
    | some y =>
      rw [hy] at hx
      cases hx
      exact hs s i y ρ' hy hI
open Classical in
/-- a comprehension over items told by something else -/
theorem evf_lcT {α : Type} {xs : List α} (a : α → D) (inj : ∀ x y, a x = a y → x = y) {wi : TI} {g : TG} {js vs : List Nat} {f : D → Rho → Rho} (p : α → Bool) (m : α → D) (hw : SrcD K b wi ρ (xs.map a)) (hg : ∀ x ∈ xs, GtD K g (a x) js (f (a x)))
    (hj : ∀ j ∈ js, j ∈ vs) (hz : xs.length ≤ 100000) (ht : ∀ x, x ∈ xs → EvB K b tt (f (a x) (wipeD ρ vs)) (p x)) (he : ∀ x, x ∈ xs → p x = true → EvD K b te (f (a x) (wipeD ρ vs)) (m x)) :
    EvF K b (tLc wi g tt te vs) ρ ((xs.filter p).map m) := by
  let p' : D → Bool := fun d => decide (∃ x, a x = d ∧ p x = true)
  let m' : D → D := fun d => if h : ∃ x, a x = d then m h.choose else .non
  have hp : ∀ x, p' (a x) = p x := fun x => by
    show decide (∃ y, a y = a x ∧ p y = true) = p x
    cases hx : p x with
    | true => exact decide_eq_true ⟨x, rfl, hx⟩
    | false =>
      refine decide_eq_false ?_
      rintro ⟨y, e, hy⟩
      rw [inj y x e, hx] at hy
      cases hy
  have hm : ∀ x, m' (a x) = m x := fun x => by
    have h : ∃ y, a y = a x := ⟨x, rfl⟩
    show (if h : ∃ y, a y = a x then m h.choose else .non) = m x
    rw [dif_pos h, inj _ _ h.choose_spec]
  have := evf_lc (K := K) (b := b) (ρ := ρ) (tt := tt) (te := te) (ds := xs.map a) p' m' hw (js := js) (f := f) (fun x hx => by
    obtain ⟨y, hy, rfl⟩ := List.mem_map.mp hx
    exact hg y hy) hj (by rwa [List.length_map]) (fun x hx => by
      obtain ⟨y, hy, rfl⟩ := List.mem_map.mp hx
      rw [hp]
      exact ht y hy) (fun x hx q => by
      obtain ⟨y, hy, rfl⟩ := List.mem_map.mp hx
      rw [hp] at q
      rw [hm]
      exact he y hy q)
  have e : ((xs.map a).filter p').map m' = (xs.filter p).map m := by
    rw [List.filter_map, List.map_map]
    have e1 : p' ∘ a = p := funext hp
    have e2 : m' ∘ a = m := funext hm
    rw [e1, e2]
  rw [e] at this
  exact this
theorem evf_lcT0 {α : Type} {xs : List α} (a : α → D) (inj : ∀ x y, a x = a y → x = y) {wi : TI} {g : TG} {js vs : List Nat} {f : D → Rho → Rho} (m : α → D) (hw : SrcD K b wi ρ (xs.map a)) (hg : ∀ x ∈ xs, GtD K g (a x) js (f (a x)))
    (hj : ∀ j ∈ js, j ∈ vs) (hz : xs.length ≤ 100000) (he : ∀ x, x ∈ xs → EvD K b te (f (a x) (wipeD ρ vs)) (m x)) :
    EvF K b (tLc wi g tYes te vs) ρ (xs.map m) := by
  have h := evf_lcT (K := K) (b := b) (ρ := ρ) (tt := tYes) (te := te) a inj (p := fun _ => true) m hw hg hj hz (fun x _ => evb_yes) (fun x hx _ => he x hx)
  rw [List.filter_eq_self.mpr (fun _ _ => rfl)] at h
  exact h
end
theorem inj_int : ∀ x y : Int, D.int x = D.int y → x = y := fun _ _ h => by cases h; rfl
theorem inj_nat : ∀ x y : Nat, D.int (x : Int) = D.int (y : Int) → x = y := fun x y h => by
  have : (x : Int) = (y : Int) := by injection h
  omega
theorem inj_bt (c : Int) : ∀ x y : Int, Bt x c = Bt y c → x = y := fun _ _ h => by cases h; rfl
def bD (x : Int × Int) : D := Bt x.1 x.2
theorem inj_bD : ∀ x y : Int × Int, bD x = bD y → x = y := fun ⟨a, c⟩ ⟨d, e⟩ h => by
  have h' : Bt a c = Bt d e := h
  cases h'
  rfl
theorem sm_div {n : Nat} {a b : Int} (h : Sm n a) : Sm n (a / b) := h.le (Int.natAbs_ediv_le_natAbs a b)
end Kn
namespace Kn
open PySem PySem.Spec L2

/-! ### lists of beats -/
abbrev Bs2 := List (Int × Int)
/-- a list of beats, as data -/
abbrev LB (bs : Bs2) : D := .lst (bs.map bD)
theorem lb_plain : ∀ bs : Bs2, plainAll (bs.map bD) = true
  | [] => rfl
  | b :: bs => by
    show ((bD b).plain && plainAll (bs.map bD)) = true
    rw [lb_plain bs] <;> rfl
theorem lb_lay : ∀ bs : Bs2, PyData.canLayAll0 (pyAll (bs.map bD)) = true
  | [] => by simp [pyAll, PyData.canLayAll0]
  | b :: bs => by
    show PyData.canLayAll0 ((bD b).py :: pyAll (bs.map bD)) = true
    rw [PyData.canLayAll0, lb_lay bs, Bool.and_true]
    simp [bD, D.py, pyAll, PyData.canLay0, PyData.canLayAll0]
theorem lb_depth : ∀ bs : Bs2, PyData.depthAll (pyAll (bs.map bD)) ≤ 1
  | [] => by simp [pyAll, PyData.depthAll]
  | b :: bs => by
    show PyData.depthAll ((bD b).py :: pyAll (bs.map bD)) ≤ 1
    rw [PyData.depthAll]
    refine Nat.max_le.mpr ⟨?_, lb_depth bs⟩
    simp [bD, D.py, pyAll, PyData.depth, PyData.depthAll]
theorem lb_ok (bs : Bs2) : okD (LB bs) = true := by
  show ((LB bs).plain && ((LB bs).py.canLay0 && decide ((LB bs).py.depth ≤ 64))) = true
  have h1 : (LB bs).plain = true := lb_plain bs
  have h2 : (LB bs).py.canLay0 = true := by
    show PyData.canLay0 (.list (pyAll (bs.map bD))) = true
    rw [PyData.canLay0]
    exact lb_lay bs
  have h3 : (LB bs).py.depth ≤ 64 := by
    show PyData.depth (.list (pyAll (bs.map bD))) ≤ 64
    rw [PyData.depth]
    have := lb_depth bs
    omega
  rw [h1, h2, decide_eq_true h3] <;> rfl
theorem lb_eqAll : ∀ bs : Bs2, PyData.eqvAll (pyAll (bs.map bD)) (pyAll (bs.map bD)) = true
  | [] => by simp [pyAll, PyData.eqvAll]
  | b :: bs => by
    show PyData.eqvAll ((bD b).py :: pyAll (bs.map bD)) ((bD b).py :: pyAll (bs.map bD)) = true
    rw [PyData.eqvAll, lb_eqAll bs, Bool.and_true]
    show ((b.1 == b.1) && ((b.2 == b.2) && true)) = true
    simp
theorem lb_eq (bs : Bs2) : PyData.eqv (LB bs).py (LB bs).py = true := by
  show PyData.eqv (.list (pyAll (bs.map bD))) (.list (pyAll (bs.map bD))) = true
  rw [PyData.eqv]
  exact lb_eqAll bs
theorem bt_eq (a c d e : Int) : PyData.eqv (Bt a c).py (Bt d e).py = (decide (a = d) && decide (c = e)) := by
  show ((a == d) && ((c == e) && true)) = _
  rw [Bool.and_true, Bool.beq_eq_decide_eq, Bool.beq_eq_decide_eq]
theorem lb_get {bs : Bs2} {i : Nat} {b : Int × Int} (h : bs[i]? = some b) : (bs.map bD)[i]? = some (Bt b.1 b.2) := by
  rw [List.getElem?_map, h] <;> rfl
theorem lb_at {bs : Bs2} {i : Nat} {b : Int × Int} (h : bs[i]? = some b) : atI (bs.map bD) (i : Int) = some (Bt b.1 b.2) := atI_nat (lb_get h)
theorem int_at {ns : List Int} {i : Nat} {c : Int} (h : ns[i]? = some c) : atI (ns.map D.int) (i : Int) = some (D.int c) := atI_nat (by rw [List.getElem?_map, h] <;> rfl)
/-- a part of the script -/
def cutI (ns : List Int) (i j : Nat) : List Int := (ns.drop (min i ns.length)).take (min j ns.length - min i ns.length)
theorem cutI_len (ns : List Int) (i j : Nat) : (cutI ns i j).length = min j ns.length - min i ns.length := by
  unfold cutI
  rw [List.length_take, List.length_drop]
  omega
theorem cutI_get {ns : List Int} {i j k : Nat} {x : Int} (h : (cutI ns i j)[k]? = some x) : k < min j ns.length - min i ns.length ∧ ns[i + k]? = some x := by
  have hk := (List.getElem?_eq_some_iff.mp h).1
  rw [cutI_len] at hk
  refine ⟨hk, ?_⟩
  unfold cutI at h
  rw [List.getElem?_take, if_pos hk, List.getElem?_drop, show min i ns.length = i by omega] at h
  exact h
end Kn
namespace Kn
open PySem PySem.Spec L2 PyProof.Rows

/-! ### a op b op c op d -/
def tChain3 (r r' r'' : R2) (ta tb tc td : TE) : TE := fun σ H Q => ta σ H fun x H1 => tb σ H1 fun y H2 => r x y H2 fun z H3 => ∃ k, z = .bl k ∧
  (if k = true then tc σ H3 fun w' H4 => r' y w' H4 fun z2 H5 => ∃ k2, z2 = .bl k2 ∧ (if k2 = true then td σ H5 fun u' H6 => r'' w' u' H6 Q else Q (.bl false) H5) else Q (.bl false) H3)
theorem pt_chain3 {X : Cx} {a b c d : Expr} {ta tb tc td : TE} {pos : Pos} {op op' op'' : CmpOp} {r r' r'' : R2} (ho : OpR X (compareOp op) r) (ho' : OpR X (compareOp op') r') (ho'' : OpR X (compareOp op'') r'') (ha : PE X a ta) (hb : PE X b tb) (hc : PE X c tc) (hd : PE X d td)
    (hm : lastMarks [op, op', op''] [b, c, d] = false := by with_unfolding_all rfl) : PT X (.Compare a [op, op', op''] [b, c, d] pos) (tTest (tChain3 r r' r'' ta tb tc td)) := by
  refine ⟨fun pins s σ H Q I h => ?_⟩
  refine isTrue_chain (thn (ha.run pins s σ H _ I h) fun v s1 ⟨x, H1, I1, r1, q1⟩ => test_link (thn (hb.run pins s1 σ H1 _ I1 q1) fun u s2 ⟨y, H2, I2, r2, q2⟩ =>
    thn (ho pins s2 σ H2 x y v u _ I2 r1 r2 q2) fun e s3 ⟨z, H3, I3, r3, k, ee, q3⟩ => ?_)) hm
  subst ee
  cases r3
  refine wpAny_truthy_bool ?_
  cases k with
  | false =>
    obtain ⟨k', e', q'⟩ := q3
    cases e'
    exact ite_ff ⟨H3, I3, q'⟩
  | true =>
    refine ite_tt (test_link (thn (hc.run pins s3 σ H3 _ I3 q3) fun w' s4 ⟨z', H4, I4, r4, q4⟩ => thn (ho' pins s4 σ H4 y z' u w' _ I4 r2 r4 q4) fun d' s5 ⟨z2, H5, I5, r5, k2, e2, q5⟩ => ?_))
    subst e2
    cases r5
    refine wpAny_truthy_bool ?_
    cases k2 with
    | false =>
      obtain ⟨k', e', q'⟩ := q5
      cases e'
      exact ite_ff ⟨H5, I5, q'⟩
    | true =>
      refine ite_tt (test_last (thn (hd.run pins s5 σ H5 _ I5 q5) fun u' s6 ⟨z3, H6, I6, r6, q6⟩ => thn (ho'' pins s6 σ H6 z' z3 w' u' _ I6 r4 r6 q6) fun d2 s7 ⟨z4, H7, I7, r7, k3, e3, q7⟩ => ?_))
      subst e3
      cases r7
      exact wpAny_truthy_bool ⟨H7, I7, q7⟩
section
variable {K : PySem.W.Frag} {b : Bs} {ρ : Rho} {ta tb tc td te : TE} {d e f g z : D}
theorem evd_chain3 {r r' r'' : R2} {c c' c'' : Bool} (ha : EvD K b ta ρ d) (hb : EvD K b tb ρ e) (hr : RD K r d e (.bl c)) (hc : c = true → EvD K b tc ρ f) (hr' : c = true → RD K r' e f (.bl c')) (hd : c = true → c' = true → EvD K b td ρ g) (hr'' : c = true → c' = true → RD K r'' f g (.bl c'')) :
    EvD K b (tChain3 r r' r'' ta tb tc td) ρ (.bl (c && (c' && c''))) := fun σ Hv H Q A q =>
  ha σ Hv H _ A fun x Hv1 H1 g1 r1 => hb σ Hv1 H1 _ (A.grow g1) fun y Hv2 H2 g2 r2 =>
    hr x y Hv2 H2 _ g2.sub (r1.mono g2.vis) r2 fun v Hv3 H3 g3 r3 => ⟨c, r3.bl_inv, by
      cases c with
      | true =>
        show tc σ H3 _
        refine hc rfl σ Hv3 H3 _ (A.grow ((g1.trans g2).trans g3)) fun w Hv4 H4 g4 r4 => hr' rfl y w Hv4 H4 _ g4.sub (r2.mono (Le.trans g3.vis g4.vis)) r4 fun v5 Hv5 H5 g5 r5 => ⟨c', r5.bl_inv, ?_⟩
        cases c' with
        | true =>
          show td σ H5 _
          exact hd rfl rfl σ Hv5 H5 _ (A.grow ((((g1.trans g2).trans g3).trans g4).trans g5)) fun u Hv6 H6 g6 r6 => hr'' rfl rfl w u Hv6 H6 Q g6.sub (r4.mono (Le.trans g5.vis g6.vis)) r6 fun v7 Hv7 H7 g7 r7 => q v7 Hv7 H7 ((((((g1.trans g2).trans g3).trans g4).trans g5).trans g6).trans g7) r7
        | false =>
          show Q (.bl false) H5
          exact q _ Hv5 H5 ((((g1.trans g2).trans g3).trans g4).trans g5) (.bl false)
      | false =>
        show Q (.bl false) H3
        exact q _ Hv3 H3 ((g1.trans g2).trans g3) (.bl false)⟩
/-- a number told with a look at a hidden list -/
theorem evd_peek {i : Nat} {ds : List D} {n : Int} (h : ρ[i]? = some (some (.own ds))) (k : ∀ b', EvD K b' te (ρ.set i (some (.dat (.lst ds)))) (.int n)) : EvD K b te ρ (.int n) := fun σ Hv H Q A q => by
  obtain ⟨p, xs, e, h1, h2, h3, r⟩ := A.own i ds h
  have hs : σ.set i (some (.ref p)) = σ := by
    apply List.ext_getElem?
    intro j
    by_cases hj : i = j
    · subst hj
      rw [List.getElem?_set_self (List.getElem?_eq_some_iff.mp e).1, e]
    · rw [List.getElem?_set_ne hj]
  have g : Gr b.v b.h (upd Hv p (.lst xs)) H := A.gr.show' h2 h1 h3
  have A1 : At K b (σ.set i none) Hv H (ρ.set i none) := A.forget
  have A2 : At K b (σ.set i none) (upd Hv p (.lst xs)) H (ρ.set i none) := by
    refine ⟨g, Le.trans A.sc (Le.new h1), A1.len, fun j e hj => ?_, fun j es hj => ?_, A1.dis⟩
    · obtain ⟨v, e1, r1⟩ := A1.dat j e hj
      exact ⟨v, e1, r1.mono (Le.new h1)⟩
    · obtain ⟨q, ys, e1, q1, q2, q3, q4⟩ := A1.own j es hj
      have hji : i ≠ j := by
        rintro rfl
        have hl : i < ρ.length := (List.getElem?_eq_some_iff.mp h).1
        rw [List.getElem?_set_self hl] at hj
        cases hj
      have hqp : q ≠ p := by
        rintro rfl
        rw [List.getElem?_set_ne hji] at hj e1
        exact A.dis i j q ds es hji h hj e e1
      refine ⟨q, ys, e1, ?_, q2, q3, q4.mono (Le.new h1)⟩
      rw [upd_ne hqp]
      exact q1
  have A3 := A2.setDat (i := i) (v := .ref p) (d := .lst ds) (.lst upd_same (r.mono (Le.new h1)))
  rw [List.set_set, List.set_set, hs] at A3
  refine k b σ _ H _ A3 fun v Hv' H' g' r' => ?_
  have ev := r'.int_inv
  subst ev
  exact q _ Hv H' ⟨g'.big, Le.refl _, Le.trans (Le.trans (Le.new h1) g'.vis) g'.sub, fun _ _ => rfl⟩ (.int n)
end
/-- two lists walked together -/
def zpD (p : Int × (Int × Int)) : D := .tup [.int p.1, bD p.2]
theorem inj_zpD : ∀ x y, zpD x = zpD y → x = y := fun ⟨a, c⟩ ⟨d, e⟩ h => by
  have h' : D.tup [.int a, bD c] = D.tup [.int d, bD e] := h
  injection h' with h1
  injection h1 with h2 h3
  injection h2 with h4
  injection h3 with h5
  rw [h4, inj_bD _ _ h5]
theorem zpD_map : ∀ (P : List Int) (bs : Bs2), zipD (P.map D.int) (bs.map bD) = (P.zip bs).map zpD
  | [], _ => by simp [zipD]
  | _ :: _, [] => by simp [zipD]
  | p :: P, b :: bs => by
    show D.tup [.int p, bD b] :: zipD (P.map D.int) (bs.map bD) = _
    rw [zpD_map P bs] <;> rfl
theorem enD_map (bs : Bs2) : enumD (bs.map bD) = ((List.range bs.length).map fun i => (((i : Nat) : Int), (bs[i]?).getD (0, 1))).map zpD := by
  unfold enumD
  rw [List.length_map, List.map_map]
  refine List.map_congr_left fun i hi => ?_
  have hi' := List.mem_range.mp hi
  show D.tup [.int (i : Nat), ((bs.map bD)[i]?).getD .non] = D.tup [.int (i : Nat), bD ((bs[i]?).getD (0, 1))]
  rw [List.getElem?_map, List.getElem?_eq_getElem hi'] <;> rfl
end Kn
namespace Kn
open PySem PySem.Spec L2 PyProof.Rows L2H

/-! ### a def that is handed a caught error, within the suite -/
/-- isinstance where the error stands among what the context knows -/
theorem call_isP {X : Cx} {a : Addr} {oe : Obj} {cls : Value} {d : Option Addr} (hm : (a, oe) ∈ X.pn) (hz : Zc cls d oe) (hf : ∃ vs, oe.data = .fields vs) : CallR X (.builtin "isinstance") (rIsX X.K a cls d) := by
  intro pins s σ H xs us Q I r h
  obtain ⟨D, c, cv, b, rfl, rfl, C, rfl, e2, e3, q⟩ := h
  cases r with
  | cons r1 rr =>
    cases rr with
    | cons r2 rr =>
      cases rr
      cases r1
      have e := e2 _ r2
      subst e
      have g := (I.pin (a, oe) (List.mem_append_left _ hm)).1
      obtain ⟨vs, hv⟩ := hf
      have J : PySem.W.InstAt s.heap a oe D none := by
        obtain ⟨o1, o2, o3, o4⟩ := oe
        obtain ⟨z1, z2⟩ := hz
        dsimp only at z1 z2 hv
        subst z1 z2 hv
        exact ⟨g, rfl, rfl, trivial⟩
      exact PySem.W.kia_one (PySem.W.handS_kitx_exc C.hg C.hk C.hs C.hd C.ha C.hn C.ht C.hm) I.kIn J e3 (fun z => nomatch z) fun tk => ⟨.bl b, H, I.kept (t' := tk) fun _ _ z => z, rfl, q⟩
/-- what a def promises where p stands out of its reach -/
structure FnP (P : Program) (w : World) (K : PySem.W.Frag) (mg : Str → Option Value) (base : Heap) (k : Nat) (f : Addr) (fd : FuncData) (ps : List Str) (p : Addr × Obj) (sp : Sp) : Prop where
  len : ∀ vs H Q E, sp vs H Q E → vs.length = ps.length
  run : ∀ (A : Around) (outer : List Env) (s : Shared) (H : Hp) (args : Args) (us : List Value) (vs : List V) (Q : VK) (E : XK), RoomH k A → PinOk outer H s p → Env0 P w K mg base A outer s H → BindsTo s fd args (ps.zip us) → Vals vs us → sp vs H Q E →
    codeAny (model P w) A (.call (.ref f) args) (CR (L2.CX P w) outer P w H s Q E) s
theorem fnP_of {P : Program} {w : World} {K : PySem.W.Frag} {mg : Str → Option Value} {base : Heap} {x qual : Str} {params : Arguments} {body : List Stmt} {scope : Scope} {f : Addr} {fd : FuncData} {N ps : List Str} {k : Nat} {p : Addr × Obj} {sp : Sp}
    (F : FunD K x qual params body scope [] [] f fd) (S : FnScope N ps scope) (len : ∀ vs H Q E, sp vs H Q E → vs.length = ps.length)
    (hb0 : ∀ (cdv : Value) (A : Around) (outer : List Env) (s : Shared) (H : Hp) (vs : List V) (Q : VK) (E : XK), RoomH k (A.deeper (envOfC qual scope s.heap.objs.size f cdv)) → sp vs H Q E →
      ∃ t, PSs (cxH (L2.CX P w) P w K mg base N qual scope f cdv A outer s H E p) body t ∧ t { nx := fun _ H' => Q .non H', rt := Q } (L2.start N vs) H) : FnP P w K mg base (k + 1) f fd ps p sp := by
  obtain ⟨oc, od, dV, kV, doc, pm, an, cdv, ct, osl, rfl, lk, hcd, _, _⟩ := F.ex
  refine ⟨len, fun A outer s H args us vs Q E hr hpin e0 hb r hsp => ?_⟩
  have KX : K.In s.heap := e0.mod.kin.keeps fun b o e => (e0.bs b o e).1
  have lim : s.heap.NoLimit := e0.mod.nolimit.keeps fun b o e => (e0.bs b o e).1
  refine codeAny_call_function hr.depth (KX _ _ lk) rfl S.co S.gen rfl (PySem.W.codeRec_of KX hcd) (hb _ _ _ _ (wpAny_newFunctionEnv_cells S.kind (fun ⟨n, v⟩ hy => ?_) fun env he s1 x => ?_))
  · rcases S.par n (List.of_mem_zip hy).1 with q | q
    · exact .inl q
    · exact .inr ⟨q, PySem.W.cellsFrom_some _ _ _ (.inl q)⟩
  subst he
  refine ⟨lim.keeps x.toInCall.keep, codeAny_func ?_⟩
  obtain ⟨t, ht, hq⟩ := hb0 cdv A outer s H vs Q E (hr.deeper _) hsp
  have I := inv_startH (CX := L2.CX P w) (w := w) (P := P) (E := E) (cd := cdv) S hpin e0 (len _ _ _ _ hsp) r x
  refine wpAny_mono (ht.run [] s1 (L2.start N vs) H _ I hq) (fun fl s' hs => ?_) fun e s' hs => hs
  match fl, hs with
  | .ret u, ⟨v, σ', H', J, rv, q⟩ => exact ⟨v, H', J.os, J.bare, J.base, J.hok, rv, q⟩
  | .next, ⟨σ', H', J, q⟩ => exact ⟨V.non, H', J.os, J.bare, J.base, J.hok, rfl, q⟩
  | .brk, ⟨_, _, _, q⟩ => exact False.elim q
  | .cont, ⟨_, _, _, q⟩ => exact False.elim q
/-- the def at the module's name x, for each error -/
structure CalP (P : Program) (w : World) (K : PySem.W.Frag) (mg : Str → Option Value) (base : Heap) (k : Nat) (x : Str) (ps : List Str) (sp : Addr → Value → Option Addr → Sp) : Prop where
  ex : ∃ (f : Addr) (fd : FuncData), mg x = some (.ref f) ∧ PySem.W.keepIn K (.ref f) = true ∧ Binds K fd ps [] ∧ ∀ (a : Addr) (oe : Obj) (cls : Value) (d : Option Addr), Zc cls d oe → (∃ vs, oe.data = .fields vs) → FnP P w K mg base k f fd ps (a, oe) (sp a cls d)
theorem pe_callP {X : Cx} {k : Nat} {a : Addr} {oe : Obj} {cls : Value} {d : Option Addr} {pn : List (Addr × Obj)} {x : Str} {ps : List Str} {sp : Addr → Value → Option Addr → Sp} {p pos : Pos} {e : Expr} {es : List Expr} {t : TA} {t' : TE}
    (C : CalP X.prog X.w X.K X.mg X.base k x ps sp) (hr : Room k X.A) (hg : Gl (X.suite a ((a, oe) :: pn)) x) (hz : Zc cls d oe) (hf : ∃ vs, oe.data = .fields vs) (ha : PA (X.suite a ((a, oe) :: pn)) (e :: es) t) (hdb : (x == ("__debug__" : Str)) = false := by decide)
    (he : starEach (e :: es) X.env = (false, eval e X.env) :: starEach es X.env := by rfl) (hpl : (backTo pos (starEach es X.env)).any (·.1) = false := by rfl) (ht : t' = tCall (sp a cls d) [] E0 t := by rfl) : PE (X.suite a ((a, oe) :: pn)) (.Call (.Name x p) (e :: es) [] pos) t' := by
  subst ht
  obtain ⟨f, fd, hm, hk, hb, FF⟩ := C.ex
  have F := FF a oe cls d hz hf
  refine ⟨fun pins s σ H Q I h => ?_⟩
  refine wpAny_Call_Name_kw (ld_glob I hg hm ?_ hdb)
  refine PySem.W.callWith_K (h₀ := X.base) I.ok.mod.kin hk (thn (ha.run pos pins s σ H _ I h) fun us s1 ⟨vs, H1, I1, r, q⟩ => ⟨I1.kIn, ?_⟩) he hpl
  have q0 : sp a cls d (vs ++ []) H1 Q E0 := q
  have q' : sp a cls d vs H1 Q E0 := by rw [List.append_nil] at q0; exact q0
  have hl : us.length = ps.length := by rw [← r.length]; exact F.len _ _ _ _ q'
  have b := hb s1 us I1.kIn (by rw [List.append_nil]; exact hl)
  rw [List.append_nil] at b
  have P1 := I1.pin (a, oe) (List.mem_append_left _ List.mem_cons_self)
  have hpin : PinOk X.stack H1 s1 (a, oe) := ⟨P1.1, P1.2.1, fun hm => (List.mem_cons.mp (I1.stkSub a hm)).elim P1.2.2.1 P1.2.2.2.1, P1.2.2.2.2⟩
  refine wpAny_call (codeAny_mono (F.run (X.suite a ((a, oe) :: pn)).A X.stack s1 H1 ⟨us, []⟩ us vs Q E0 ⟨hr.dp, hr.un⟩ hpin I1.env0 b r q') fun r s' hq => ?_)
  match r, hq with
  | .error e, hq => exact passL pins σ H1 s1 e s' I1 hq
  | .ok (.ret u), hq => exact I1.after hq
  | .ok .next, hq => exact False.elim hq
  | .ok .brk, hq => exact False.elim hq
  | .ok .cont, hq => exact False.elim hq

/-! ### in, index: whole numbers and None -/
def oD : Option Int → D
  | some i => .int i
  | none => .non
def oV : Option Int → V
  | some i => .int i
  | none => .non
theorem inj_oD : ∀ x y, oD x = oD y → x = y
  | some _, some _, h => by cases h; rfl
  | none, none, _ => rfl
  | some _, none, h => by cases h
  | none, some _, h => by cases h
theorem o_inv {K : PySem.W.Frag} {H : Hp} {v : V} : ∀ {o : Option Int}, Rep K H v (oD o) → v = oV o
  | some _, r => r.int_inv
  | none, r => by cases r; rfl
theorem os_inv {K : PySem.W.Frag} {H : Hp} : ∀ {os : List (Option Int)} {xs : List V}, RepAll K H xs (os.map oD) → xs = os.map oV
  | [], _, r => by cases r; rfl
  | o :: os, _, r => by
    cases r with
    | cons r1 rr =>
      rw [o_inv r1, os_inv rr] <;> rfl
theorem os_flat (os : List (Option Int)) : (os.map oV).all flatV = true := by
  rw [List.all_map, List.all_eq_true]
  intro o _
  cases o <;> rfl
theorem rd_inN {K : PySem.W.Frag} {os : List (Option Int)} : RD K (rIn K false) .non (.lst (os.map oD)) (.bl (decide (none ∈ os))) := fun x y Hv H Q l r1 r2 q => by
  cases r1
  obtain ⟨a, xs, rfl, hs, r⟩ := r2.list rfl
  have e := os_inv r
  subst e
  refine ⟨a, os.map oV, rfl, .inl (Le.l l hs), rfl, os_flat os, ?_⟩
  have e : (if false = true then !inV .non (os.map oV) else inV .non (os.map oV)) = decide (none ∈ os) := by
    rw [if_neg Bool.false_ne_true]
    unfold inV
    rw [Bool.eq_iff_iff, List.any_map, List.any_eq_true, decide_eq_true_iff]
    constructor
    · rintro ⟨o, ho, h⟩
      cases o with
      | none => exact ho
      | some i => cases h
    · intro h
      exact ⟨none, h, rfl⟩
  rw [e]
  exact q _ Hv H (Gr.refl l) (.bl _)
theorem evd_indexN {K : PySem.W.Frag} {b : Bs} {ρ : Rho} {te : TE} {os : List (Option Int)} {j : Nat} (h : EvD K b te ρ (.lst (os.map oD))) (hj : os[j]? = some none) (hn : ∀ m, m < j → os[m]? ≠ some none) : EvD K b (tBM K "list" (rIndex K) te (tCons (tC .non) tNil)) ρ (.int (j : Nat)) := fun σ Hv H Q A q =>
  h σ Hv H _ A fun v Hv1 H1 g r => by
    obtain ⟨a, xs, rfl, hs, rr⟩ := r.list rfl
    have e := os_inv rr
    subst e
    refine ⟨.inl ⟨rfl, os.map oV, Le.l g.sub hs⟩, ?_⟩
    refine ⟨a, os.map oV, .non, j, .non, rfl, rfl, Le.l g.sub hs, rfl, os_flat os, by rw [List.getElem?_map, hj] <;> rfl, rfl, fun m z hm hz => ?_, q _ Hv1 H1 g (.int _)⟩
    rw [List.getElem?_map] at hz
    cases ho : os[m]? with
    | none => rw [ho] at hz; cases hz
    | some o =>
      rw [ho] at hz
      cases hz
      cases o with
      | none => exact absurd ho (hn m hm)
      | some i => rfl
end Kn
namespace Kn
open PySem PySem.Spec L2

/-! ### things that change -/
inductive MC where
  | lst (ds : List D)
  | dct (kvs : List (Str × (Int × Int)))
  | raw (o : HO)
abbrev Mu := Addr → Option MC
def updM (μ : Mu) (a : Addr) (c : MC) : Mu := fun b => if b = a then some c else μ b
theorem updM_same {μ : Mu} {a : Addr} {c : MC} : updM μ a c a = some c := if_pos rfl
theorem updM_ne {μ : Mu} {a b : Addr} {c : MC} (h : b ≠ a) : updM μ a c b = μ b := if_neg h
def McOk (K : PySem.W.Frag) (Hv H : Hp) (a : Addr) : MC → Prop
  | .lst ds => ∃ xs, H a = some (.lst xs) ∧ RepAll K Hv xs ds
  | .dct kvs => ∃ es : List (L2.Key × V), H a = some (.dK es) ∧ es.map (·.1) = kvs.map (fun p => Sum.inr p.1) ∧ RepAll K Hv (es.map (·.2)) (kvs.map fun p => bD p.2)
  | .raw o => H a = some o
structure MutOk (K : PySem.W.Frag) (Hv H : Hp) (μ : Mu) : Prop where
  hid : ∀ a c, μ a = some c → Hv a = none
  ok : ∀ a c, μ a = some c → McOk K Hv H a c
section
variable {K : PySem.W.Frag} {Hv H Hv1 H1 Hv2 H2 : Hp} {μ μ1 μ2 : Mu} {a : Addr} {c : MC}
theorem McOk.there (h : McOk K Hv H a c) : H a ≠ none := by
  cases c with
  | lst ds => obtain ⟨xs, e, _⟩ := h; rw [e]; exact fun z => nomatch z
  | dct kvs => obtain ⟨es, e, _⟩ := h; rw [e]; exact fun z => nomatch z
  | raw o => rw [show H a = some o from h]; exact fun z => nomatch z
theorem McOk.mono (h : McOk K Hv H a c) (l : Le Hv Hv1) (e : H1 a = H a) : McOk K Hv1 H1 a c := by
  cases c with
  | lst ds => obtain ⟨xs, h1, r⟩ := h; exact ⟨xs, e.trans h1, r.mono l⟩
  | dct kvs => obtain ⟨es, h1, h2, r⟩ := h; exact ⟨es, e.trans h1, h2, r.mono l⟩
  | raw o => exact e.trans h
/-- the entry: heaps, what may change, the scope's visible heap -/
structure BM where
  v : Hp
  h : Hp
  m : Mu
  s : Hp
/-- how the state has come on from there -/
structure Lv (K : PySem.W.Frag) (b : BM) (Hv H : Hp) (μ : Mu) : Prop where
  big : ∀ a o, b.m a = none → b.h a = some o → H a = some o
  vis : Le b.v Hv
  sub : Le Hv H
  old : ∀ a, b.h a ≠ none → Hv a = b.v a
  fr : ∀ a, b.m a = none → μ a ≠ none → b.h a = none
  dom : ∀ a, b.m a ≠ none → μ a ≠ none
  mok : MutOk K Hv H μ
theorem Lv.refl {s : Hp} (l : Le Hv H) (m : MutOk K Hv H μ) : Lv K ⟨Hv, H, μ, s⟩ Hv H μ := ⟨fun _ _ _ h => h, Le.refl _, l, fun _ _ => rfl, fun _ h1 h2 => absurd h1 h2, fun _ h => h, m⟩
theorem Lv.trans {b : BM} {s : Hp} (x : Lv K b Hv H μ) (y : Lv K ⟨Hv, H, μ, s⟩ Hv1 H1 μ1) : Lv K b Hv1 H1 μ1 := by
  have hm : ∀ a, b.m a = none → b.h a ≠ none → μ a = none := fun a h1 h2 => by
    cases e : μ a with
    | none => rfl
    | some c => exact absurd (x.fr a h1 (by rw [e]; exact fun z => nomatch z)) h2
  have hh : ∀ a, b.h a ≠ none → H a ≠ none := fun a h => by
    cases e : b.m a with
    | none =>
      cases eh : b.h a with
      | none => exact absurd eh h
      | some o => rw [x.big a o e eh]; exact fun z => nomatch z
    | some c =>
      cases em : μ a with
      | none => exact absurd em (x.dom a (by rw [e]; exact fun z => nomatch z))
      | some c' => exact (x.mok.ok a c' em).there
  refine ⟨fun a o h1 h2 => y.big a o (hm a h1 (by rw [h2]; exact fun z => nomatch z)) (x.big a o h1 h2), Le.trans x.vis y.vis, y.sub, fun a h => (y.old a (hh a h)).trans (x.old a h), fun a h1 h2 => ?_, fun a h => y.dom a (x.dom a h), y.mok⟩
  cases e : μ a with
  | some c => exact x.fr a h1 (by rw [e]; exact fun z => nomatch z)
  | none =>
    have := y.fr a e h2
    cases eh : b.h a with
    | none => rfl
    | some o =>
      have z := x.big a o h1 eh
      rw [show H a = none from this] at z
      cases z
theorem MutOk.grow (m : MutOk K Hv H μ) (g : Gr Hv H Hv1 H1) : MutOk K Hv1 H1 μ := ⟨fun a c e => (g.old a (m.ok a c e).there).trans (m.hid a c e), fun a c e => (m.ok a c e).mono g.vis (by
  cases eh : H a with
  | none => exact absurd eh (m.ok a c e).there
  | some o => exact g.big a o eh)⟩
theorem Lv.ofGr {s : Hp} (m : MutOk K Hv H μ) (g : Gr Hv H Hv1 H1) : Lv K ⟨Hv, H, μ, s⟩ Hv1 H1 μ := ⟨fun a o _ h => g.big a o h, g.vis, g.sub, g.old, fun _ h1 h2 => absurd h1 h2, fun _ h => h, m.grow g⟩
end
def noOwn (ρ : Rho) : Prop := ∀ (i : Nat) (ds : List D), ρ[i]? ≠ some (some (.own ds))
structure AtM (K : PySem.W.Frag) (b : BM) (σ : L2.St) (Hv H : Hp) (ρ : Rho) (μ : Mu) : Prop where
  lv : Lv K b Hv H μ
  sc : Le b.s Hv
  len : σ.length = ρ.length
  dat : ∀ (i : Nat) (d : D), ρ[i]? = some (some (.dat d)) → ∃ v, σ[i]? = some (some v) ∧ Rep K Hv v d
  no : noOwn ρ
section
variable {K : PySem.W.Frag} {b : BM} {σ : L2.St} {Hv H Hv1 H1 : Hp} {ρ : Rho} {μ μ1 : Mu}
theorem AtM.step {s : Hp} (A : AtM K b σ Hv H ρ μ) (l : Lv K ⟨Hv, H, μ, s⟩ Hv1 H1 μ1) : AtM K b σ Hv1 H1 ρ μ1 :=
  ⟨A.lv.trans l, Le.trans A.sc l.vis, A.len, fun i d h => by
    obtain ⟨v, e, r⟩ := A.dat i d h
    exact ⟨v, e, r.mono l.vis⟩, A.no⟩
theorem AtM.at (A : AtM K b σ Hv H ρ μ) : At K ⟨Hv, H, Hv⟩ σ Hv H ρ :=
  ⟨Gr.refl A.lv.sub, Le.refl _, A.len, A.dat, fun i ds h => absurd h (A.no i ds), fun i j p ds es _ h => absurd h (A.no i ds)⟩
theorem AtM.of_at {ρ' : Rho} {σ' : L2.St} (A : AtM K b σ Hv H ρ μ) (B : At K ⟨Hv, H, Hv⟩ σ' Hv1 H1 ρ') (n : noOwn ρ') : AtM K b σ' Hv1 H1 ρ' μ := by
  have l := Lv.ofGr (s := Hv) A.lv.mok B.gr
  exact ⟨A.lv.trans l, Le.trans A.sc l.vis, B.len, B.dat, n⟩
theorem noOwn_set {i : Nat} {d : D} (n : noOwn ρ) : noOwn (ρ.set i (some (.dat d))) := fun j ds h => by
  rw [List.getElem?_set] at h
  split at h
  · split at h
    · cases h
    · cases h
  · exact n j ds h
theorem noOwn_none {i : Nat} (n : noOwn ρ) : noOwn (ρ.set i none) := fun j ds h => by
  rw [List.getElem?_set] at h
  split at h
  · split at h
    · cases h
    · cases h
  · exact n j ds h
theorem AtM.setDat {i : Nat} {v : V} {d : D} (A : AtM K b σ Hv H ρ μ) (r : Rep K Hv v d) : AtM K b (σ.set i (some v)) Hv H (ρ.set i (some (.dat d))) μ := A.of_at (A.at.setDat r) (noOwn_set A.no)
theorem AtM.forget {i : Nat} {o : Option V} (A : AtM K b σ Hv H ρ μ) : AtM K b (σ.set i o) Hv H (ρ.set i none) μ := A.of_at A.at.forget (noOwn_none A.no)
end

/-! ### expressions -/
section
variable (K : PySem.W.Frag) (b : BM) (te : TE) (ρ : Rho) (μ : Mu)
def EvM (P : D → Mu → Prop) : Prop := ∀ (σ : L2.St) (Hv H : Hp) (Q : VK), AtM K b σ Hv H ρ μ → (∀ v Hv' H' d μ', Lv K ⟨Hv, H, μ, Hv⟩ Hv' H' μ' → Rep K Hv' v d → P d μ' → Q v H') → te σ H Q
/-- told, and nothing changes -/
def EvP (d : D) : Prop := EvM K b te ρ μ (fun d' μ' => d' = d ∧ μ' = μ)
def EvPB (tt : TT) (c : Bool) : Prop := ∀ (σ : L2.St) (Hv H : Hp) (Q : Bool → Hp → Prop), AtM K b σ Hv H ρ μ → (∀ Hv' H', Lv K ⟨Hv, H, μ, Hv⟩ Hv' H' μ → Q c H') → tt σ H Q
def EvPA (tA : TA) (ds : List D) : Prop := ∀ (σ : L2.St) (Hv H : Hp) (Q : List V → Hp → Prop), AtM K b σ Hv H ρ μ → (∀ vs Hv' H', Lv K ⟨Hv, H, μ, Hv⟩ Hv' H' μ → RepAll K Hv' vs ds → Q vs H') → tA σ H Q
end
/-! looks at what may change -/
mutual
/-- no list in it -/
def D.lf : D → Bool
  | .tup ds => lfAll ds
  | .lst _ => false
  | .fro _ => false
  | .lsa _ _ => false
  | _ => true
def lfAll : List D → Bool
  | [] => true
  | d :: ds => d.lf && lfAll ds
end
inductive View (μ : Mu) : Rho → Rho → Prop
  | nil : View μ [] []
  | keep {s : Option SD} {r r' : Rho} (h : View μ r r') : View μ (s :: r) (s :: r')
  | look {p : Addr} {ds : List D} {r r' : Rho} (e : μ p = some (.lst ds)) (h : View μ r r') : View μ (some (.dat (.obj (.ref p))) :: r) (some (.dat (.lsa p ds)) :: r')
  | deep {d1 : D} {p : Addr} {ds : List D} {r r' : Rho} (e : μ p = some (.lst ds)) (h : View μ r r') : View μ (some (.dat (.tup [d1, .obj (.ref p)])) :: r) (some (.dat (.tup [d1, .lsa p ds])) :: r')
theorem View.len {μ : Mu} {ρ ρ' : Rho} (h : View μ ρ ρ') : ρ'.length = ρ.length := by
  induction h with
  | nil => rfl
  | keep _ ih => rw [List.length_cons, List.length_cons, ih]
  | look _ _ ih => rw [List.length_cons, List.length_cons, ih]
  | deep _ _ ih => rw [List.length_cons, List.length_cons, ih]
theorem View.get {μ : Mu} {ρ ρ' : Rho} (h : View μ ρ ρ') : ∀ (i : Nat) (s : SD), ρ'[i]? = some (some s) → ρ[i]? = some (some s) ∨ (∃ p ds, s = .dat (.lsa p ds) ∧ ρ[i]? = some (some (.dat (.obj (.ref p)))) ∧ μ p = some (.lst ds)) ∨ ∃ d1 p ds, s = .dat (.tup [d1, .lsa p ds]) ∧ ρ[i]? = some (some (.dat (.tup [d1, .obj (.ref p)]))) ∧ μ p = some (.lst ds) := by
  induction h with
  | nil => exact fun i s h => .inl h
  | keep _ ih =>
    intro i s h
    cases i with
    | zero => exact .inl h
    | succ i => exact ih i s h
  | look e _ ih =>
    intro i s h
    cases i with
    | zero =>
      have h' : some (some (SD.dat (D.lsa _ _))) = some (some s) := h
      cases h'
      exact .inr (.inl ⟨_, _, rfl, rfl, e⟩)
    | succ i => exact ih i s h
  | deep e _ ih =>
    intro i s h
    cases i with
    | zero =>
      have h' : some (some (SD.dat (D.tup [_, D.lsa _ _]))) = some (some s) := h
      cases h'
      exact .inr (.inr ⟨_, _, _, rfl, rfl, e⟩)
    | succ i => exact ih i s h
theorem View.refl (μ : Mu) : ∀ ρ : Rho, View μ ρ ρ
  | [] => .nil
  | _ :: r => .keep (View.refl μ r)
/-- the lists that may change, shown -/
def shown (μ : Mu) (Hv H : Hp) : Hp := fun a => match μ a with
  | some (.lst _) => H a
  | _ => Hv a
def unshown (μ : Mu) (Hv : Hp) : Hp := fun a => match μ a with
  | some (.lst _) => none
  | _ => Hv a
section
variable {K : PySem.W.Frag} {b : BM} {σ : L2.St} {Hv H Hv1 H1 : Hp} {ρ ρ' : Rho} {μ μ1 : Mu}
theorem shown_lst {a : Addr} {ds : List D} (e : μ a = some (.lst ds)) : shown μ Hv H a = H a := by
  unfold shown
  rw [e]
theorem shown_no {a : Addr} (e : ∀ ds, μ a ≠ some (.lst ds)) : shown μ Hv H a = Hv a := by
  unfold shown
  split
  · rename_i ds h
    exact absurd h (e ds)
  · rfl
theorem unshown_lst {a : Addr} {ds : List D} (e : μ a = some (.lst ds)) : unshown μ Hv a = none := by
  unfold unshown
  rw [e]
theorem unshown_no {a : Addr} (e : ∀ ds, μ a ≠ some (.lst ds)) : unshown μ Hv a = Hv a := by
  unfold unshown
  split
  · rename_i ds h
    exact absurd h (e ds)
  · rfl
theorem isl (μ : Mu) (a : Addr) : (∃ ds, μ a = some (.lst ds)) ∨ ∀ ds, μ a ≠ some (.lst ds) := by
  cases e : μ a with
  | none => exact .inr fun ds z => nomatch z
  | some c =>
    cases c with
    | lst ds => exact .inl ⟨ds, rfl⟩
    | dct k => exact .inr fun ds z => nomatch z
    | raw o => exact .inr fun ds z => nomatch z
theorem shown_up (m : MutOk K Hv H μ) : Le Hv (shown μ Hv H) := fun a o e => by
  rcases isl μ a with ⟨ds, h⟩ | h
  · rw [m.hid a _ h] at e
    cases e
  · rw [shown_no h]
    exact e
theorem shown_sub (l : Le Hv H) : Le (shown μ Hv H) H := fun a o e => by
  rcases isl μ a with ⟨ds, h⟩ | h
  · rwa [shown_lst h] at e
  · rw [shown_no h] at e
    exact l a o e
theorem AtM.view (A : AtM K b σ Hv H ρ μ) (V : View μ ρ ρ') : At K ⟨shown μ Hv H, H, shown μ Hv H⟩ σ (shown μ Hv H) H ρ' := by
  have up := shown_up A.lv.mok
  have no : ∀ (i : Nat) (ds : List D), ρ'[i]? ≠ some (some (.own ds)) := fun i ds h => by
    rcases V.get i _ h with h | ⟨p, es, e, _⟩ | ⟨d1, p, es, e, _⟩
    · exact A.no i ds h
    · cases e
    · cases e
  refine ⟨Gr.refl (shown_sub A.lv.sub), Le.refl _, by rw [A.len, V.len], fun i d h => ?_, fun i ds h => absurd h (no i ds), fun i j p ds es _ h => absurd h (no i ds)⟩
  rcases V.get i _ h with h2 | ⟨p, es, e, h2, hp⟩ | ⟨d1, p, es, e, h2, hp⟩
  · obtain ⟨v, e, r⟩ := A.dat i d h2
    exact ⟨v, e, r.mono up⟩
  · cases e
    obtain ⟨v, e, r⟩ := A.dat i _ h2
    have ev := r.obj_inv
    subst ev
    obtain ⟨xs, hx, rx⟩ := A.lv.mok.ok p _ hp
    exact ⟨_, e, .lsa (by rw [shown_lst hp]; exact hx) (rx.mono up)⟩
  · cases e
    obtain ⟨v, e, r⟩ := A.dat i _ h2
    obtain ⟨a, ys, rfl, ha, rr⟩ := r.tup_inv
    obtain ⟨v1, v2, rfl, r1, r2⟩ := rr.two
    have ev := r2.obj_inv
    subst ev
    obtain ⟨xs, hx, rx⟩ := A.lv.mok.ok p _ hp
    exact ⟨_, e, .tup (up _ _ ha) (.cons (r1.mono up) (.cons (.lsa (by rw [shown_lst hp]; exact hx) (rx.mono up)) .nil))⟩
theorem unview (l : Le Hv H) (m : MutOk K Hv H μ) (g : Gr (shown μ Hv H) H Hv1 H1) : Lv K ⟨Hv, H, μ, Hv⟩ (unshown μ Hv1) H1 μ := by
  have up : Le Hv (unshown μ Hv1) := fun a o e => by
    rcases isl μ a with ⟨ds, h⟩ | h
    · rw [m.hid a _ h] at e
      cases e
    · rw [unshown_no h]
      exact g.vis a o (shown_up m a o e)
  refine ⟨fun a o _ h => g.big a o h, up, fun a o e => ?_, fun a h => ?_, fun _ h1 h2 => absurd h1 h2, fun _ h => h, ⟨fun a c e => ?_, fun a c e => (m.ok a c e).mono up ?_⟩⟩
  · rcases isl μ a with ⟨ds, h⟩ | h
    · rw [unshown_lst h] at e
      cases e
    · rw [unshown_no h] at e
      exact g.sub a o e
  · rcases isl μ a with ⟨ds, z⟩ | z
    · rw [unshown_lst z]
      exact (m.hid a _ z).symm
    · rw [unshown_no z, g.old a h, shown_no z]
  · rcases isl μ a with ⟨ds, z⟩ | z
    · exact unshown_lst z
    · rw [unshown_no z, g.old a (m.ok a c e).there, shown_no z]
      exact m.hid a c e
  · cases eh : H a with
    | none => exact absurd eh (m.ok a c e).there
    | some o => exact g.big a o eh
mutual
theorem Rep.unsh (h : ∀ a xs, Hv1 a = some (.tup xs) → unshown μ Hv1 a = some (.tup xs)) : ∀ {v : V} {d : D}, Rep K Hv1 v d → d.lf = true → Rep K (unshown μ Hv1) v d
  | _, _, .non, _ => .non
  | _, _, .bl b, _ => .bl b
  | _, _, .int i, _ => .int i
  | _, _, .str x, _ => .str x
  | _, _, .tup e r, l => .tup (h _ _ e) (RepAll.unsh h r l)
  | _, _, .lst _ _, l => nomatch l
  | _, _, .fro _ _, l => nomatch l
  | _, _, .obj v, _ => .obj v
  | _, _, .lsa _ _, l => nomatch l
theorem RepAll.unsh (h : ∀ a xs, Hv1 a = some (.tup xs) → unshown μ Hv1 a = some (.tup xs)) : ∀ {vs : List V} {ds : List D}, RepAll K Hv1 vs ds → lfAll ds = true → RepAll K (unshown μ Hv1) vs ds
  | _, _, .nil, _ => .nil
  | _, _, .cons (d := d) (ds := ds) r t, l => by
    have l' : (d.lf && lfAll ds) = true := l
    rw [Bool.and_eq_true] at l'
    exact .cons (Rep.unsh h r l'.1) (RepAll.unsh h t l'.2)
end
theorem unsh_tup (m : MutOk K Hv H μ) (g : Gr (shown μ Hv H) H Hv1 H1) : ∀ a xs, Hv1 a = some (.tup xs) → unshown μ Hv1 a = some (.tup xs) := fun a xs e => by
  rcases isl μ a with ⟨ds, h⟩ | h
  · obtain ⟨ys, hy, _⟩ := m.ok a _ h
    have := g.old a (by rw [hy]; exact fun z => nomatch z)
    rw [shown_lst h, hy] at this
    rw [this] at e
    cases e
  · rwa [unshown_no h]
end
section
variable {K : PySem.W.Frag} {b : BM} {te ta tb : TE} {tt : TT} {tA : TA} {ρ ρ' : Rho} {μ : Mu} {d : D} {ds : List D}
theorem evp_look (V : View μ ρ ρ') (h : ∀ b', EvD K b' te ρ' d) (hl : d.lf = true) : EvP K b te ρ μ d := fun σ Hv H Q A q =>
  h _ σ _ H _ (A.view V) fun v Hv1 H1 g r => q v _ H1 d μ (unview A.lv.sub A.lv.mok g) (r.unsh (unsh_tup A.lv.mok g) hl) ⟨rfl, rfl⟩
theorem evpb_look {c : Bool} (V : View μ ρ ρ') (h : ∀ b', EvB K b' tt ρ' c) : EvPB K b ρ μ tt c := fun σ Hv H Q A q =>
  h _ σ _ H _ (A.view V) fun Hv1 H1 g => q _ H1 (unview A.lv.sub A.lv.mok g)
theorem evp_lookF (V : View μ ρ ρ') (h : ∀ b', EvF K b' te ρ' ds) (hl : lfAll ds = true) : EvP K b te ρ μ (.lst ds) := fun σ Hv H Q A q =>
  h _ σ _ H _ (A.view V) fun p xs Hv1 H1 g hp hv ho r => by
    have l := unview A.lv.sub A.lv.mok g
    have hpm : ∀ es, μ p ≠ some (.lst es) := fun es z => (A.lv.mok.ok p _ z).there hp
    have hn : unshown μ Hv1 p = none := by
      rw [unshown_no hpm]
      exact hv
    have L : Lv K ⟨Hv, H, μ, Hv⟩ (upd (unshown μ Hv1) p (.lst xs)) H1 μ := by
      refine ⟨l.big, Le.trans l.vis (Le.new hn), fun a u e => ?_, fun a h => ?_, l.fr, l.dom, ⟨fun a c e => ?_, fun a c e => (l.mok.ok a c e).mono (Le.new hn) rfl⟩⟩
      · by_cases ha : a = p
        · subst ha
          rw [upd_same] at e
          rw [ho, e]
        · rw [upd_ne ha] at e
          exact l.sub a u e
      · rw [upd_ne (show a ≠ p from fun z => h (by rw [z]; exact hp))]
        exact l.old a h
      · rw [upd_ne (show a ≠ p from fun z => (A.lv.mok.ok a c e).there (by rw [z]; exact hp))]
        exact l.mok.hid a c e
    exact q (.ref p) _ H1 (.lst ds) μ L (.lst upd_same ((r.unsh (unsh_tup A.lv.mok g) hl).mono (Le.new hn))) ⟨rfl, rfl⟩
/-- told without a look -/
theorem evp_of (h : ∀ b', EvD K b' te ρ d) : EvP K b te ρ μ d := fun σ Hv H Q A q =>
  h _ σ _ H _ A.at fun v Hv1 H1 g r => q v Hv1 H1 d μ (Lv.ofGr A.lv.mok g) r ⟨rfl, rfl⟩
theorem evpb_of {c : Bool} (h : ∀ b', EvB K b' tt ρ c) : EvPB K b ρ μ tt c := fun σ Hv H Q A q => h _ σ _ H _ A.at fun Hv1 H1 g => q Hv1 H1 (Lv.ofGr A.lv.mok g)
theorem evpa_of (h : ∀ b', EvA K b' tA ρ ds) : EvPA K b ρ μ tA ds := fun σ Hv H Q A q => h _ σ _ H _ A.at fun vs Hv1 H1 g r => q vs Hv1 H1 (Lv.ofGr A.lv.mok g) r
theorem evpa_nil : EvPA K b ρ μ tNil [] := evpa_of fun _ => eva_nil
theorem evpa_cons (ha : EvP K b ta ρ μ d) (hr : EvPA K b ρ μ tA ds) : EvPA K b ρ μ (tCons ta tA) (d :: ds) := fun σ Hv H Q A q =>
  ha σ Hv H _ A fun v Hv1 H1 d' μ' l r ⟨e1, e2⟩ => by
    subst e1 e2
    exact hr σ Hv1 H1 _ (A.step l) fun vs Hv2 H2 l2 r2 => q (v :: vs) Hv2 H2 (l.trans l2) (.cons (r.mono l2.vis) r2)
theorem evm_of {P : D → Mu → Prop} (h : EvP K b te ρ μ d) (hp : P d μ) : EvM K b te ρ μ P := fun σ Hv H Q A q => h σ Hv H Q A fun v Hv' H' d' μ' l r ⟨e1, e2⟩ => by
  subst e1 e2
  exact q v Hv' H' d' μ' l r hp
theorem evm_mono {P P' : D → Mu → Prop} (h : EvM K b te ρ μ P) (k : ∀ d μ', P d μ' → P' d μ') : EvM K b te ρ μ P' := fun σ Hv H Q A q => h σ Hv H Q A fun v Hv' H' d' μ' l r p => q v Hv' H' d' μ' l r (k d' μ' p)
end
end Kn
namespace Kn
open PySem PySem.Spec L2

/-! ### statements where things change -/
structure DM where
  nx : Rho → Mu → Prop
  rt : D → Mu → Prop
structure CnM (K : PySem.W.Frag) (b : BM) (N : DM) (E : Ends) : Prop where
  nx : ∀ σ Hv H ρ μ, AtM K b σ Hv H ρ μ → N.nx ρ μ → E.nx σ H
  rt : ∀ v Hv H d μ, Lv K b Hv H μ → Rep K Hv v d → N.rt d μ → E.rt v H
def StM (K : PySem.W.Frag) (b : BM) (t : TS) (N : DM) (ρ : Rho) (μ : Mu) : Prop := ∀ (σ : L2.St) (Hv H : Hp) (E : Ends), AtM K b σ Hv H ρ μ → CnM K b N E → t E σ H
inductive Back : Rho → Rho → Prop
  | nil : Back [] []
  | drop {s : Option SD} {r r' : Rho} (h : Back r r') : Back (s :: r) (none :: r')
  | keep {d : D} {r r' : Rho} (e : d.lf = true) (h : Back r r') : Back (some (.dat d) :: r) (some (.dat d) :: r')
  | ref {p : Addr} {ds : List D} {r r' : Rho} (h : Back r r') : Back (some (.dat (.lsa p ds)) :: r) (some (.dat (.obj (.ref p))) :: r')
theorem Back.len {ρ ρ' : Rho} (h : Back ρ ρ') : ρ'.length = ρ.length := by
  induction h with
  | nil => rfl
  | drop _ ih => rw [List.length_cons, List.length_cons, ih]
  | keep _ _ ih => rw [List.length_cons, List.length_cons, ih]
  | ref _ ih => rw [List.length_cons, List.length_cons, ih]
theorem Back.get {ρ ρ' : Rho} (h : Back ρ ρ') : ∀ (i : Nat) (s : SD), ρ'[i]? = some (some s) → ∃ d, s = .dat d ∧ ((d.lf = true ∧ ρ[i]? = some (some (.dat d))) ∨ ∃ p ds, d = .obj (.ref p) ∧ ρ[i]? = some (some (.dat (.lsa p ds)))) := by
  induction h with
  | nil => exact fun i s h => by simp at h
  | drop _ ih =>
    intro i s h
    cases i with
    | zero => cases h
    | succ i => exact ih i s h
  | keep e _ ih =>
    intro i s h
    cases i with
    | zero => cases h; exact ⟨_, rfl, .inl ⟨e, rfl⟩⟩
    | succ i => exact ih i s h
  | ref _ ih =>
    intro i s h
    cases i with
    | zero => cases h; exact ⟨_, rfl, .inr ⟨_, _, rfl, rfl⟩⟩
    | succ i => exact ih i s h
theorem noOwn_of_dat {ρ : Rho} (h : ∀ (i : Nat) (s : SD), ρ[i]? = some (some s) → ∃ d, s = .dat d) : noOwn ρ := fun i ds e => by
  obtain ⟨d, z⟩ := h i _ e
  cases z
section
variable {K : PySem.W.Frag} {b : BM} {ρ ρ1 : Rho} {μ μ1 : Mu} {te ta tb : TE} {tt : TT} {tA : TA} {t u : TS} {d e z : D} {ds : List D} {N : DM} {P : D → Mu → Prop}
theorem stM_seq (h : StM K b t { N with nx := fun ρ' μ' => StM K b u N ρ' μ' } ρ μ) : StM K b (tSeq t u) N ρ μ := fun σ Hv H E A C =>
  h σ Hv H _ A ⟨fun σ' Hv' H' ρ' μ' A' q => q σ' Hv' H' E A' C, C.rt⟩
theorem stM_next (h : N.nx ρ μ) : StM K b tNext N ρ μ := fun σ Hv H E A C => C.nx σ Hv H ρ μ A h
theorem stM_set {i : Nat} (h : EvM K b te ρ μ P) (k : ∀ d μ', P d μ' → N.nx (ρ.set i (some (.dat d))) μ') : StM K b (tAsg te (gName i)) N ρ μ := fun σ Hv H E A C =>
  h σ Hv H _ A fun v Hv1 H1 d μ' l r p => C.nx _ Hv1 H1 _ _ ((A.step l).setDat r) (k d μ' p)
theorem stM_setP {i : Nat} (h : EvP K b te ρ μ d) (k : N.nx (ρ.set i (some (.dat d))) μ) : StM K b (tAsg te (gName i)) N ρ μ := stM_set h fun d' μ' ⟨e1, e2⟩ => by
  subst e1 e2
  exact k
theorem stM_ret (h : EvM K b te ρ μ P) (k : ∀ d μ', P d μ' → N.rt d μ') : StM K b (tRet te) N ρ μ := fun σ Hv H E A C =>
  h σ Hv H _ A fun v Hv1 H1 d μ' l r p => C.rt v Hv1 H1 d μ' (A.lv.trans l) r (k d μ' p)
theorem stM_retP (h : EvP K b te ρ μ d) (k : N.rt d μ) : StM K b (tRet te) N ρ μ := stM_ret h fun d' μ' ⟨e1, e2⟩ => by
  subst e1 e2
  exact k
theorem stM_drop (h : EvM K b te ρ μ P) (k : ∀ d μ', P d μ' → N.nx ρ μ') : StM K b (tDrop te) N ρ μ := fun σ Hv H E A C =>
  h σ Hv H _ A fun v Hv1 H1 d μ' l r p => C.nx σ Hv1 H1 ρ μ' (A.step l) (k d μ' p)
theorem stM_if {c : Bool} (h : EvPB K b ρ μ tt c) (h1 : c = true → StM K b t N ρ μ) (h2 : c = false → StM K b u N ρ μ) : StM K b (tIfS tt t u) N ρ μ := fun σ Hv H E A C =>
  h σ Hv H _ A fun Hv1 H1 l => by
    cases c with
    | true =>
      show t E σ H1
      exact h1 rfl σ Hv1 H1 E (A.step l) C
    | false =>
      show u E σ H1
      exact h2 rfl σ Hv1 H1 E (A.step l) C
theorem stM_asg {g : TG} {js : List Nat} {f : Rho → Rho} (h : EvP K b te ρ μ d) (hg : GtD K g d js f) (hn : noOwn (f ρ)) (k : N.nx (f ρ) μ) : StM K b (tAsg te g) N ρ μ := fun σ Hv H E A C =>
  h σ Hv H _ A fun v Hv1 H1 d' μ' l r ⟨e1, e2⟩ => by
    subst e1 e2
    have A1 := A.step l
    exact hg _ v σ Hv1 H1 ρ _ A1.at r fun σ' _ B => C.nx σ' Hv1 H1 _ _ (A1.of_at B hn) k
theorem stM_mono {N' : DM} (h : StM K b t N ρ μ) (h1 : ∀ r m, N.nx r m → N'.nx r m) (h2 : ∀ d m, N.rt d m → N'.rt d m) : StM K b t N' ρ μ := fun σ Hv H E A C =>
  h σ Hv H E A ⟨fun s a c r m A' q => C.nx s a c r m A' (h1 r m q), fun v a c d m l r q => C.rt v a c d m l r (h2 d m q)⟩
theorem stM_join (J : Rho → Mu → Prop) (h : StM K b t { N with nx := J } ρ μ) (k : ∀ r m, J r m → StM K b u N r m) : StM K b (tSeq t u) N ρ μ := stM_seq (stM_mono h k fun _ _ q => q)
/-- a statement that changes nothing, with a look at what may change -/
theorem stM_look (V : View μ ρ ρ1) (h : ∀ b', StD K b' t { nx := fun ρ2 => ∃ ρ3, Back ρ2 ρ3 ∧ N.nx ρ3 μ, rt := fun d => d.lf = true ∧ N.rt d μ } ρ1) : StM K b t N ρ μ := fun σ Hv H E A C =>
  h _ σ _ H E (A.view V) ⟨fun σ' Hv1 H1 ρ2 B ⟨ρ3, hb, q⟩ => by
      have l := unview A.lv.sub A.lv.mok B.gr
      refine C.nx σ' (unshown μ Hv1) H1 ρ3 μ ⟨A.lv.trans l, Le.trans A.sc l.vis, by rw [hb.len, B.len], fun i d hd => ?_, noOwn_of_dat fun i s hs => (hb.get i s hs).imp fun d z => z.1⟩ q
      obtain ⟨d', e, z⟩ := hb.get i _ hd
      cases e
      rcases z with ⟨hl, h2⟩ | ⟨p, ds, rfl, h2⟩
      · obtain ⟨v, e, r⟩ := B.dat i _ h2
        exact ⟨v, e, r.unsh (unsh_tup A.lv.mok B.gr) hl⟩
      · obtain ⟨v, e, r⟩ := B.dat i _ h2
        cases r with
        | lsa _ _ => exact ⟨_, e, .obj _⟩,
    fun v Hv1 H1 d g r ⟨hl, q⟩ => C.rt v (unshown μ Hv1) H1 d μ (A.lv.trans (unview A.lv.sub A.lv.mok g)) (r.unsh (unsh_tup A.lv.mok g) hl) q, fun _ _ _ _ _ z => z.elim, fun _ _ _ _ _ z => z.elim⟩
/-! changes -/
theorem Lv.put {Hv H : Hp} {s : Hp} {p : Addr} {c0 c : MC} {o : HO} (l : Le Hv H) (m : MutOk K Hv H μ) (hp : μ p = some c0) (hc : McOk K Hv (upd H p o) p c) : Lv K ⟨Hv, H, μ, s⟩ Hv (upd H p o) (updM μ p c) := by
  refine ⟨fun a o' h1 h2 => ?_, Le.refl _, Le.mut l (m.hid p _ hp), fun _ _ => rfl, fun a h1 h2 => ?_, fun a h => ?_, ⟨fun a c' e => ?_, fun a c' e => ?_⟩⟩
  · rw [upd_ne]
    · exact h2
    · rintro rfl
      rw [show μ a = none from h1] at hp
      cases hp
  · by_cases z : a = p
    · subst z
      rw [show μ a = none from h1] at hp
      cases hp
    · rw [updM_ne z] at h2
      exact absurd h1 h2
  · by_cases z : a = p
    · subst z
      rw [updM_same]
      exact fun z => nomatch z
    · rw [updM_ne z]
      exact h
  · by_cases z : a = p
    · subst z
      exact m.hid a _ hp
    · rw [updM_ne z] at e
      exact m.hid a _ e
  · by_cases z : a = p
    · subst z
      rw [updM_same] at e
      cases e
      exact hc
    · rw [updM_ne z] at e
      exact (m.ok a _ e).mono (Le.refl _) (upd_ne z)
theorem mu_none {Hv H : Hp} {p : Addr} (m : MutOk K Hv H μ) (hp : H p = none) : μ p = none := by
  cases e : μ p with
  | none => rfl
  | some c => exact absurd hp (m.ok p c e).there
/-- a new thing that may change -/
theorem Lv.new {Hv H H1 : Hp} {s : Hp} {p : Addr} {c : MC} (l : Le Hv H1) (m : MutOk K Hv H μ) (hp : H p = none) (hv : Hv p = none) (hk : Le H H1) (hc : McOk K Hv H1 p c) : Lv K ⟨Hv, H, μ, s⟩ Hv H1 (updM μ p c) := by
  have hm := mu_none m hp
  refine ⟨fun a o' h1 h2 => hk a o' h2, Le.refl _, l, fun _ _ => rfl, fun a h1 h2 => ?_, fun a h => ?_, ⟨fun a c' e => ?_, fun a c' e => ?_⟩⟩
  · by_cases z : a = p
    · subst z
      exact hp
    · rw [updM_ne z] at h2
      exact absurd h1 h2
  · by_cases z : a = p
    · subst z
      exact absurd hm h
    · rw [updM_ne z]
      exact h
  · by_cases z : a = p
    · subst z
      exact hv
    · rw [updM_ne z] at e
      exact m.hid a _ e
  · by_cases z : a = p
    · subst z
      rw [updM_same] at e
      cases e
      exact hc
    · rw [updM_ne z] at e
      refine (m.ok a _ e).mono (Le.refl _) ?_
      cases eh : H a with
      | none => exact absurd eh (m.ok a _ e).there
      | some o => exact hk a o eh
theorem stM_append {i : Nat} {p : Addr} (h : ρ[i]? = some (some (.dat (.obj (.ref p))))) (hp : μ p = some (.lst ds)) (he : EvP K b te ρ μ d) (hz : ds.length < 100000) (k : N.nx ρ (updM μ p (.lst (ds ++ [d])))) :
    StM K b (tDrop (tBM K "list" rAppend (tVar i) (tCons te tNil))) N ρ μ := fun σ Hv H E A C => by
  obtain ⟨v, e, r⟩ := A.dat i _ h
  have ev := r.obj_inv
  subst ev
  obtain ⟨xs, h3, rx⟩ := A.lv.mok.ok p _ hp
  refine ⟨.ref p, e, .inl ⟨rfl, xs, SqL.of h3⟩, ?_⟩
  refine he σ Hv H _ A fun v Hv1 H1 d' μ' l rv ⟨e1, e2⟩ => ?_
  subst e1 e2
  have A1 := A.step l
  obtain ⟨xs', h3', r'⟩ := A1.lv.mok.ok p _ hp
  refine ⟨p, xs', v, rfl, rfl, h3', by rw [r'.length]; exact Nat.lt_of_lt_of_le hz (by decide), ?_⟩
  exact C.nx σ Hv1 _ ρ _ (A1.step (Lv.put (s := Hv1) (c := .lst _) A1.lv.sub A1.lv.mok hp ⟨_, upd_same, r'.append (.cons rv .nil)⟩)) k
theorem stM_setItem {i j : Nat} {ti : TE} {n : Int} {p : Addr} (h : ρ[i]? = some (some (.dat (.obj (.ref p))))) (hp : μ p = some (.lst ds)) (he : EvP K b te ρ μ d) (hi : EvP K b ti ρ μ (.int n)) (hj : ixN ds.length n = some j) (k : N.nx ρ (updM μ p (.lst (ds.set j d)))) :
    StM K b (tAsg te (gSub (tVar i) ti rSetL)) N ρ μ := fun σ Hv H E A C => by
  refine he σ Hv H _ A fun v Hv0 H0 d' μ' l0 rv ⟨e1, e2⟩ => ?_
  subst e1 e2
  have A0 := A.step l0
  obtain ⟨w, e, r⟩ := A0.dat i _ h
  have ev := r.obj_inv
  subst ev
  refine ⟨.ref p, e, ?_⟩
  refine hi σ Hv0 H0 _ A0 fun iv Hv1 H1 d2 μ2 l ri ⟨e1, e2⟩ => ?_
  subst e1 e2
  have ei := ri.int_inv
  subst ei
  have A1 := A0.step l
  obtain ⟨xs', h3', r'⟩ := A1.lv.mok.ok p _ hp
  refine ⟨p, xs', n, j, rfl, rfl, h3', by rw [r'.length]; exact hj, ?_⟩
  exact C.nx σ Hv1 _ ρ _ (A1.step (Lv.put (s := Hv1) (c := .lst _) A1.lv.sub A1.lv.mok hp ⟨_, upd_same, r'.set (rv.mono l.vis) j⟩)) k
/-- x.pop(i), x a list that may change -/
theorem evm_popAt {i k : Nat} {ti : TE} {n : Int} {p : Addr} (h : ρ[i]? = some (some (.dat (.obj (.ref p))))) (hp : μ p = some (.lst ds)) (hi : EvP K b ti ρ μ (.int n)) (h1 : -(2 ^ 63) ≤ n ∧ n < 2 ^ 63) (hk : seqIndex? n ds.length = some k) (hd : ds[k]? = some d) :
    EvM K b (tBM K "list" rPopAt (tVar i) (tCons ti tNil)) ρ μ (fun d' μ' => d' = d ∧ μ' = updM μ p (.lst (ds.eraseIdx k))) := fun σ Hv H Q A q => by
  obtain ⟨v, e, r⟩ := A.dat i _ h
  have ev := r.obj_inv
  subst ev
  obtain ⟨xs, h3, rx⟩ := A.lv.mok.ok p _ hp
  refine ⟨.ref p, e, .inl ⟨rfl, xs, SqL.of h3⟩, ?_⟩
  refine hi σ Hv H _ A fun v Hv1 H1 d' μ' l rv ⟨e1, e2⟩ => ?_
  subst e1 e2
  have ei := rv.int_inv
  subst ei
  have A1 := A.step l
  obtain ⟨xs', h3', r'⟩ := A1.lv.mok.ok p _ hp
  obtain ⟨y, hy, ry⟩ := r'.getD hd
  refine ⟨p, xs', n, k, y, rfl, rfl, h3', h1.1, h1.2, by rw [r'.length]; exact hk, hy, ?_⟩
  have er : RepAll K Hv1 (xs'.eraseIdx k) (ds.eraseIdx k) := by
    rw [List.eraseIdx_eq_take_drop_succ, List.eraseIdx_eq_take_drop_succ]
    exact (r'.take k).append (r'.drop (k + 1))
  exact q y Hv1 _ d _ (l.trans (Lv.put (s := Hv1) (c := .lst _) A1.lv.sub A1.lv.mok hp ⟨_, upd_same, er⟩)) ry ⟨rfl, rfl⟩
/-- x.clear() -/
theorem evm_clear {p : Addr} (hx : EvP K b te ρ μ (.obj (.ref p))) (hp : μ p = some (.lst ds)) : EvM K b (tBM0 K "list" rClear te) ρ μ (fun d' μ' => d' = .non ∧ μ' = updM μ p (.lst [])) := fun σ Hv H Q A q =>
  hx σ Hv H _ A fun v Hv1 H1 d' μ' l rv ⟨e1, e2⟩ => by
    subst e1 e2
    have ev := rv.obj_inv
    subst ev
    have A1 := A.step l
    obtain ⟨xs', h3', r'⟩ := A1.lv.mok.ok p _ hp
    exact ⟨.inl ⟨rfl, xs', SqL.of h3'⟩, p, xs', rfl, rfl, h3', q .non Hv1 _ .non _ (l.trans (Lv.put (s := Hv1) (c := .lst _) A1.lv.sub A1.lv.mok hp ⟨[], upd_same, .nil⟩)) .non ⟨rfl, rfl⟩⟩
/-- a new list that may change -/
theorem evm_fresh (V : View μ ρ ρ1) (h : ∀ b', EvF K b' te ρ1 ds) (hl : lfAll ds = true) : EvM K b te ρ μ (fun d μ' => ∃ p, μ p = none ∧ d = .obj (.ref p) ∧ μ' = updM μ p (.lst ds)) := fun σ Hv H Q A q =>
  h _ σ _ H _ (A.view V) fun p xs Hv1 H1 g hp hv ho r => by
    have l := unview A.lv.sub A.lv.mok g
    have hpm := mu_none A.lv.mok hp
    have hn : unshown μ Hv1 p = none := by
      rw [unshown_no fun es z => by rw [hpm] at z; cases z]
      exact hv
    have r' := r.unsh (unsh_tup A.lv.mok g) hl
    refine q (.ref p) (unshown μ Hv1) H1 _ (updM μ p (.lst ds)) ?_ (.obj _) ⟨p, hpm, rfl, rfl⟩
    refine ⟨l.big, l.vis, l.sub, l.old, fun a h1 h2 => ?_, fun a h => ?_, ⟨fun a c' e => ?_, fun a c' e => ?_⟩⟩
    · by_cases z : a = p
      · subst z
        exact hp
      · rw [updM_ne z] at h2
        exact absurd h1 h2
    · by_cases z : a = p
      · subst z
        exact absurd hpm h
      · rw [updM_ne z]
        exact h
    · by_cases z : a = p
      · subst z
        exact hn
      · rw [updM_ne z] at e
        exact l.mok.hid a _ e
    · by_cases z : a = p
      · subst z
        rw [updM_same] at e
        cases e
        exact ⟨xs, ho, r'⟩
      · rw [updM_ne z] at e
        exact l.mok.ok a _ e
end
end Kn
namespace Kn
open PySem PySem.Spec L2

/-! ### promises where things change -/
abbrev RM := List D → Mu → (D → Mu → Prop) → (Value → Option Addr → Mu → Prop) → Prop
def spM (K : PySem.W.Frag) (R : RM) : Sp := fun vs H Q E => ∃ (ds : List D) (μ : Mu) (Hv : Hp) (P : D → Mu → Prop) (X : Value → Option Addr → Mu → Prop), Le Hv H ∧ RepAll K Hv vs ds ∧ MutOk K Hv H μ ∧ R ds μ P X ∧
  (∀ v Hv' H' d μ', Lv K ⟨Hv, H, μ, Hv⟩ Hv' H' μ' → Rep K Hv' v d → P d μ' → Q v H') ∧ (∀ c dd Hv' H' μ', Lv K ⟨Hv, H, μ, Hv⟩ Hv' H' μ' → X c dd μ' → E c dd H')
theorem spM_len {K : PySem.W.Frag} {R : RM} {n : Nat} (h : ∀ ds μ P X, R ds μ P X → ds.length = n) : ∀ vs H Q E, spM K R vs H Q E → vs.length = n := by
  rintro vs H Q E ⟨ds, μ, Hv, P, X, _, r, _, hR, _⟩
  rw [r.length, h ds μ P X hR]
def BodyM (K : PySem.W.Frag) (n : Nat) (t : XK → TS) (R : RM) : Prop := ∀ (ds : List D) (μ : Mu) (P : D → Mu → Prop) (X : Value → Option Addr → Mu → Prop) (b : BM) (E : XK), b.m = μ → R ds μ P X →
  (∀ c dd Hv' H' μ', Lv K b Hv' H' μ' → X c dd μ' → E c dd H') → StM K b (t E) { nx := fun _ μ' => P .non μ', rt := P } (rho0 n ds) μ
theorem noOwn_rho0 {n : Nat} {ds : List D} : noOwn (rho0 n ds) := noOwn_of_dat fun i s h => by
  unfold rho0 at h
  rw [List.getElem?_append] at h
  split at h
  · rw [List.getElem?_map] at h
    cases e : ds[i]? with
    | none => rw [e] at h; cases h
    | some d => rw [e] at h; cases h; exact ⟨d, rfl⟩
  · rw [List.getElem?_replicate] at h
    split at h <;> cases h
theorem body_pureM {K : PySem.W.Frag} {n : Nat} {t : XK → TS} {R : RM} (h : BodyM K n t R) {N : List Str} (hn : N.length = n) (vs : List V) (H : Hp) (Q : VK) (E : XK) (hs : spM K R vs H Q E) :
    t E { nx := fun _ H' => Q .non H', rt := Q } (L2.start N vs) H := by
  subst hn
  obtain ⟨ds, μ, Hv, P, X, l, r, m, hR, hq, hx⟩ := hs
  have B := at_entry (N := N) l r
  exact h ds μ P X ⟨Hv, H, μ, Hv⟩ E rfl hR (fun c dd Hv' H' μ' l' x => hx c dd Hv' H' μ' l' x) (L2.start N vs) Hv H _ ⟨Lv.refl l m, Le.refl _, B.len, B.dat, noOwn_rho0⟩ ⟨fun σ Hv' H' ρ μ' A p => hq .non Hv' H' .non μ' A.lv .non p, fun v Hv' H' d μ' l' rv p => hq v Hv' H' d μ' l' rv p⟩
section
variable {K : PySem.W.Frag} {b : BM} {ρ ρ1 : Rho} {μ μ1 : Mu} {te ta tb : TE} {tt : TT} {tA : TA} {t u : TS} {d e z : D} {ds : List D} {N : DM} {P : D → Mu → Prop} {X : Value → Option Addr → Mu → Prop} {R : RM}
/-! calls -/
theorem evm_call {E : XK} (ha : EvPA K b ρ μ tA ds) (hr : R ds μ P X) (hx : ∀ c dd μ' Hv' H', X c dd μ' → Lv K b Hv' H' μ' → E c dd H') : EvM K b (tCall (spM K R) [] E tA) ρ μ P := fun σ Hv H Q A q =>
  ha σ Hv H _ A fun vs Hv1 H1 l r => ⟨ds, μ, Hv1, P, X, l.sub, by rw [List.append_nil]; exact r, l.mok, hr, fun v Hv' H' d μ' l' rv p => q v Hv' H' d μ' (l.trans l') rv p, fun c dd Hv' H' μ' l' x => hx c dd μ' Hv' H' x (A.lv.trans (l.trans l'))⟩
theorem evm_callS {W : WX} (ha : EvPA K b ρ μ tA ds) (hr : R ds μ P X) (hx : ∀ c dd μ' σ Hv' H', X c dd μ' → AtM K b σ Hv' H' ρ μ' → W c dd σ H') : EvM K b (tCallS (spM K R) (WE W) tA) ρ μ P := fun σ Hv H Q A q =>
  ha σ Hv H _ A fun vs Hv1 H1 l r => ⟨ds, μ, Hv1, P, X, l.sub, r, l.mok, hr, fun v Hv' H' d μ' l' rv p => q v Hv' H' d μ' (l.trans l') rv p, fun c dd Hv' H' μ' l' x => hx c dd μ' σ Hv' H' x (A.step (l.trans l'))⟩
/-- a call of what changes nothing -/
theorem evp_callD {Rd : List D → Out → Prop} {E : XK} (ha : EvPA K b ρ μ tA ds) (hr : Rd ds (.ret d)) : EvP K b (tCall (spD K Rd) [] E tA) ρ μ d := fun σ Hv H Q A q =>
  ha σ Hv H _ A fun vs Hv1 H1 l r => ⟨ds, .ret d, Hv1, l.sub, by rw [List.append_nil]; exact r, hr, fun v Hv2 H2 g r2 => q v Hv2 H2 d μ (l.trans (Lv.ofGr (s := Hv) l.mok g)) r2 ⟨rfl, rfl⟩⟩
theorem evm_meth {E : XK} {C T dx : Addr} {m : Str} {fs : List (Str × V)} (h0 : EvP K b ta ρ μ (.obj (.ref T))) (hT : μ T = some (.raw (.ins C dx fs))) (hm : fs.lookup m = none) (ha : EvPA K b ρ μ tA ds) {dvs : List V} {es : List D} (hd : ∀ H, RepAll K H dvs es) (hr : R (.obj (.ref T) :: (ds ++ es)) μ P X)
    (hx : ∀ c dd μ' Hv' H', X c dd μ' → Lv K b Hv' H' μ' → E c dd H') : EvM K b (tMeth C m (spM K R) dvs E ta tA) ρ μ P := fun σ Hv H Q A q =>
  h0 σ Hv H _ A fun v Hv0 H0 d' μ' l0 r0 ⟨e1, e2⟩ => by
    subst e1 e2
    have ev := r0.obj_inv
    subst ev
    refine ⟨T, dx, fs, rfl, l0.mok.ok T _ hT, hm, ?_⟩
    refine ha σ Hv0 H0 _ (A.step l0) fun vs Hv1 H1 l r => ?_
    exact ⟨_, μ', Hv1, P, X, l.sub, .cons (.obj _) (r.append (hd Hv1)), l.mok, hr, fun v Hv' H' d μ2 l' rv p => q v Hv' H' d μ2 ((l0.trans l).trans l') rv p, fun c dd Hv' H' μ2 l' x => hx c dd μ2 Hv' H' x (A.lv.trans ((l0.trans l).trans l'))⟩
/-! blocks -/
theorem stM_raise {E : XK} {c : Value} (h : ∀ Hv' H', Lv K b Hv' H' μ → E c none H') : StM K b (tRaiseC (fun c d _ H => E c d H) c) N ρ μ := fun σ Hv H _ A _ => h Hv H A.lv
theorem stM_try {c : Value} {i : Nat} {tb : WX → TS} {ts : Addr → Value → Option Addr → TS} (Xc : Rho → Value → Option Addr → Mu → Prop)
    (hb : ∀ W : WX, (∀ σ Hv H ρ' c' dd μ', AtM K b σ Hv H ρ' μ' → Xc ρ' c' dd μ' → W c' dd σ H) → StM K b (tb W) N ρ μ)
    (hx : ∀ ρ' c' dd μ', Xc ρ' c' dd μ' → PySem.W.exmOne K c' c = some true ∧ ∀ a, StM K b (ts a c' dd) { nx := fun r m => N.nx (r.set i none) m, rt := N.rt } (ρ'.set i (some (.dat (.obj (.ref a))))) μ') :
    StM K b (tTryAs K c i tb ts) N ρ μ := fun σ Hv H E A C =>
  hb _ (fun σ' Hv' H' ρ' c' dd μ' A' x => by
    obtain ⟨h1, h2⟩ := hx ρ' c' dd μ' x
    exact ⟨true, h1, fun _ a _ => h2 a _ Hv' H' _ (A'.setDat (.obj (.ref a))) ⟨fun σ2 Hv2 H2 ρ2 μ2 A2 q => C.nx _ Hv2 H2 _ μ2 A2.forget q, C.rt⟩, fun z => nomatch z⟩) σ Hv H E A C
theorem stM_for {α : Type} {xs : List α} (a : α → D) {wi : TI} {g : TG} {js : List Nat} {f : D → Rho → Rho} (hw : ∀ b', SrcD K b' wi ρ (xs.map a)) (hg : ∀ x ∈ xs, GtD K g (a x) js (f (a x))) (I : Nat → Rho → Mu → Prop) (h0 : I 0 ρ μ)
    (hn : ∀ i x ρ' μ', xs[i]? = some x → I i ρ' μ' → noOwn ρ' → noOwn (f (a x) ρ'))
    (hs : ∀ (s : Hp) (i : Nat) (x : α) (ρ' : Rho) (μ' : Mu), xs[i]? = some x → I i ρ' μ' → StM K ⟨b.v, b.h, b.m, s⟩ t { N with nx := I (i + 1) } (f (a x) ρ') μ')
    (hd : ∀ ρ' μ', I xs.length ρ' μ' → N.nx ρ' μ') : StM K b (tFor wi g t) N ρ μ := fun σ Hv H E A C => by
  refine (hw _).run σ Hv H _ A.at fun J Hv1 H1 gr hgo hy hst => ?_
  have l1 := Lv.ofGr (s := Hv) A.lv.mok gr
  have A1 := A.step l1
  have ln : (xs.map a).length = xs.length := List.length_map _
  refine ⟨fun i m σ H => m = xs.length - i ∧ i ≤ xs.length ∧ ∃ Hv ρ' μ', AtM K ⟨b.v, b.h, b.m, Hv1⟩ σ Hv H ρ' μ' ∧ I i ρ' μ', ⟨xs.length, by simp, Nat.zero_le _, Hv1, ρ, μ, ⟨⟨A1.lv.big, A1.lv.vis, A1.lv.sub, A1.lv.old, A1.lv.fr, A1.lv.dom, A1.lv.mok⟩, Le.refl _, A1.len, A1.dat, A1.no⟩, h0⟩, ?_⟩
  have back : ∀ {σ : L2.St} {Hv H : Hp} {ρ' : Rho} {μ' : Mu}, AtM K ⟨b.v, b.h, b.m, Hv1⟩ σ Hv H ρ' μ' → AtM K b σ Hv H ρ' μ' := fun A' => ⟨⟨A'.lv.big, A'.lv.vis, A'.lv.sub, A'.lv.old, A'.lv.fr, A'.lv.dom, A'.lv.mok⟩, Le.trans A1.sc A'.sc, A'.len, A'.dat, A'.no⟩
  rintro i m σ2 H2 ⟨rfl, hi, Hv2, ρ2, μ2, A2, i2⟩
  by_cases hlt : i < xs.length
  · refine .inr ⟨hgo i Hv2 H2 A2.sc A2.lv.sub (by omega), fun σ' H' => ∃ Hv ρ' μ', AtM K ⟨b.v, b.h, b.m, Hv1⟩ σ' Hv H' ρ' μ' ∧ I (i + 1) ρ' μ', fun σ' H' ⟨Hv', ρ', μ', A', i'⟩ => ⟨xs.length - (i + 1), by omega, rfl, hlt, Hv', ρ', μ', A', i'⟩, fun x H' y => ?_⟩
    have hx : xs[i]? = some xs[i] := List.getElem?_eq_getElem hlt
    obtain ⟨Hv3, g3, r3⟩ := hy i Hv2 H2 x H' (a xs[i]) A2.sc A2.lv.sub (by rw [List.getElem?_map, hx] <;> rfl) y
    have A3 := A2.step (Lv.ofGr (s := Hv2) A2.lv.mok g3)
    refine hg xs[i] (List.getElem_mem hlt) _ x σ2 Hv3 H' ρ2 _ A3.at r3 fun σ4 _ B4 => ?_
    exact hs Hv1 i xs[i] ρ2 μ2 hx i2 σ4 Hv3 H' _ (A3.of_at B4 (hn i _ ρ2 μ2 hx i2 A2.no)) ⟨fun σ' Hv' H' ρ' μ' A' q => ⟨Hv', ρ', μ', A', q⟩, fun v Hv' H' d μ' l r q => C.rt v Hv' H' d μ' ⟨l.big, l.vis, l.sub, l.old, l.fr, l.dom, l.mok⟩ r q⟩
  · have e : i = xs.length := by omega
    subst e
    exact .inl ⟨by rw [← ln]; exact hst Hv2 H2 A2.sc A2.lv.sub, C.nx σ2 Hv2 H2 ρ2 μ2 (back A2) (hd ρ2 μ2 i2)⟩
theorem stM_while (I : Nat → Rho → Mu → Prop) (m0 : Nat) (h0 : I m0 ρ μ)
    (hs : ∀ m ρ' μ', I m ρ' μ' → ∃ c, EvPB K b ρ' μ' tt c ∧ (c = true → StM K b t { N with nx := fun ρ2 μ2 => ∃ m', m' < m ∧ I m' ρ2 μ2 } ρ' μ') ∧ (c = false → N.nx ρ' μ')) : StM K b (tWhile tt t) N ρ μ := fun σ Hv H E A C => by
  refine ⟨fun m σ H => ∃ Hv ρ' μ', AtM K b σ Hv H ρ' μ' ∧ I m ρ' μ', ⟨m0, Hv, ρ, μ, A, h0⟩, ?_⟩
  rintro m σ1 H1 ⟨Hv1, ρ1, μ1, A1, i1⟩
  obtain ⟨c, hc, h1, h2⟩ := hs m ρ1 μ1 i1
  refine hc σ1 Hv1 H1 _ A1 fun Hv2 H2 l => ?_
  cases c with
  | true =>
    show ∃ Nn, _
    refine ⟨fun σ' H' => ∃ m', m' < m ∧ ∃ Hv ρ' μ', AtM K b σ' Hv H' ρ' μ' ∧ I m' ρ' μ', fun σ' H' q => q, ?_⟩
    exact h1 rfl σ1 Hv2 H2 _ (A1.step l) ⟨fun σ' Hv' H' ρ' μ' A' ⟨m', hm, i'⟩ => ⟨m', hm, Hv', ρ', μ', A', i'⟩, C.rt⟩
  | false =>
    show E.nx σ1 H2
    exact C.nx σ1 Hv2 H2 ρ1 μ1 (A1.step l) (h2 rfl)
/-! a list changes no more -/
def FzD (p : Addr) (ds : List D) (d d' : D) : Prop := ∀ (K : PySem.W.Frag) (Hv : Hp) (v : V), Rep K Hv (.ref p) (.lst ds) → Rep K Hv v d → Rep K Hv v d'
inductive FzR (p : Addr) (ds : List D) : Rho → Rho → Prop
  | nil : FzR p ds [] []
  | drop {s : Option SD} {r r' : Rho} (h : FzR p ds r r') : FzR p ds (s :: r) (none :: r')
  | keep {d : D} {r r' : Rho} (h : FzR p ds r r') : FzR p ds (some (.dat d) :: r) (some (.dat d) :: r')
  | fz {d d' : D} {r r' : Rho} (e : FzD p ds d d') (h : FzR p ds r r') : FzR p ds (some (.dat d) :: r) (some (.dat d') :: r')
theorem FzR.len {p : Addr} {ds : List D} {r r' : Rho} (h : FzR p ds r r') : r'.length = r.length := by
  induction h with
  | nil => rfl
  | drop _ ih => rw [List.length_cons, List.length_cons, ih]
  | keep _ ih => rw [List.length_cons, List.length_cons, ih]
  | fz _ _ ih => rw [List.length_cons, List.length_cons, ih]
theorem FzR.get {p : Addr} {ds : List D} {r r' : Rho} (h : FzR p ds r r') : ∀ (i : Nat) (s : SD), r'[i]? = some (some s) → ∃ d d', s = .dat d' ∧ r[i]? = some (some (.dat d)) ∧ FzD p ds d d' := by
  induction h with
  | nil => exact fun i s h => by simp at h
  | drop _ ih =>
    intro i s h
    cases i with
    | zero => cases h
    | succ i => exact ih i s h
  | keep _ ih =>
    intro i s h
    cases i with
    | zero => cases h; exact ⟨_, _, rfl, rfl, fun _ _ _ _ r => r⟩
    | succ i => exact ih i s h
  | fz e _ ih =>
    intro i s h
    cases i with
    | zero => cases h; exact ⟨_, _, rfl, rfl, e⟩
    | succ i => exact ih i s h
theorem fz_ref {p : Addr} {ds : List D} : FzD p ds (.obj (.ref p)) (.lst ds) := fun K Hv v h r => by
  have e := r.obj_inv
  subst e
  exact h
theorem fz_tup2 {p : Addr} {ds : List D} {d1 d1' d2 d2' : D} (h1 : FzD p ds d1 d1') (h2 : FzD p ds d2 d2') : FzD p ds (.tup [d1, d2]) (.tup [d1', d2']) := fun K Hv v h r => by
  obtain ⟨a, xs, rfl, e, rr⟩ := r.tup_inv
  obtain ⟨v1, v2, rfl, r1, r2⟩ := rr.two
  exact .tup e (.cons (h1 K Hv v1 h r1) (.cons (h2 K Hv v2 h r2) .nil))
theorem fz_same {p : Addr} {ds : List D} {d : D} : FzD p ds d d := fun _ _ _ _ r => r
def offM (μ : Mu) (p : Addr) : Mu := fun a => if a = p then none else μ a
theorem stM_freeze {p : Addr} (hp : μ p = some (.lst ds)) (hb : b.m p = none) (hr : FzR p ds ρ ρ1) (k : StM K b t N ρ1 (offM μ p)) : StM K b t N ρ μ := fun σ Hv H E A C => by
  obtain ⟨xs, h3, rx⟩ := A.lv.mok.ok p _ hp
  have hv := A.lv.mok.hid p _ hp
  have up : Le Hv (upd Hv p (.lst xs)) := Le.new hv
  have lst : Rep K (upd Hv p (.lst xs)) (.ref p) (.lst ds) := .lst upd_same (rx.mono up)
  refine k σ (upd Hv p (.lst xs)) H E ⟨⟨A.lv.big, Le.trans A.lv.vis up, fun a o e => ?_, fun a h => ?_, fun a h1 h2 => ?_, fun a h => ?_, ⟨fun a c e => ?_, fun a c e => ?_⟩⟩, Le.trans A.sc up, by rw [hr.len, A.len], fun i d' h => ?_, noOwn_of_dat fun i s h => ?_⟩ C
  · by_cases z : a = p
    · subst z
      rw [upd_same] at e
      rw [h3, e]
    · rw [upd_ne z] at e
      exact A.lv.sub a o e
  · have z : a ≠ p := fun z => by
      subst z
      exact h (A.lv.fr a hb (by rw [hp]; exact fun z => nomatch z))
    rw [upd_ne z]
    exact A.lv.old a h
  · refine A.lv.fr a h1 fun z => h2 ?_
    unfold offM
    rw [z]
    split <;> rfl
  · unfold offM
    rw [if_neg]
    · exact A.lv.dom a h
    · rintro rfl
      exact h hb
  · unfold offM at e
    split at e
    · cases e
    · rename_i z
      rw [upd_ne z]
      exact A.lv.mok.hid a c e
  · unfold offM at e
    split at e
    · cases e
    · exact (A.lv.mok.ok a c e).mono up rfl
  · obtain ⟨d, d2, e, h2, fz⟩ := hr.get i _ h
    cases e
    obtain ⟨v, ev, r⟩ := A.dat i d h2
    exact ⟨v, ev, fz K _ v lst (r.mono up)⟩
  · obtain ⟨d, d2, e, _⟩ := hr.get i s h
    exact ⟨d2, e⟩
end
end Kn
namespace Kn
open PySem PySem.Spec L2 PyProof.Rows

/-! ### methods: what is let out is wished for at the caller's slots; keywords -/
def tMethE (C : Addr) (m : Str) (sp : Sp) (dvs : List V) (E : L2.St → XK) (ta : TE) (t : TA) : TE := fun σ H Q => ta σ H fun x H1 => ∃ a dx fs, x = .ref a ∧ H1 a = some (.ins C dx fs) ∧ fs.lookup m = none ∧ t σ H1 fun vs H2 => sp (x :: (vs ++ dvs)) H2 Q (E σ)
def tMethKE (C : Addr) (m : Str) (n mm : Nat) (sp : Sp) (gV : List V → List V → List V) (E : L2.St → XK) (ta : TE) (t tk : TA) : TE := fun σ H Q => ta σ H fun x H1 => ∃ a dx fs, x = .ref a ∧ H1 a = some (.ins C dx fs) ∧ fs.lookup m = none ∧ t σ H1 fun vs H2 => tk σ H2 fun zs H3 => vs.length = n ∧ zs.length = mm ∧ sp (gV (x :: vs) zs) H3 Q (E σ)
section
variable {X : Cx} {CX : CXT} {k n : Nat} {f C : Addr} {fd : FuncData} {ps ks : List Str} {sp : Sp} {E : L2.St → XK} {m : Str} {p pos apos : Pos} {e o : Expr} {es : List Expr} {kws : List Keyword} {ta : TE} {t tk : TA} {dvs : List V} {ds : List Value} {g : List Value → List Value → List Value} {gV : List V → List V → List V}
theorem run_fnNA {pins : List (Addr × Obj)} {σ : L2.St} {H : Hp} {s : Shared} {Q : VK} {us ws : List Value} {vs zs : List V} (F : FnOk X.prog X.w X.K X.mg X.base CX k f fd ps sp) (hr : Room k X.A) (hb : KBn X.K fd ps n ks g gV) (hx : PassesAt CX X σ (E σ))
    (I : Inv X pins σ H s) (r : Vals vs us) (rz : Vals zs ws) (l1 : vs.length = n) (l2 : zs.length = ks.length) (h : sp (gV vs zs) H Q (E σ)) : wpAny (model X.prog X.w) X.A (call (.ref f) us (ks.zip ws)) (EP X pins σ Q) X.xe s := by
  have r2 := hb.rel r rz
  refine wpAny_call (codeAny_mono (F.run X.A X.stack s H ⟨us, ks.zip ws⟩ (g us ws) (gV vs zs) Q (E σ) hr I.env0 (hb.to s us ws I.kIn (r.length.symm.trans l1) (rz.length.symm.trans l2)) r2 h) fun r s' hq => ?_)
  match r, hq with
  | .error e, hq => exact hx pins H s e s' I hq
  | .ok (.ret u), hq => exact I.after hq
  | .ok .next, hq => exact False.elim hq
  | .ok .brk, hq => exact False.elim hq
  | .ok .cont, hq => exact False.elim hq
theorem pe_methE {pl : Sem Bool} (he : PE X o ta) (c : Cls X.K C) (hm : Meth X.K C m f) (F : FnOk X.prog X.w X.K X.mg X.base CX k f fd ps sp) (hr : Room k X.A) (hb : Binds X.K fd ps ds) (hd : Vals dvs ds) (hx : ∀ σ, PassesAt CX X σ (E σ)) (ha : PA X (e :: es) t)
    (hst : starEach (e :: es) X.env = (false, eval e X.env) :: starEach es X.env := by rfl) (hpl : (backTo pos (starEach es X.env)).any (·.1) = false := by rfl)
    (ht : eval (.Call (.Attribute o m apos) (e :: es) [] pos) X.env = (do
      let ov ← eval o X.env
      standAt apos.atName
      let (f, first) ← holding [ov] (getMethod ov m pl)
      callWith pos f first (backTo pos (starEach (e :: es) X.env)) (backToKw pos (keywordEach [] X.env))) := by rfl) :
    PE X (.Call (.Attribute o m apos) (e :: es) [] pos) (tMethE C m sp dvs E ta t) := by
  refine ⟨fun pins s σ H Q I h => ?_⟩
  refine PySem.W.methodCall_KW (pl := pl) (thn (he.run pins s σ H _ I h) fun u s1 ⟨x, H1, I1, rx, a, dx, fs, ex, ea, l, q⟩ => ?_) ht
  subst ex
  obtain rfl : u = Value.ref a := rx
  refine getmeth_ok I1 ea c hm l ?_
  refine PySem.W.callWith_K (first := [.ref a]) (h₀ := X.base) I.ok.mod.kin hm.kp (thn (ha.run pos pins s1 σ H1 _ I1 q) fun us s2 ⟨vs, H2, I2, r, q2⟩ => ⟨I2.kIn, ?_⟩) hst hpl
  exact run_fnSD (us := .ref a :: us) (vs := .ref a :: vs) F hr hb hd (hx σ) I2 (.cons rfl r) q2
theorem pe_methE0 {pl : Sem Bool} (he : PE X o ta) (c : Cls X.K C) (hm : Meth X.K C m f) (F : FnOk X.prog X.w X.K X.mg X.base CX k f fd ps sp) (hr : Room k X.A) (hb : Binds X.K fd ps ds) (hd : Vals dvs ds) (hx : ∀ σ, PassesAt CX X σ (E σ))
    (ht : eval (.Call (.Attribute o m apos) [] [] pos) X.env = (do
      let ov ← eval o X.env
      standAt apos.atName
      let (f, first) ← holding [ov] (getMethod ov m pl)
      callWith pos f first (backTo pos (starEach [] X.env)) (backToKw pos (keywordEach [] X.env))) := by rfl) :
    PE X (.Call (.Attribute o m apos) [] [] pos) (tMethE C m sp dvs E ta tNil) := by
  refine ⟨fun pins s σ H Q I h => ?_⟩
  refine PySem.W.methodCall_KW (pl := pl) (thn (he.run pins s σ H _ I h) fun u s1 ⟨x, H1, I1, rx, a, dx, fs, ex, ea, l, q⟩ => ?_) ht
  subst ex
  obtain rfl : u = Value.ref a := rx
  refine getmeth_ok I1 ea c hm l ?_
  exact PySem.W.callWith_K0 (first := [.ref a]) I1.kIn hm.kp (run_fnSD (us := [.ref a]) (vs := [.ref a]) F hr hb hd (hx σ) I1 (.cons rfl .nil) q)
theorem pe_methKE {pl : Sem Bool} (he : PE X o ta) (c : Cls X.K C) (hm : Meth X.K C m f) (F : FnOk X.prog X.w X.K X.mg X.base CX k f fd ps sp) (hr : Room k X.A) (hb : KBn X.K fd ps (n + 1) ks g gV) (hx : ∀ σ, PassesAt CX X σ (E σ)) (ha : PA X (e :: es) t) (hkw : PK X kws tk)
    (hall : (backToKw pos (keywordEach kws X.env)).all (·.1.isSome) = true := by rfl) (hks : (backToKw pos (keywordEach kws X.env)).filterMap (·.1) = ks := by rfl)
    (hst : starEach (e :: es) X.env = (false, eval e X.env) :: starEach es X.env := by rfl) (hpl : ((backTo pos (starEach (e :: es) X.env)).any (·.1) || (backToKw pos (keywordEach kws X.env)).any (·.1.isNone)) = false := by rfl)
    (ht : eval (.Call (.Attribute o m apos) (e :: es) kws pos) X.env = (do
      let ov ← eval o X.env
      standAt apos.atName
      let (f, first) ← holding [ov] (getMethod ov m pl)
      callWith pos f first (backTo pos (starEach (e :: es) X.env)) (backToKw pos (keywordEach kws X.env))) := by rfl) {mm : Nat} (hmm : ks.length = mm := by rfl) :
    PE X (.Call (.Attribute o m apos) (e :: es) kws pos) (tMethKE C m n mm sp gV E ta t tk) := by
  subst hmm
  refine ⟨fun pins s σ H Q I h => ?_⟩
  refine PySem.W.methodCall_KW (pl := pl) (thn (he.run pins s σ H _ I h) fun u s1 ⟨x, H1, I1, rx, a, dx, fs, ex, ea, l, q⟩ => ?_) ht
  subst ex
  obtain rfl : u = Value.ref a := rx
  refine getmeth_ok I1 ea c hm l ?_
  refine PySem.W.callWith_KW (first := [.ref a]) (h₀ := X.base) I.ok.mod.kin hm.kp hall (thn (ha.run pos pins s1 σ H1 _ I1 q) fun us s2 ⟨vs, H2, I2, r, q2⟩ => ?_) hpl hst
  refine thn (hkw.run pos pins s2 σ H2 _ I2 q2) fun ws s3 ⟨zs, H3, I3, rz, l1, l2, q3⟩ => ⟨I3.kIn, ?_⟩
  rw [hks]
  exact run_fnNA (us := .ref a :: us) (vs := .ref a :: vs) F hr hb (hx σ) I3 (.cons rfl r) rz (by rw [List.length_cons, l1]) l2 q3
theorem pe_methKE0 {pl : Sem Bool} (he : PE X o ta) (c : Cls X.K C) (hm : Meth X.K C m f) (F : FnOk X.prog X.w X.K X.mg X.base CX k f fd ps sp) (hr : Room k X.A) (hb : KBn X.K fd ps 1 ks g gV) (hx : ∀ σ, PassesAt CX X σ (E σ)) (hkw : PK X kws tk)
    (hall : (backToKw pos (keywordEach kws X.env)).all (·.1.isSome) = true := by rfl) (hks : (backToKw pos (keywordEach kws X.env)).filterMap (·.1) = ks := by rfl)
    (hpl : ((backTo pos (starEach [] X.env)).any (·.1) || (backToKw pos (keywordEach kws X.env)).any (·.1.isNone)) = false := by rfl)
    (ht : eval (.Call (.Attribute o m apos) [] kws pos) X.env = (do
      let ov ← eval o X.env
      standAt apos.atName
      let (f, first) ← holding [ov] (getMethod ov m pl)
      callWith pos f first (backTo pos (starEach [] X.env)) (backToKw pos (keywordEach kws X.env))) := by rfl) {mm : Nat} (hmm : ks.length = mm := by rfl) :
    PE X (.Call (.Attribute o m apos) [] kws pos) (tMethKE C m 0 mm sp gV E ta tNil tk) := by
  subst hmm
  refine ⟨fun pins s σ H Q I h => ?_⟩
  refine PySem.W.methodCall_KW (pl := pl) (thn (he.run pins s σ H _ I h) fun u s1 ⟨x, H1, I1, rx, a, dx, fs, ex, ea, l, q⟩ => ?_) ht
  subst ex
  obtain rfl : u = Value.ref a := rx
  refine getmeth_ok I1 ea c hm l ?_
  refine PySem.W.callWith_KW0 (first := [.ref a]) (h₀ := X.base) I.ok.mod.kin hm.kp hall (thn (hkw.run pos pins s1 σ H1 _ I1 q) fun ws s3 ⟨zs, H3, I3, rz, l1, l2, q3⟩ => ⟨I3.kIn, ?_⟩) hpl
  rw [hks]
  exact run_fnNA (us := [.ref a]) (vs := [.ref a]) F hr hb (hx σ) I3 (.cons rfl .nil) rz rfl l2 q3
end
end Kn
namespace Kn
open PySem PySem.Spec L2 PyProof.Rows

/-! ### errors with a dict: asked after, read; a new one as a value -/
theorem inst_of {K : PySem.W.Frag} {P : Program} {w : World} {H : Hp} {h : Heap} {a C : Addr} {oe : Obj} {d : Option Addr} (hok : HOk P w H h) (g : h.get? a = some oe) (hz : Zc (.ref C) d oe) (hf : ∃ vs, oe.data = .fields vs) (hd : d = none ∨ ∃ dd fs, d = some dd ∧ H dd = some (.xd fs)) :
    ∃ od, PySem.W.InstAt h a oe C od := by
  obtain ⟨vs, hv⟩ := hf
  have hn : PySem.W.notCls oe = true := by
    unfold PySem.W.notCls
    rw [hv] <;> rfl
  rcases hd with rfl | ⟨dd, fs, rfl, e⟩
  · refine ⟨none, ?_⟩
    obtain ⟨o1, o2, o3, o4⟩ := oe
    obtain ⟨z1, z2⟩ := hz
    dsimp only at z1 z2 hv
    subst z1 z2 hv
    exact ⟨g, rfl, rfl, trivial⟩
  · obtain ⟨mA, hns, hr⟩ : ObjOk P w H h dd (.xd fs) := hok dd _ e
    obtain ⟨od, ho, hl⟩ := lookIn_ns hns
    exact ⟨some od, ⟨g, hz.1, hn, by rw [hz.2]; exact ho⟩⟩
theorem isi_of {K : PySem.W.Frag} {P : Program} {w : World} {A : Around} {E : Value → Shared → Prop} {Q : Value → Shared → Prop} {s : Shared} {a C : Addr} {oe : Obj} {od : Option Obj} {cv : Value} {b : Bool} (T : ExcC K C) (k : K.In s.heap) (J : PySem.W.InstAt s.heap a oe C od) (e : PySem.W.kitOne K (.ref C) cv = some b)
    (h : ∀ tk, Q (.bool b) { s with toks := tk }) : wpAny (model P w) A (call (.builtin "isinstance") [.ref a, cv]) Q E s := by
  have hcl : (PySem.W.clsIn K C).isSome = true := by
    obtain ⟨cd, hc, _⟩ := PySem.W.any_some T.hd
    rw [hc] <;> rfl
  exact PySem.W.kia_one (PySem.W.kitx_exc hcl T.hg T.hk T.hs T.ha T.hn T.ht T.hm) k J e (fun z => nomatch z) h
def rIsY (K : PySem.W.Frag) (a : Addr) (cls : Value) (d : Option Addr) : List V → Hp → VK → Prop := fun xs H Q => ∃ (D : Addr) (c : V) (cv : Value) (b : Bool), cls = .ref D ∧ (d = none ∨ ∃ dd fs, d = some dd ∧ H dd = some (.xd fs)) ∧ ExcC K D ∧ xs = [.ref a, c] ∧ (∀ u, RelV c u → u = cv) ∧ PySem.W.kitOne K (.ref D) cv = some b ∧ Q (.bl b) H
theorem call_isY {X : Cx} {a : Addr} {oe : Obj} {cls : Value} {d : Option Addr} (hm : (a, oe) ∈ X.pn) (hz : Zc cls d oe) (hf : ∃ vs, oe.data = .fields vs) : CallR X (.builtin "isinstance") (rIsY X.K a cls d) := by
  intro pins s σ H xs us Q I r h
  obtain ⟨D, c, cv, b, rfl, hd, C, rfl, e2, e3, q⟩ := h
  cases r with
  | cons r1 rr =>
    cases rr with
    | cons r2 rr =>
      cases rr
      cases r1
      have e := e2 _ r2
      subst e
      obtain ⟨od, J⟩ := inst_of (K := X.K) I.hok (I.pin (a, oe) (List.mem_append_left _ hm)).1 hz hf hd
      exact isi_of C I.kIn J e3 fun tk => ⟨.bl b, H, I.kept (t' := tk) fun _ _ z => z, rfl, q⟩
/-- e.f where e stands among what the context knows -/
theorem pe_xfP {X : Cx} {a C : Addr} {oe : Obj} {cls : Value} {d : Option Addr} {e : Expr} {te : TE} {pos : Pos} {n : Str} (T : XfC X.K C) (hno : PySem.W.findIn X.K (.ref C) n = some none) (hm : (a, oe) ∈ X.pn) (hz : Zc cls d oe) (hf : ∃ vs, oe.data = .fields vs) (he : PE X e te)
    (hb : attributeBase e n X.env (eval e X.env) = eval e X.env := by rfl) : PE X (.Attribute e n pos) (tXf a cls d C n te) := by
  refine ⟨fun pins s σ H Q I h => ?_⟩
  refine attr_of hb (thn (he.run pins s σ H _ I h) fun u s1 hh => ?_)
  obtain ⟨x, H1, I1, rx, rfl, rfl, dd, fs, v, rfl, ea, l, q⟩ := hh
  obtain rfl : u = Value.ref a := rx
  obtain ⟨vs, hd⟩ := hf
  obtain ⟨mA, hns, hr⟩ : ObjOk X.prog X.w H1 s1.heap dd (.xd fs) := I1.hok dd _ ea
  obtain ⟨od, ho, hl⟩ := lookIn_ns hns
  obtain ⟨u, hu, ru⟩ := RelO.some_of (v := v) (o := mA n) (by rw [← l]; exact hr n)
  have J : PySem.W.InstAt s1.heap a oe C (some od) := ⟨(I1.pin (a, oe) (List.mem_append_left _ hm)).1, hz.1, by unfold PySem.W.notCls; rw [hd] <;> rfl, by rw [hz.2]; exact ho⟩
  exact HandSPX.exc_get I1.kIn J T.ga T.gg T.exC (PySem.W.findObj_own T.hdC hno rfl (by rw [hl, hu])) (handed_of ru) ⟨v, H1, I1.tok _, ru, q⟩
/-- an error that is held as a value -/
def exV (a C dd : Addr) : HO := .ext fun h => ∃ oe : Obj, h.get? a = some oe ∧ Zc (.ref C) (some dd) oe ∧ ∃ vs, oe.data = .fields vs
theorem exV_ok {P : Program} {w : World} {H : Hp} {h : Heap} {a C dd : Addr} {oe : Obj} (g : h.get? a = some oe) (hz : Zc (.ref C) (some dd) oe) (hf : ∃ vs, oe.data = .fields vs) : ObjOk P w H h a (exV a C dd) :=
  ⟨⟨oe, g, hz, hf⟩, ⟨oe, g⟩, fun h1 h2 ⟨o, g1, z, f⟩ k => ⟨o, k o g1, z, f⟩⟩
theorem exV_at {P : Program} {w : World} {H : Hp} {h : Heap} {a C dd : Addr} (hok : HOk P w H h) (e : H a = some (exV a C dd)) : ∃ oe : Obj, h.get? a = some oe ∧ Zc (.ref C) (some dd) oe ∧ ∃ vs, oe.data = .fields vs := (show ObjOk P w H h a (exV a C dd) from hok a _ e).1
def tMkV (C : Addr) (t : L2.St → Hp → XK → Prop) : TE := fun σ H Q => t σ H fun cls d H' => ∃ dd, cls = .ref C ∧ d = some dd ∧ ∀ a, H' a = none → Q (.ref a) (upd H' a (exV a C dd))
theorem pe_mkV {X : Cx} {e : Expr} {t : L2.St → Hp → XK → Prop} {C : Addr} (he : PMk X e t) : PE X e (tMkV C t) := by
  refine ⟨fun pins s σ H Q I h => ?_⟩
  refine wpAny_mono (he pins s σ H _ I h) (fun u s1 hu => ?_) fun _ _ z => z
  obtain ⟨a, oe, vs, sI, H', cls, d, rfl, J, k, hne, ha, hz, hd, h1, na, os, ag, r, dd, rfl, rfl, q⟩ := hu
  have I2 := J.laidN (h' := s1.heap) (a := a) (o := exV a C dd) (t' := s1.toks) k hne na (exV_ok ha hz ⟨vs, hd⟩)
  exact ⟨.ref a, _, ⟨I2.ok, os.trans J.os, ag, I2.base, I2.loc, I2.cell, I2.free, I2.freeC, I2.pin, I2.hok, I2.len⟩, rfl, q a na⟩
def rIsT (K : PySem.W.Frag) : List V → Hp → VK → Prop := fun xs H Q => ∃ (a D dd : Addr) (fs : List (Str × V)) (c : V) (cv : Value) (b : Bool), H a = some (exV a D dd) ∧ H dd = some (.xd fs) ∧ ExcC K D ∧ xs = [.ref a, c] ∧ (∀ u, RelV c u → u = cv) ∧ PySem.W.kitOne K (.ref D) cv = some b ∧ Q (.bl b) H
theorem call_isT {X : Cx} : CallR X (.builtin "isinstance") (rIsT X.K) := by
  intro pins s σ H xs us Q I r h
  obtain ⟨a, D, dd, fs, c, cv, b, ea, ed, C, rfl, e2, e3, q⟩ := h
  cases r with
  | cons r1 rr =>
    cases rr with
    | cons r2 rr =>
      cases rr
      cases r1
      have e := e2 _ r2
      subst e
      obtain ⟨oe, g, hz, hf⟩ := exV_at I.hok ea
      obtain ⟨od, J⟩ := inst_of (K := X.K) I.hok g hz hf (.inr ⟨dd, fs, rfl, ed⟩)
      exact isi_of C I.kIn J e3 fun tk => ⟨.bl b, H, I.kept (t' := tk) fun _ _ z => z, rfl, q⟩
def tXfT (K : PySem.W.Frag) (f : Str) (te : TE) : TE := fun σ H Q => te σ H fun x H1 => ∃ (a C dd : Addr) (fs : List (Str × V)) (v : V), x = .ref a ∧ H1 a = some (exV a C dd) ∧ H1 dd = some (.xd fs) ∧ XfC K C ∧ PySem.W.findIn K (.ref C) f = some none ∧ fs.lookup f = some v ∧ Q v H1
theorem pe_xfT {X : Cx} {e : Expr} {te : TE} {pos : Pos} {n : Str} (he : PE X e te) (hb : attributeBase e n X.env (eval e X.env) = eval e X.env := by rfl) : PE X (.Attribute e n pos) (tXfT X.K n te) := by
  refine ⟨fun pins s σ H Q I h => ?_⟩
  refine attr_of hb (thn (he.run pins s σ H _ I h) fun u s1 hh => ?_)
  obtain ⟨x, H1, I1, rx, a, C, dd, fs, v, rfl, ea, ed, T, hno, l, q⟩ := hh
  obtain rfl : u = Value.ref a := rx
  obtain ⟨oe, g, hz, vs, hd⟩ := exV_at I1.hok ea
  obtain ⟨mA, hns, hr⟩ : ObjOk X.prog X.w H1 s1.heap dd (.xd fs) := I1.hok dd _ ed
  obtain ⟨od, ho, hl⟩ := lookIn_ns hns
  obtain ⟨u, hu, ru⟩ := RelO.some_of (v := v) (o := mA n) (by rw [← l]; exact hr n)
  have J : PySem.W.InstAt s1.heap a oe C (some od) := ⟨g, hz.1, by unfold PySem.W.notCls; rw [hd] <;> rfl, by rw [hz.2]; exact ho⟩
  exact HandSPX.exc_get I1.kIn J T.ga T.gg T.exC (PySem.W.findObj_own T.hdC hno rfl (by rw [hl, hu])) (handed_of ru) ⟨v, H1, I1.tok _, ru, q⟩
/-! the class of such an error, by the head -/
def oexB (K : PySem.W.Frag) (C : Addr) : Bool := (match K.lookup C with
  | some ⟨.type "type", _, .cls cd, sl⟩ => (match cd.mro, sl.toList with
    | .ref C' :: bm, [_, _, _, _, some (.builtin n), _] => decide (C' = C) && (decide (n = "ValueError.__new__") && (cd.hasDict && (!cd.hasDel && PySem.HandSPX.refsVE bm)))
    | _, _ => false)
  | _ => false) && (He.eqO (PySem.W.findIn K (.ref C) "__setattr__") (some (some (.builtin "object.__setattr__"))) && (decide (PySem.W.subIn K (.ref C) (.type "BaseException") = some true) && (decide (PySem.W.typeIn K (.ref C) = some (.type "type")) && PySem.W.keepIn K (.ref C))))
theorem oexB_ok {K : PySem.W.Frag} {C : Addr} (h : oexB K C = true) : OexC K C := by
  obtain ⟨h1, h⟩ := He.ba h
  obtain ⟨h2, h⟩ := He.ba h
  obtain ⟨h3, h⟩ := He.ba h
  obtain ⟨h4, h5⟩ := He.ba h
  refine ⟨?_, He.eqO_ok h2, of_decide_eq_true h3, of_decide_eq_true h4, h5⟩
  split at h1
  · rename_i dd cd sl hl
    split at h1
    · rename_i C' bm k0 k1 k2 k3 n k5 hm hs
      obtain ⟨e1, h1⟩ := He.ba h1
      obtain ⟨e2, h1⟩ := He.ba h1
      obtain ⟨e3, h1⟩ := He.ba h1
      obtain ⟨e4, e5⟩ := He.ba h1
      have e1 := of_decide_eq_true e1
      have e2 := of_decide_eq_true e2
      subst e1 e2
      obtain ⟨nm, bs, mro, ns, q, hd, sn, sub, ab, col, del⟩ := cd
      obtain ⟨arr⟩ := sl
      dsimp only at hm hs e3 e4
      have e4' : del = false := by simpa using e4
      subst hm hs e3 e4'
      exact ⟨nm, q, ns, bs, bm, sn, sub, ab, col, dd, k0, k1, k2, k3, k5, hl, e5⟩
    · cases h1
  · cases h1
end Kn
namespace Kn
open PySem PySem.Spec L2 PyProof.Rows

/-! ### methods, classes as callers see them -/
structure CalMt (P : Program) (w : World) (K : PySem.W.Frag) (mg : Str → Option Value) (base : Heap) (k : Nat) (C : Addr) (m : Str) (ps : List Str) (sp : Sp) (B : FuncData → Prop) : Prop where
  ex : ∃ (f : Addr) (fd : FuncData), Cls K C ∧ Meth K C m f ∧ FnOk P w K mg base (L2.CX P w) k f fd ps sp ∧ B fd
structure CalMk (P : Program) (w : World) (K : PySem.W.Frag) (mg : Str → Option Value) (base : Heap) (k : Nat) (C : Addr) (ps : List Str) (sp : Sp) : Prop where
  ex : ∃ (f : Addr) (fd : FuncData), Mk K C f ∧ FnOk P w K mg base (L2.CX P w) k f fd ps sp ∧ Binds K fd ps []
structure CalCl (P : Program) (w : World) (K : PySem.W.Frag) (mg : Str → Option Value) (base : Heap) (k : Nat) (C : Addr) (ps : List Str) (sp : Sp) : Prop where
  ex : ∃ (f : Addr) (fd : FuncData), OexC K C ∧ PySem.W.findIn K (.ref C) "__init__" = some (some (.ref f)) ∧ PySem.W.typeIn K (.ref f) = some (.type "function") ∧ FnOk P w K mg base (L2.CX P w) k f fd ps sp ∧ Binds K fd ps []
structure BDf (K : PySem.W.Frag) (ps : List Str) (dvs : List V) (n : Nat) (ks : List Str) (fd : FuncData) : Prop where
  full : Binds K fd ps []
  dfl : ∃ ds, Vals dvs ds ∧ Binds K fd ps ds
  kw : ∃ g, KBn K fd ps n ks g (fun vs zs => vs ++ zs)
theorem vals_nil {ds : List Value} (h : Vals [] ds) : ds = [] := by cases h; rfl
def tRaiseO (W : WX) (t : L2.St → Hp → XK → Prop) : TS := fun _ σ H => t σ H fun cls d H' => W cls d σ H'
def rLenD : List V → Hp → VK → Prop := fun xs H Q => ∃ a kvs, xs = [V.ref a] ∧ H a = some (.dK kvs) ∧ Q (.int kvs.length) H
theorem passAtL {X : Cx} (σ : L2.St) : PassesAt (L2.CX X.prog X.w) X σ E0 := fun pins H s e s' I c => passL pins σ H s e s' I c
/-- an own class of errors with its __init__, by the head -/
def clB (K : PySem.W.Frag) (x : Str) : Bool := oexB K (He.ga K x) && (He.eqO (PySem.W.findIn K (.ref (He.ga K x)) "__init__") (some (some (.ref (He.fAd K (x, some "__init__"))))) && (decide (PySem.W.typeIn K (.ref (He.fAd K (x, some "__init__"))) = some (.type "function")) && xfB K (He.ga K x)))
structure ClOk (K : PySem.W.Frag) (x : Str) : Prop where
  o : OexC K (He.ga K x)
  i : PySem.W.findIn K (.ref (He.ga K x)) "__init__" = some (some (.ref (He.fAd K (x, some "__init__"))))
  t : PySem.W.typeIn K (.ref (He.fAd K (x, some "__init__"))) = some (.type "function")
  x : XfC K (He.ga K x)
theorem clB_ok {K : PySem.W.Frag} {x : Str} (h : clB K x = true) : ClOk K x := by
  obtain ⟨h1, h⟩ := He.ba h
  obtain ⟨h2, h⟩ := He.ba h
  obtain ⟨h3, h4⟩ := He.ba h
  exact ⟨oexB_ok h1, He.eqO_ok h2, of_decide_eq_true h3, xfB_ok h4⟩
/-- the law's end, its promise one of those that change things -/
theorem law_endM {K : PySem.W.Frag} {qual : Str} {params : Arguments} {body : List Stmt} {scope : Scope} {f : Addr} {fd : FuncData} {kws : List (Str × V)} {x : Str} {R : RM} (F : FunD K "law" qual params body scope [] kws f fd)
    (hb : ∀ (kV doc pm : Value) (an : Option Addr) (cdv ct : Value) (us : List Value), us.length = [x].length → bindArgs (PySem.W.fnOf "law" qual params body scope .none kV doc pm an cdv ct) ⟨us, []⟩ = pure ([x].zip us))
    (hR : ∀ ns : List Int, ns.length ≤ 63 → R [.fro (ns.map D.int)] (fun _ => none) (fun d _ => d = .bl true) (fun _ _ _ => False)) :
    (∀ (s : Shared) (u : Value), BindsTo s fd ⟨[u], []⟩ [(x, u)]) ∧ (∀ (H : Hp) (a : Addr) (ns : List Int), ns.length ≤ 63 → Only H → SqL K H a (ns.map V.int) → spM K R [.ref a] H (fun v _ => v = .bl true) fun _ _ _ => False) := by
  refine ⟨fun s u => FunD.bindsA F hb s [u] rfl, fun H a ns hl _ hS => ⟨[.fro (ns.map D.int)], fun _ => none, H, _, _, Le.refl H, .cons (.fro hS (RepAll.ints ns)) .nil, ⟨fun _ _ e => (nomatch e), fun _ _ e => (nomatch e)⟩, hR ns hl, fun v Hv' H' d μ' _ r e => ?_, fun _ _ _ _ _ _ z => z⟩⟩
  subst e
  exact r.bl_inv
end Kn
namespace Kn
open PySem PySem.Spec L2

/-! ### a dict of beats by names -/
abbrev Kvs := List (Str × (Int × Int))
def valD (kvs : Kvs) (s : Str) : Option (Int × Int) := (kvs.find? fun p => decide (p.1 = s)).map (·.2)
/-- the dict as the heap has it -/
structure DctR (K : PySem.W.Frag) (Hv : Hp) (es : List (L2.Key × V)) (kvs : Kvs) : Prop where
  k : es.map (·.1) = kvs.map (fun p => Sum.inr p.1)
  v : RepAll K Hv (es.map (·.2)) (kvs.map fun p => bD p.2)
section
variable {K : PySem.W.Frag} {Hv : Hp}
theorem DctR.cons_inv {e : L2.Key × V} {es : List (L2.Key × V)} {p : Str × (Int × Int)} {kvs : Kvs} (h : DctR K Hv (e :: es) (p :: kvs)) : e.1 = Sum.inr p.1 ∧ Rep K Hv e.2 (bD p.2) ∧ DctR K Hv es kvs := by
  obtain ⟨h1, h2⟩ := h
  rw [List.map_cons, List.map_cons] at h1 h2
  injection h1 with a b
  cases h2 with
  | cons r rr => exact ⟨a, r, b, rr⟩
theorem DctR.nil_inv {es : List (L2.Key × V)} (h : DctR K Hv es []) : es = [] := by
  cases es with
  | nil => rfl
  | cons e es => have := h.k; cases this
theorem DctR.cons_l {e : L2.Key × V} {es : List (L2.Key × V)} {kvs : Kvs} (h : DctR K Hv (e :: es) kvs) : ∃ p kvs', kvs = p :: kvs' := by
  cases kvs with
  | nil => have := h.k; cases this
  | cons p kvs => exact ⟨p, kvs, rfl⟩
theorem DctR.len {es : List (L2.Key × V)} {kvs : Kvs} (h : DctR K Hv es kvs) : es.length = kvs.length := by
  have := congrArg List.length h.k
  rwa [List.length_map, List.length_map] at this
theorem DctR.val : ∀ {es : List (L2.Key × V)} {kvs : Kvs} (s : Str), DctR K Hv es kvs → (valD kvs s = none ∧ valV es (Sum.inr s) = none) ∨ ∃ b v, valD kvs s = some b ∧ valV es (Sum.inr s) = some v ∧ Rep K Hv v (bD b)
  | [], kvs, s, h => by
    cases kvs with
    | nil => exact .inl ⟨rfl, rfl⟩
    | cons p kvs => have := h.k; cases this
  | e :: es, kvs, s, h => by
    obtain ⟨p, kvs, rfl⟩ := h.cons_l
    obtain ⟨h1, h2, h3⟩ := h.cons_inv
    by_cases z : p.1 = s
    · refine .inr ⟨p.2, e.2, ?_, valV_pos (by rw [h1, z]), h2⟩
      unfold valD
      rw [List.find?_cons, decide_eq_true z] <;> rfl
    · have e1 : valD (p :: kvs) s = valD kvs s := by
        unfold valD
        rw [List.find?_cons, decide_eq_false z]
      have e2 : valV (e :: es) (Sum.inr s) = valV es (Sum.inr s) := valV_neg (by rw [h1]; exact fun y => z (Sum.inr.inj y))
      rw [e1, e2]
      exact DctR.val s h3
theorem DctR.snoc {es : List (L2.Key × V)} {kvs : Kvs} {s : Str} {v : V} {b : Int × Int} (h : DctR K Hv es kvs) (r : Rep K Hv v (bD b)) : DctR K Hv (es ++ [(Sum.inr s, v)]) (kvs ++ [(s, b)]) := by
  refine ⟨?_, ?_⟩
  · rw [List.map_append, List.map_append, h.k] <;> rfl
  · rw [List.map_append, List.map_append]
    exact h.v.append (.cons r .nil)
theorem DctR.drop : ∀ {es : List (L2.Key × V)} {kvs : Kvs} (s : Str), DctR K Hv es kvs → DctR K Hv (dropK es (Sum.inr s)) (kvs.filter fun p => decide (p.1 ≠ s))
  | [], kvs, s, h => by
    cases kvs with
    | nil => exact ⟨rfl, .nil⟩
    | cons p kvs => have := h.k; cases this
  | e :: es, kvs, s, h => by
    obtain ⟨p, kvs, rfl⟩ := h.cons_l
    obtain ⟨h1, h2, h3⟩ := h.cons_inv
    have ih := DctR.drop s h3
    unfold dropK at ih ⊢
    by_cases z : p.1 = s
    · rw [List.filter_cons, List.filter_cons, if_neg (by rw [h1, z]; simp), if_neg (by simp [z])]
      exact ih
    · have z1 : decide (e.1 ≠ Sum.inr s) = true := decide_eq_true (by rw [h1]; exact fun y => z (Sum.inr.inj y))
      have z2 : decide (p.1 ≠ s) = true := decide_eq_true z
      rw [List.filter_cons, List.filter_cons, if_pos z1, if_pos z2]
      refine ⟨?_, ?_⟩
      · rw [List.map_cons, List.map_cons, h1, ih.k]
      · rw [List.map_cons, List.map_cons]
        exact .cons h2 ih.v
end
theorem dct_at {K : PySem.W.Frag} {Hv H : Hp} {μ : Mu} {d : Addr} {kvs : Kvs} (m : MutOk K Hv H μ) (e : μ d = some (.dct kvs)) : ∃ es, H d = some (.dK es) ∧ DctR K Hv es kvs := by
  obtain ⟨es, h1, h2, h3⟩ := m.ok d _ e
  exact ⟨es, h1, h2, h3⟩
section
variable {K : PySem.W.Frag} {b : BM} {ρ : Rho} {μ : Mu} {te ti tv : TE} {tA : TA} {d e : D} {ds : List D} {N : DM} {P : D → Mu → Prop}
/-- o.f, o an instance -/
theorem evp_fld {T C dx : Addr} {fs : List (Str × V)} {f : Str} {v : V} (h : EvP K b te ρ μ (.obj (.ref T))) (hT : μ T = some (.raw (.ins C dx fs))) (c : Cls K C) (n : NoAttr K C f) (l : fs.lookup f = some v) : EvP K b (tFld K te f) ρ μ (.obj v) := fun σ Hv H Q A q =>
  h σ Hv H _ A fun x Hv1 H1 d' μ' l1 r ⟨e1, e2⟩ => by
    subst e1 e2
    have ev := r.obj_inv
    subst ev
    exact ⟨T, C, dx, fs, v, rfl, l1.mok.ok T _ hT, c, n, l, q v Hv1 H1 _ _ l1 (.obj v) ⟨rfl, rfl⟩⟩
theorem evpb_din {x : Addr} {kvs : Kvs} {s : Str} (h1 : EvP K b ti ρ μ (.str s)) (h2 : EvP K b te ρ μ (.obj (.ref x))) (hx : μ x = some (.dct kvs)) : EvPB K b ρ μ (tB (tDIn ti te)) (valD kvs s).isSome := fun σ Hv H Q A q =>
  h1 σ Hv H _ A fun y Hv1 H1 d1 μ1 l1 r1 ⟨e1, e2⟩ => by
    subst e1 e2
    have ey := r1.str_inv
    subst ey
    refine h2 σ Hv1 H1 _ (A.step l1) fun z Hv2 H2 d2 μ2 l2 r2 ⟨e3, e4⟩ => ?_
    subst e3 e4
    have ez := r2.obj_inv
    subst ez
    obtain ⟨es, hH, R⟩ := dct_at l2.mok hx
    refine ⟨x, valV es (Sum.inr s), rfl, DGet.k (k := Sum.inr s) hH, ?_⟩
    rcases R.val s with ⟨a, c⟩ | ⟨bb, v, a, c, _⟩
    · rw [c]
      rw [a] at q
      exact ⟨_, rfl, q Hv2 H2 (l1.trans l2)⟩
    · rw [c]
      rw [a] at q
      exact ⟨_, rfl, q Hv2 H2 (l1.trans l2)⟩
theorem evpb_dnotin {x : Addr} {kvs : Kvs} {s : Str} (h1 : EvP K b ti ρ μ (.str s)) (h2 : EvP K b te ρ μ (.obj (.ref x))) (hx : μ x = some (.dct kvs)) : EvPB K b ρ μ (tB (tDNotIn ti te)) (!(valD kvs s).isSome) := fun σ Hv H Q A q =>
  h1 σ Hv H _ A fun y Hv1 H1 d1 μ1 l1 r1 ⟨e1, e2⟩ => by
    subst e1 e2
    have ey := r1.str_inv
    subst ey
    refine h2 σ Hv1 H1 _ (A.step l1) fun z Hv2 H2 d2 μ2 l2 r2 ⟨e3, e4⟩ => ?_
    subst e3 e4
    have ez := r2.obj_inv
    subst ez
    obtain ⟨es, hH, R⟩ := dct_at l2.mok hx
    refine ⟨x, valV es (Sum.inr s), rfl, DGet.k (k := Sum.inr s) hH, ?_⟩
    rcases R.val s with ⟨a, c⟩ | ⟨bb, v, a, c, _⟩
    · rw [c]
      rw [a] at q
      exact ⟨_, rfl, q Hv2 H2 (l1.trans l2)⟩
    · rw [c]
      rw [a] at q
      exact ⟨_, rfl, q Hv2 H2 (l1.trans l2)⟩
/-- o[i] = v, a new key -/
theorem stM_dput {x : Addr} {kvs : Kvs} {s : Str} {bb : Int × Int} (h0 : EvP K b tv ρ μ (bD bb)) (h2 : EvP K b te ρ μ (.obj (.ref x))) (h1 : EvP K b ti ρ μ (.str s)) (hx : μ x = some (.dct kvs)) (hn : valD kvs s = none) (hz : kvs.length < 100000) (k : N.nx ρ (updM μ x (.dct (kvs ++ [(s, bb)])))) : StM K b (sDPut te ti tv) N ρ μ := fun σ Hv H E A C =>
  h0 σ Hv H _ A fun v Hv0 H0 d0 μ0 l0 r0 ⟨e1, e2⟩ => by
    subst e1 e2
    refine h2 σ Hv0 H0 _ (A.step l0) fun z Hv1 H1 d2 μ2 l1 r1 ⟨e3, e4⟩ => ?_
    subst e3 e4
    have ez := r1.obj_inv
    subst ez
    refine h1 σ Hv1 H1 _ (A.step (l0.trans l1)) fun y Hv2 H2 d3 μ3 l2 r2 ⟨e5, e6⟩ => ?_
    subst e5 e6
    have ey := r2.str_inv
    subst ey
    have A2 := A.step ((l0.trans l1).trans l2)
    obtain ⟨es, hH, R⟩ := dct_at A2.lv.mok hx
    have hv : valV es (Sum.inr s) = none := by
      rcases R.val s with ⟨a, c⟩ | ⟨b2, v2, a, c, _⟩
      · exact c
      · rw [hn] at a
        cases a
    refine ⟨x, _, rfl, DPut.k (k := Sum.inr s) hH (by rw [R.len]; exact Nat.lt_of_lt_of_le hz (by decide)), ?_⟩
    rw [putK_new v hv]
    have R2 := R.snoc (s := s) (r0.mono (Le.trans l1.vis l2.vis))
    exact C.nx σ Hv2 _ ρ _ (A2.step (Lv.put (s := Hv2) (c := .dct _) A2.lv.sub A2.lv.mok hx ⟨_, upd_same, R2.k, R2.v⟩)) k
/-- the value told lets out an error -/
theorem stM_dputX (h0 : EvM K b tv ρ μ (fun _ _ => False)) : StM K b (sDPut te ti tv) N ρ μ := fun σ Hv H E A C => h0 σ Hv H _ A fun _ _ _ _ _ _ _ z => z.elim
/-- o.pop(i), a key that is there -/
theorem evm_dpop {x : Addr} {kvs : Kvs} {s : Str} {bb : Int × Int} (h2 : EvP K b te ρ μ (.obj (.ref x))) (h1 : EvP K b ti ρ μ (.str s)) (hx : μ x = some (.dct kvs)) (hn : valD kvs s = some bb) : EvM K b (tDPop1 te ti) ρ μ (fun d' μ' => d' = bD bb ∧ μ' = updM μ x (.dct (kvs.filter fun p => decide (p.1 ≠ s)))) := fun σ Hv H Q A q =>
  h2 σ Hv H _ A fun z Hv1 H1 d2 μ2 l1 r1 ⟨e3, e4⟩ => by
    subst e3 e4
    have ez := r1.obj_inv
    subst ez
    obtain ⟨es0, hH0, R0⟩ := dct_at l1.mok hx
    refine ⟨x, rfl, .inl ⟨es0, .inl hH0⟩, ?_⟩
    refine h1 σ Hv1 H1 _ (A.step l1) fun y Hv2 H2 d3 μ3 l2 r2 ⟨e5, e6⟩ => ?_
    subst e5 e6
    have ey := r2.str_inv
    subst ey
    have A2 := A.step (l1.trans l2)
    obtain ⟨es, hH, R⟩ := dct_at A2.lv.mok hx
    rcases R.val s with ⟨a, c⟩ | ⟨b2, v, a, c, rv⟩
    · rw [hn] at a
      cases a
    · rw [hn] at a
      cases a
      have R2 := R.drop s
      exact ⟨es, Sum.inr s, v, hH, rfl, c, q v Hv2 _ _ _ ((l1.trans l2).trans (Lv.put (s := Hv2) (c := .dct _) A2.lv.sub A2.lv.mok hx ⟨_, upd_same, R2.k, R2.v⟩)) rv ⟨rfl, rfl⟩⟩
theorem evp_lenD {x : Addr} {kvs : Kvs} (h2 : EvP K b te ρ μ (.obj (.ref x))) (hx : μ x = some (.dct kvs)) : EvP K b (tCB rLenD (tCons te tNil)) ρ μ (.int kvs.length) := fun σ Hv H Q A q =>
  h2 σ Hv H _ A fun z Hv1 H1 d2 μ2 l1 r1 ⟨e3, e4⟩ => by
    subst e3 e4
    have ez := r1.obj_inv
    subst ez
    obtain ⟨es, hH, R⟩ := dct_at l1.mok hx
    refine ⟨x, es, rfl, hH, ?_⟩
    rw [R.len]
    exact q _ Hv1 H1 _ _ l1 (.int _) ⟨rfl, rfl⟩
/-- a call that lets out an error -/
theorem evm_callX {Rd : List D → Out → Prop} {E : XK} {c : Value} (ha : EvPA K b ρ μ tA ds) (hr : Rd ds (.exc c)) (hx : ∀ Hv' H', Lv K b Hv' H' μ → E c none H') : EvM K b (tCall (spD K Rd) [] E tA) ρ μ (fun _ _ => False) := fun σ Hv H Q A q =>
  ha σ Hv H _ A fun vs Hv1 H1 l r => ⟨ds, .exc c, Hv1, l.sub, by rw [List.append_nil]; exact r, hr, fun Hv2 H2 g => hx Hv2 H2 (A.lv.trans (l.trans (Lv.ofGr (s := Hv) l.mok g)))⟩
/-! methods, what is let out wished for at the caller's slots -/
theorem evm_methE {R : RM} {X : Value → Option Addr → Mu → Prop} {E : L2.St → XK} {C T dx : Addr} {m : Str} {fs : List (Str × V)} {ta : TE} (h0 : EvP K b ta ρ μ (.obj (.ref T))) (hT : μ T = some (.raw (.ins C dx fs))) (hm : fs.lookup m = none) (ha : EvPA K b ρ μ tA ds) {dvs : List V} {es : List D} (hd : ∀ H, RepAll K H dvs es) (hr : R (.obj (.ref T) :: (ds ++ es)) μ P X)
    (hx : ∀ c dd μ' σ Hv' H', X c dd μ' → AtM K b σ Hv' H' ρ μ' → E σ c dd H') : EvM K b (tMethE C m (spM K R) dvs E ta tA) ρ μ P := fun σ Hv H Q A q =>
  h0 σ Hv H _ A fun v Hv0 H0 d' μ' l0 r0 ⟨e1, e2⟩ => by
    subst e1 e2
    have ev := r0.obj_inv
    subst ev
    refine ⟨T, dx, fs, rfl, l0.mok.ok T _ hT, hm, ?_⟩
    refine ha σ Hv0 H0 _ (A.step l0) fun vs Hv1 H1 l r => ?_
    exact ⟨_, μ', Hv1, P, X, l.sub, .cons (.obj _) (r.append (hd Hv1)), l.mok, hr, fun v Hv' H' d μ2 l' rv p => q v Hv' H' d μ2 ((l0.trans l).trans l') rv p, fun c dd Hv' H' μ2 l' x => hx c dd μ2 σ Hv' H' x (A.step ((l0.trans l).trans l'))⟩
theorem evm_methKE {R : RM} {X : Value → Option Addr → Mu → Prop} {E : L2.St → XK} {C T dx : Addr} {m : Str} {fs : List (Str × V)} {ta : TE} {tK : TA} {n mm : Nat} {es : List D} (h0 : EvP K b ta ρ μ (.obj (.ref T))) (hT : μ T = some (.raw (.ins C dx fs))) (hm : fs.lookup m = none) (ha : EvPA K b ρ μ tA ds) (hk : EvPA K b ρ μ tK es) (hn : ds.length = n) (hmm : es.length = mm) (hr : R (.obj (.ref T) :: (ds ++ es)) μ P X)
    (hx : ∀ c dd μ' σ Hv' H', X c dd μ' → AtM K b σ Hv' H' ρ μ' → E σ c dd H') : EvM K b (tMethKE C m n mm (spM K R) (fun vs zs => vs ++ zs) E ta tA tK) ρ μ P := fun σ Hv H Q A q =>
  h0 σ Hv H _ A fun v Hv0 H0 d' μ' l0 r0 ⟨e1, e2⟩ => by
    subst e1 e2
    have ev := r0.obj_inv
    subst ev
    refine ⟨T, dx, fs, rfl, l0.mok.ok T _ hT, hm, ?_⟩
    refine ha σ Hv0 H0 _ (A.step l0) fun vs Hv1 H1 l r => ?_
    refine hk σ Hv1 H1 _ (A.step (l0.trans l)) fun zs Hv2 H2 l2 r2 => ?_
    exact ⟨r.length.trans hn, r2.length.trans hmm, _, μ', Hv2, P, X, l2.sub, .cons (.obj _) ((r.mono l2.vis).append r2), l2.mok, hr, fun v Hv' H' d μ2 l' rv p => q v Hv' H' d μ2 (((l0.trans l).trans l2).trans l') rv p, fun c dd Hv' H' μ2 l' x => hx c dd μ2 σ Hv' H' x (A.step (((l0.trans l).trans l2).trans l'))⟩
/-! errors asked after -/
theorem evp_isY {a D : Addr} {dd : Option Addr} {tc : TE} {c : V} {cv : Value} {k : Bool} (h0 : EvP K b te ρ μ (.obj (.ref a))) (h1 : EvP K b tc ρ μ (.obj c)) (T : ExcC K D) (hc : ∀ u, RelV c u → u = cv) (e : PySem.W.kitOne K (.ref D) cv = some k) (hd : dd = none ∨ ∃ x fs, dd = some x ∧ μ x = some (.raw (.xd fs))) :
    EvP K b (tCB (rIsY K a (.ref D) dd) (tCons te (tCons tc tNil))) ρ μ (.bl k) := fun σ Hv H Q A q =>
  h0 σ Hv H _ A fun v Hv0 H0 d' μ' l0 r0 ⟨e1, e2⟩ => by
    subst e1 e2
    have ev := r0.obj_inv
    subst ev
    refine h1 σ Hv0 H0 _ (A.step l0) fun w Hv1 H1 d2 μ2 l1 r1 ⟨e3, e4⟩ => ?_
    subst e3 e4
    have ew := r1.obj_inv
    subst ew
    refine ⟨D, w, cv, k, rfl, ?_, T, rfl, hc, e, q _ Hv1 H1 _ _ (l0.trans l1) (.bl k) ⟨rfl, rfl⟩⟩
    rcases hd with h | ⟨x, fs, h, hx⟩
    · exact .inl h
    · exact .inr ⟨x, fs, h, l1.mok.ok x _ hx⟩
theorem evp_isT {a D x : Addr} {fs : List (Str × V)} {tc : TE} {c : V} {cv : Value} {k : Bool} (h0 : EvP K b te ρ μ (.obj (.ref a))) (h1 : EvP K b tc ρ μ (.obj c)) (T : ExcC K D) (hc : ∀ u, RelV c u → u = cv) (e : PySem.W.kitOne K (.ref D) cv = some k) (ha : μ a = some (.raw (exV a D x))) (hx : μ x = some (.raw (.xd fs))) :
    EvP K b (tCB (rIsT K) (tCons te (tCons tc tNil))) ρ μ (.bl k) := fun σ Hv H Q A q =>
  h0 σ Hv H _ A fun v Hv0 H0 d' μ' l0 r0 ⟨e1, e2⟩ => by
    subst e1 e2
    have ev := r0.obj_inv
    subst ev
    refine h1 σ Hv0 H0 _ (A.step l0) fun w Hv1 H1 d2 μ2 l1 r1 ⟨e3, e4⟩ => ?_
    subst e3 e4
    have ew := r1.obj_inv
    subst ew
    exact ⟨a, D, x, fs, w, cv, k, l1.mok.ok a _ ha, l1.mok.ok x _ hx, T, rfl, hc, e, q _ Hv1 H1 _ _ (l0.trans l1) (.bl k) ⟨rfl, rfl⟩⟩
end
end Kn
namespace Kn
open PySem PySem.Spec L2

/-! ### min, strings -/
section
variable {K : PySem.W.Frag} {b : Bs} {ρ : Rho} {te tl th : TE} {d : D}
theorem cd_min {ns : List Int} {m : Int} (h : lstOf d = some (ns.map D.int)) (hm : m ∈ ns) (hl : ∀ y ∈ ns, m ≤ y) : CD K (rMin K) [d] (.int m) := fun xs Hv H Q l r0 q => by
  obtain ⟨x, rfl, r1⟩ := r0.one
  obtain ⟨a, ys, rfl, hs, r⟩ := r1.list h
  have e := r.ints_inv
  subst e
  refine ⟨a, ns, rfl, Le.l l hs, List.length_pos_of_mem hm, fun m' h1 h2 => ?_⟩
  have : m' = m := Int.le_antisymm (h2 m hm) (hl m' h1)
  subst this
  exact q _ Hv H (Gr.refl l) (.int _)
/-- a text's signs -/
def sgn (c : Nat) : D := .str ⟨#[c]⟩
theorem src_str {x : Str} (h : EvD K b te ρ (.str x)) : SrcD K b (iStr te) ρ (x.cps.toList.map sgn) := ⟨fun σ Hv H R A q => h σ Hv H _ A fun v Hv1 H1 g r => by
  have e := r.str_inv
  subst e
  refine ⟨x, rfl, q _ Hv1 H1 g (fun i Hv2 H2 l1 l2 hi => ?_) (fun i Hv2 H2 y H' e l1 l2 he hy => ?_) fun Hv2 H2 l1 l2 => ?_⟩
  · rw [List.length_map, Array.length_toList] at hi
    exact hi
  · obtain ⟨rfl, c, hc, rfl⟩ := hy
    refine ⟨Hv2, Gr.refl l2, ?_⟩
    rw [List.getElem?_map, Array.getElem?_toList, hc] at he
    cases he
    exact .str _
  · show x.cps.size ≤ (x.cps.toList.map sgn).length
    rw [List.length_map, Array.length_toList]
    exact Nat.le_refl _⟩
theorem evd_slS {z : Str} {lo hi : Option Int} {tl th : TO} (h : EvD K b te ρ (.str z)) (hz : z.length ≤ 100000) (h1 : EvO K b tl ρ lo) (h2 : EvO K b th ρ hi) : EvD K b (tSl rSlS te tl th) ρ (.str (cutS z lo hi)) := fun σ Hv H Q A q =>
  h σ Hv H _ A fun v Hv1 H1 g1 r1 => h1 σ Hv1 H1 _ (A.grow g1) fun Hv2 H2 g2 => h2 σ Hv2 H2 _ (A.grow (g1.trans g2)) fun Hv3 H3 g3 => by
    have e := r1.str_inv
    subst e
    exact ⟨z, rfl, Nat.le_trans hz (by decide), q _ Hv3 H3 ((g1.trans g2).trans g3) (.str _)⟩
theorem strs_inv {H : Hp} : ∀ {ss : List Str} {xs : List V}, RepAll K H xs (ss.map D.str) → xs = ss.map V.str
  | [], _, r => by cases r; rfl
  | s :: ss, _, r => by
    cases r with
    | cons r1 rr =>
      rw [r1.str_inv, strs_inv rr] <;> rfl
theorem inV_str (x : Str) (ss : List Str) : inV (.str x) (ss.map V.str) = decide (x ∈ ss) := by
  unfold inV
  rw [Bool.eq_iff_iff, List.any_map, List.any_eq_true, decide_eq_true_iff]
  constructor
  · rintro ⟨s, hs, h⟩
    have : s = x := beq_iff_eq.mp h
    exact this ▸ hs
  · intro h
    exact ⟨x, h, beq_self_eq_true x⟩
theorem strs_flat (ss : List Str) : (ss.map V.str).all flatV = true := by
  rw [List.all_map, List.all_eq_true]
  intro _ _
  rfl
theorem rd_inStr {x : Str} {ss : List Str} (h : lstOf d = some (ss.map D.str)) : RD K (rIn K false) (.str x) d (.bl (decide (x ∈ ss))) := fun v w Hv H Q l r1 r2 q => by
  have e := r1.str_inv
  subst e
  obtain ⟨a, xs, rfl, hs, r⟩ := r2.list h
  have e := strs_inv r
  subst e
  refine ⟨a, ss.map V.str, rfl, .inl (Le.l l hs), rfl, strs_flat ss, ?_⟩
  rw [if_neg Bool.false_ne_true, inV_str]
  exact q _ Hv H (Gr.refl l) (.bl _)
theorem rd_notInStr {x : Str} {ss : List Str} (h : lstOf d = some (ss.map D.str)) : RD K (rIn K true) (.str x) d (.bl (!decide (x ∈ ss))) := fun v w Hv H Q l r1 r2 q => by
  have e := r1.str_inv
  subst e
  obtain ⟨a, xs, rfl, hs, r⟩ := r2.list h
  have e := strs_inv r
  subst e
  refine ⟨a, ss.map V.str, rfl, .inl (Le.l l hs), rfl, strs_flat ss, ?_⟩
  rw [if_pos rfl, inV_str]
  exact q _ Hv H (Gr.refl l) (.bl _)
end
end Kn
namespace Kn
open PySem PySem.Spec L2

/-! ### a dict's items, walked -/
def rowD (p : Str × (Int × Int)) : D := .tup [.str p.1, bD p.2]
theorem inj_rowD : ∀ x y, rowD x = rowD y → x = y := fun ⟨a, c⟩ ⟨d, e⟩ h => by
  have h' : D.tup [.str a, bD c] = D.tup [.str d, bD e] := h
  injection h' with h1
  injection h1 with h2 h3
  injection h2 with h4
  injection h3 with h5
  rw [h4, inj_bD _ _ h5]
theorem lf_rows : ∀ kvs : Kvs, lfAll (kvs.map rowD) = true
  | [] => rfl
  | p :: kvs => by
    show ((rowD p).lf && lfAll (kvs.map rowD)) = true
    rw [lf_rows kvs] <;> rfl
theorem DctR.get {K : PySem.W.Frag} {Hv : Hp} : ∀ {es : List (L2.Key × V)} {kvs : Kvs} {i : Nat} {k : L2.Key} {v : V}, DctR K Hv es kvs → es[i]? = some (k, v) → ∃ p, kvs[i]? = some p ∧ k = Sum.inr p.1 ∧ Rep K Hv v (bD p.2)
  | [], _, _, _, _, _, e => by simp at e
  | e :: es, kvs, i, k, v, h, he => by
    obtain ⟨p, kvs, rfl⟩ := h.cons_l
    obtain ⟨h1, h2, h3⟩ := h.cons_inv
    cases i with
    | zero =>
      cases he
      exact ⟨p, rfl, h1, h2⟩
    | succ i =>
      obtain ⟨p', q1, q2, q3⟩ := DctR.get (es := es) (kvs := kvs) (i := i) h3 (by simpa using he)
      exact ⟨p', by simpa using q1, q2, q3⟩
section
variable {K : PySem.W.Frag} {b : BM} {ρ : Rho} {μ : Mu}
theorem evm_items {T x C dx : Addr} {i0 i j : Nat} {fs : List (Str × V)} {f : Str} {kvs : Kvs} (h0 : ρ[i0]? = some (some (.dat (.obj (.ref T))))) (hT : μ T = some (.raw (.ins C dx fs))) (c : Cls K C) (n : NoAttr K C f) (l : fs.lookup f = some (.ref x)) (hx : μ x = some (.dct kvs)) (hij : i ≠ j) (hi : i < ρ.length) (hj : j < ρ.length) (hz : kvs.length ≤ 100000) :
    EvM K b (tLockE (tLc (iItems (tFld K (tVar i0) f)) (gTup K 2 (gCons (gName i) (gCons (gName j) gNil))) tYes (tTup (tCons (tVar i) (tCons (tVar j) tNil))) [i, j])) ρ μ (fun d μ' => ∃ p, μ p = none ∧ d = .obj (.ref p) ∧ μ' = updM μ p (.lst (kvs.map rowD))) := fun σ Hv H Q A q => by
  obtain ⟨es, hH, R⟩ := dct_at A.lv.mok hx
  have hvx := A.lv.mok.hid x _ hx
  have hHT : H T = some (.ins C dx fs) := A.lv.mok.ok T _ hT
  have hTx : T ≠ x := fun z => by
    rw [z, hx] at hT
    cases hT
  refine ⟨x, .dK es, hH, True.intro, fun od => ?_⟩
  have sub0 : Le (upd Hv x (.frz od (.dK es))) (upd H x (.frz od (.dK es))) := fun a o e => by
    by_cases z : a = x
    · subst z
      rw [upd_same] at e ⊢
      exact e
    · rw [upd_ne z] at e ⊢
      exact A.lv.sub a o e
  have up0 : Le Hv (upd Hv x (.frz od (.dK es))) := Le.new hvx
  have A0 : At K ⟨upd Hv x (.frz od (.dK es)), upd H x (.frz od (.dK es)), upd Hv x (.frz od (.dK es))⟩ σ (upd Hv x (.frz od (.dK es))) (upd H x (.frz od (.dK es))) ρ :=
    ⟨Gr.refl sub0, Le.refl _, A.len, fun i d h => by
      obtain ⟨v, e, r⟩ := A.dat i d h
      exact ⟨v, e, r.mono up0⟩, fun i ds h => absurd h (A.no i ds), fun i j p ds es' _ h => absurd h (A.no i ds)⟩
  have src : SrcD K ⟨upd Hv x (.frz od (.dK es)), upd H x (.frz od (.dK es)), upd Hv x (.frz od (.dK es))⟩ (iItems (tFld K (tVar i0) f)) ρ (kvs.map rowD) := ⟨fun σ' Hv' H' R0 A' q' => by
    obtain ⟨v, ev, rv⟩ := A'.dat i0 _ h0
    have e := rv.obj_inv
    subst e
    refine ⟨.ref T, ev, T, C, dx, fs, .ref x, rfl, A'.gr.big T _ (show upd H x (.frz od (.dK es)) T = _ by rw [upd_ne hTx]; exact hHT), c, n, l, x, od, es, rfl, A'.gr.sub x _ (A'.gr.vis x _ upd_same), ?_⟩
    refine q' (Iti x od es) Hv' H' (Gr.refl A'.sub) (fun i Hv2 H2 l1 l2 hi => ⟨l2 x _ (l1 x _ (A'.gr.vis x _ upd_same)), by rw [R.len]; rwa [List.length_map] at hi⟩) (fun i Hv2 H2 y H'' d l1 l2 hd hy => ?_) fun Hv2 H2 l1 l2 => ⟨l2 x _ (l1 x _ (A'.gr.vis x _ upd_same)), by rw [R.len, List.length_map]; exact Nat.le_refl _⟩
    obtain ⟨T', k, v, he, rfl, hT', rfl⟩ := hy
    obtain ⟨p, hp, rfl, rp⟩ := R.get he
    rw [List.getElem?_map, hp] at hd
    cases hd
    have n2 : Hv2 T' = none := Le.none l2 hT'
    refine ⟨_, Gr.new l2 hT', .tup upd_same (.cons (.str _) (.cons (rp.mono (Le.trans up0 (Le.trans A'.gr.vis (Le.trans l1 (Le.new n2))))) .nil))⟩⟩
  have F := evf_lcT0 (K := K) (b := ⟨upd Hv x (.frz od (.dK es)), upd H x (.frz od (.dK es)), upd Hv x (.frz od (.dK es))⟩) (ρ := ρ) (te := tTup (tCons (tVar i) (tCons (tVar j) tNil))) (xs := kvs) (vs := [i, j]) rowD inj_rowD (js := [i, j]) (f := fun d r => match d with | .tup [a, c] => (r.set i (some (.dat a))).set j (some (.dat c)) | _ => r) rowD src (fun _ _ => gt_tup2) (fun _ q => q) hz fun p _ => by
    have hl : (wipeD ρ [i, j]).length = ρ.length := by
      show ((ρ.set j none).set i none).length = ρ.length
      rw [List.length_set, List.length_set]
    refine evd_tup (eva_cons (evd_var ?_) (eva_cons (evd_var ?_) eva_nil)) (by show 2 ≤ 100000; decide)
    · show (((wipeD ρ [i, j]).set i (some (.dat (.str p.1)))).set j (some (.dat (bD p.2))))[i]? = _
      rw [List.getElem?_set_ne (Ne.symm hij), List.getElem?_set_self (by rw [hl]; exact hi)]
    · show (((wipeD ρ [i, j]).set i (some (.dat (.str p.1)))).set j (some (.dat (bD p.2))))[j]? = _
      rw [List.getElem?_set_self (by rw [List.length_set, hl]; exact hj)]
  refine F σ _ _ _ A0 fun p xs Hv1 H1 g hp hv ho r => ?_
  have hpx : p ≠ x := fun z => by
    rw [z, upd_same] at hp
    cases hp
  have hHp : H p = none := by rwa [upd_ne hpx] at hp
  have h1x : H1 x = some (.frz od (.dK es)) := g.big x _ upd_same
  have v1x : Hv1 x = some (.frz od (.dK es)) := g.vis x _ upd_same
  have hpm := mu_none A.lv.mok hHp
  refine ⟨h1x, ?_⟩
  -- the dict is hidden again
  have hne : ∀ a, a ≠ x → unshown (fun a => if a = x then some (MC.lst []) else none) Hv1 a = Hv1 a := fun a ha => unshown_no fun ds => by
    rw [if_neg ha]
    exact fun z => nomatch z
  have hex : unshown (fun a => if a = x then some (MC.lst []) else none) Hv1 x = none := unshown_lst (ds := []) (if_pos rfl)
  have r' : RepAll K (unshown (fun a => if a = x then some (MC.lst []) else none) Hv1) xs (kvs.map rowD) := r.unsh (fun a ys e => by
    by_cases z : a = x
    · subst z
      rw [v1x] at e
      cases e
    · rw [hne a z]
      exact e) (lf_rows kvs)
  generalize unshown (fun a => if a = x then some (MC.lst []) else none) Hv1 = Hv2 at hne hex r'
  have up : Le Hv Hv2 := fun a o e => by
    have z : a ≠ x := fun z => by
      rw [z, hvx] at e
      cases e
    rw [hne a z]
    exact g.vis a o (by rw [upd_ne z]; exact e)
  refine q (.ref p) Hv2 (upd H1 x (.dK es)) _ _ ⟨fun a o hm e => ?_, up, fun a o e => ?_, fun a h => ?_, fun a h1 h2 => ?_, fun a h => ?_, ⟨fun a c e => ?_, fun a c e => ?_⟩⟩ (.obj _) ⟨p, hpm, rfl, rfl⟩
  · have z : a ≠ x := fun z => by
      have hm' : μ a = none := hm
      rw [z, hx] at hm'
      cases hm'
    rw [upd_ne z]
    exact g.big a o (by rw [upd_ne z]; exact e)
  · have z : a ≠ x := fun z => by
      rw [z, hex] at e
      cases e
    rw [upd_ne z]
    rw [hne a z] at e
    exact g.sub a o e
  · by_cases z : a = x
    · subst z
      rw [hex]
      exact hvx.symm
    · rw [hne a z, g.old a (by rw [upd_ne z]; exact h), upd_ne z]
  · by_cases z : a = p
    · subst z
      exact hHp
    · rw [updM_ne z] at h2
      exact absurd h1 h2
  · by_cases z : a = p
    · subst z
      exact absurd hpm h
    · rw [updM_ne z]
      exact h
  · by_cases z : a = p
    · subst z
      rw [hne a hpx]
      exact hv
    · rw [updM_ne z] at e
      by_cases y : a = x
      · subst y
        exact hex
      · rw [hne a y, g.old a (by rw [upd_ne y]; exact (A.lv.mok.ok a c e).there), upd_ne y]
        exact A.lv.mok.hid a c e
  · by_cases z : a = p
    · subst z
      rw [updM_same] at e
      cases e
      exact ⟨xs, by rw [upd_ne hpx]; exact ho, r'⟩
    · rw [updM_ne z] at e
      by_cases y : a = x
      · subst y
        rw [hx] at e
        cases e
        exact ⟨es, upd_same, R.k, R.v.mono up⟩
      · refine (A.lv.mok.ok a c e).mono up ?_
        rw [upd_ne y]
        cases eh : H a with
        | none => exact absurd eh (A.lv.mok.ok a c e).there
        | some o => exact g.big a o (by rw [upd_ne y]; exact eh)
end
end Kn
namespace Kn
open PySem PySem.Spec L2

/-! ### new instances -/
section
variable {K : PySem.W.Frag} {b : BM} {ρ : Rho} {μ : Mu} {N : DM} {R : RM} {P : D → Mu → Prop} {tA : TA} {ds : List D}
theorem evm_make {C : Addr} (hr : ∀ x dx, dx ≠ x → μ x = none → μ dx = none → R [.obj (.ref x)] (updM (updM μ dx (.raw (.own x))) x (.raw (.ins C dx []))) (fun d μ' => d = .non ∧ P (.obj (.ref x)) μ') (fun _ _ _ => False)) :
    EvM K b (tMake C (spM K R) [] E0 tNil) ρ μ P := fun σ Hv H Q A q => by
  show ∀ x dx, H x = none → H dx = none → dx ≠ x → spM K R [V.ref x] (upd (upd H dx (.own x)) x (.ins C dx [])) (fun v H2 => v = .non ∧ Q (.ref x) H2) E0
  intro x dx hx hdx hne
  have sub := A.lv.sub
  have s1 : Le Hv (upd H dx (.own x)) := fun a o e => by
    rw [upd_ne (ne_of_none (sub a o e) hdx)]
    exact sub a o e
  have l1 : Lv K ⟨Hv, H, μ, Hv⟩ Hv (upd H dx (.own x)) (updM μ dx (.raw (.own x))) := Lv.new s1 A.lv.mok hdx (Le.none sub hdx) (Le.new hdx) upd_same
  have hx1 : upd H dx (.own x) x = none := by
    rw [upd_ne (Ne.symm hne)]
    exact hx
  have s2 : Le Hv (upd (upd H dx (.own x)) x (.ins C dx [])) := fun a o e => by
    rw [upd_ne (ne_of_none (s1 a o e) hx1)]
    exact s1 a o e
  have l2 : Lv K ⟨Hv, upd H dx (.own x), updM μ dx (.raw (.own x)), Hv⟩ Hv (upd (upd H dx (.own x)) x (.ins C dx [])) (updM (updM μ dx (.raw (.own x))) x (.raw (.ins C dx []))) := Lv.new s2 l1.mok hx1 (Le.none sub hx) (Le.new hx1) upd_same
  have l := l1.trans l2
  refine ⟨[.obj (.ref x)], _, Hv, _, _, s2, .cons (.obj _) .nil, l.mok, hr x dx hne (mu_none A.lv.mok hx) (mu_none A.lv.mok hdx), fun v Hv' H' d μ' l' rv ⟨e, p⟩ => ?_, fun _ _ _ _ _ _ z => z⟩
  subst e
  cases rv
  exact ⟨rfl, q (.ref x) Hv' H' _ μ' (l.trans l') (.obj _) p⟩
/-- self.f = {} -/
theorem stM_fldNew {i : Nat} {x C dx : Addr} {f : Str} (h : ρ[i]? = some (some (.dat (.obj (.ref x))))) (hx : μ x = some (.raw (.ins C dx []))) (c : Cls K C) (n : NoAttr K C f) (k : ∀ p, μ p = none → p ≠ x → N.nx ρ (updM (updM μ p (.dct [])) x (.raw (.ins C dx [(f, .ref p)])))) :
    StM K b (sFld K (tVar i) tDNewK f) N ρ μ := fun σ Hv H E A C' => by
  show ∀ p, H p = none → _
  intro p hp
  obtain ⟨v, ev, rv⟩ := A.dat i _ h
  have e := rv.obj_inv
  subst e
  have hHx : H x = some (.ins C dx []) := A.lv.mok.ok x _ hx
  have hpx : p ≠ x := fun z => by
    rw [z, hHx] at hp
    cases hp
  have sub := A.lv.sub
  have s1 : Le Hv (upd H p (.dK [])) := fun a o e => by
    rw [upd_ne (ne_of_none (sub a o e) hp)]
    exact sub a o e
  have l1 : Lv K ⟨Hv, H, μ, Hv⟩ Hv (upd H p (.dK [])) (updM μ p (.dct [])) := Lv.new s1 A.lv.mok hp (Le.none sub hp) (Le.new hp) ⟨[], upd_same, rfl, .nil⟩
  have hx1 : updM μ p (.dct []) x = some (.raw (.ins C dx [])) := by
    rw [updM_ne (Ne.symm hpx)]
    exact hx
  refine ⟨.ref x, ev, x, C, dx, [], rfl, by rw [upd_ne (Ne.symm hpx)]; exact hHx, c, n, by decide, ?_⟩
  have l2 := Lv.put (s := Hv) (c := .raw (.ins C dx [(f, .ref p)])) (o := .ins C dx [(f, .ref p)]) s1 l1.mok hx1 upd_same
  exact C'.nx σ Hv _ ρ _ ((A.step l1).step l2) (k p (mu_none A.lv.mok hp) hpx)
/-! errors with fields, made -/
theorem stM_ostNew {i : Nat} {a C : Addr} {f : Str} {te : TE} {v : V} {d : D} (h : ρ[i]? = some (some (.dat (.obj (.ref a))))) (ha : μ a = some (.raw (exo a C none))) (T : OexC K C) (n : PySem.W.findIn K (.ref C) f = some none) (he : ∀ σ Hv H (Q : VK), AtM K b σ Hv H ρ μ → Q v H → te σ H Q)
    (k : ∀ dd, μ dd = none → dd ≠ a → N.nx ρ (updM (updM μ dd (.raw (exd dd [(f, v)]))) a (.raw (exo a C (some dd))))) : StM K b (tOst K f (tVar i) te) N ρ μ := fun σ Hv H E A C' => by
  refine he σ Hv H _ A ?_
  obtain ⟨w, ev, rv⟩ := A.dat i _ h
  have e := rv.obj_inv
  subst e
  have hHa : H a = some (exo a C none) := A.lv.mok.ok a _ ha
  refine ⟨.ref a, ev, a, C, rfl, T, n, .inl ⟨hHa, fun dd hd hne => ?_⟩⟩
  have sub := A.lv.sub
  have s1 : Le Hv (upd H dd (exd dd [(f, v)])) := fun x o e => by
    rw [upd_ne (ne_of_none (sub x o e) hd)]
    exact sub x o e
  have l1 : Lv K ⟨Hv, H, μ, Hv⟩ Hv (upd H dd (exd dd [(f, v)])) (updM μ dd (.raw (exd dd [(f, v)]))) := Lv.new s1 A.lv.mok hd (Le.none sub hd) (Le.new hd) upd_same
  have hx1 : updM μ dd (.raw (exd dd [(f, v)])) a = some (.raw (exo a C none)) := by
    rw [updM_ne (Ne.symm hne)]
    exact ha
  have l2 := Lv.put (s := Hv) (c := .raw (exo a C (some dd))) (o := exo a C (some dd)) s1 l1.mok hx1 upd_same
  exact C'.nx σ Hv _ ρ _ ((A.step l1).step l2) (k dd (mu_none A.lv.mok hd) hne)
theorem stM_ostOld {i : Nat} {a C dd : Addr} {f : Str} {te : TE} {v : V} {fs : List (Str × V)} (h : ρ[i]? = some (some (.dat (.obj (.ref a))))) (ha : μ a = some (.raw (exo a C (some dd)))) (hd : μ dd = some (.raw (exd dd fs))) (T : OexC K C) (n : PySem.W.findIn K (.ref C) f = some none) (hl : fs.length ≤ 900) (he : ∀ σ Hv H (Q : VK), AtM K b σ Hv H ρ μ → Q v H → te σ H Q)
    (k : N.nx ρ (updM μ dd (.raw (exd dd ((f, v) :: fs))))) : StM K b (tOst K f (tVar i) te) N ρ μ := fun σ Hv H E A C' => by
  refine he σ Hv H _ A ?_
  obtain ⟨w, ev, rv⟩ := A.dat i _ h
  have e := rv.obj_inv
  subst e
  refine ⟨.ref a, ev, a, C, rfl, T, n, .inr ⟨dd, fs, A.lv.mok.ok a _ ha, A.lv.mok.ok dd _ hd, hl, ?_⟩⟩
  exact C'.nx σ Hv _ ρ _ (A.step (Lv.put (s := Hv) (c := .raw (exd dd ((f, v) :: fs))) (o := exd dd ((f, v) :: fs)) A.lv.sub A.lv.mok hd upd_same)) k
end
end Kn
namespace Kn
open PySem PySem.Spec L2

/-! ### errors with fields, raised or held -/
/-- what __init__ leaves of a new error at a -/
def MadeO (μ : Mu) (a C : Addr) (fs : List (Str × V)) : D → Mu → Prop := fun d μ' => d = .non ∧ ∃ dd, μ dd = none ∧ dd ≠ a ∧ μ' = updM (updM μ dd (.raw (exd dd fs))) a (.raw (exo a C (some dd)))
section
variable {K : PySem.W.Frag} {b : BM} {ρ : Rho} {μ : Mu} {N : DM} {R : RM} {P : D → Mu → Prop} {tA : TA} {ds : List D}
theorem mko {C : Addr} {fs : List (Str × V)} (ha : EvPA K b ρ μ tA ds) (hl : ds.length ≤ 1000) (hr : ∀ a, μ a = none → R (.obj (.ref a) :: ds) (updM μ a (.raw (exo a C none))) (MadeO (updM μ a (.raw (exo a C none))) a C fs) (fun _ _ _ => False))
    {σ : L2.St} {Hv H : Hp} {Q : XK} (A : AtM K b σ Hv H ρ μ) (q : ∀ dd Hv' H', μ dd = none → Lv K ⟨Hv, H, μ, Hv⟩ Hv' H' (updM μ dd (.raw (.xd fs))) → Q (.ref C) (some dd) H') : tMkO C (spM K R) [] tA σ H Q := by
  refine ha σ Hv H _ A fun vs Hv1 H1 l r => ⟨by rw [r.length]; exact hl, fun a hna => ?_⟩
  have sub := l.sub
  have hma := mu_none l.mok hna
  have s1 : Le Hv1 (upd H1 a (exo a C none)) := fun x o e => by
    rw [upd_ne (ne_of_none (sub x o e) hna)]
    exact sub x o e
  have l1 : Lv K ⟨Hv1, H1, μ, Hv1⟩ Hv1 (upd H1 a (exo a C none)) (updM μ a (.raw (exo a C none))) := Lv.new s1 l.mok hna (Le.none sub hna) (Le.new hna) upd_same
  refine ⟨.obj (.ref a) :: ds, _, Hv1, _, _, s1, .cons (.obj _) (by rw [List.append_nil]; exact r), l1.mok, hr a hma, fun v Hv' H2 d μ' l2 rv ⟨e, dd, hdd, hne, em⟩ => ?_, fun _ _ _ _ _ _ z => z⟩
  subst e em
  cases rv
  have lt : Lv K ⟨Hv1, H1, μ, Hv1⟩ Hv' H2 _ := l1.trans l2
  have hdm : μ dd = none := by rwa [updM_ne hne] at hdd
  have ea : H2 a = some (exo a C (some dd)) := l2.mok.ok a (.raw (exo a C (some dd))) updM_same
  have ed : H2 dd = some (exd dd fs) := l2.mok.ok dd (.raw (exd dd fs)) (by rw [updM_ne hne, updM_same])
  have hd1 : H1 dd = none := by
    have := l2.fr dd hdd (by rw [updM_ne hne, updM_same]; exact fun z => nomatch z)
    have h' : upd H1 a (exo a C none) dd = none := this
    rwa [upd_ne hne] at h'
  refine ⟨rfl, dd, fs, ea, ed, hd1, q dd Hv' _ hdm (l.trans ⟨fun x o hm e => ?_, lt.vis, fun x o e => ?_, lt.old, fun x h1 h2 => ?_, fun x h => ?_, ⟨fun x c e => ?_, fun x c e => ?_⟩⟩)⟩
  · have hxd : x ≠ dd := fun z => by
      rw [z] at e
      have e' : H1 dd = some o := e
      rw [hd1] at e'
      cases e'
    have hxa : x ≠ a := fun z => by
      rw [z] at e
      have e' : H1 a = some o := e
      rw [hna] at e'
      cases e'
    rw [upd_ne hxd]
    show del H2 a x = some o
    rw [del_ne hxa]
    exact lt.big x o hm e
  · have hxa : x ≠ a := fun z => by
      have := l2.mok.hid a (.raw (exo a C (some dd))) updM_same
      rw [z, this] at e
      cases e
    have hxd : x ≠ dd := fun z => by
      have := l2.mok.hid dd (.raw (exd dd fs)) (by rw [updM_ne hne, updM_same])
      rw [z, this] at e
      cases e
    rw [upd_ne hxd, del_ne hxa]
    exact lt.sub x o e
  · by_cases z : x = dd
    · subst z
      exact hd1
    · rw [updM_ne z] at h2
      exact absurd h1 h2
  · by_cases z : x = dd
    · subst z
      exact absurd hdm h
    · rw [updM_ne z]
      exact h
  · by_cases z : x = dd
    · subst z
      exact l2.mok.hid x (.raw (exd x fs)) (by rw [updM_ne hne, updM_same])
    · rw [updM_ne z] at e
      have hxa : x ≠ a := fun y => by
        rw [y, hma] at e
        cases e
      exact l2.mok.hid x c (by rw [updM_ne hxa, updM_ne z, updM_ne hxa]; exact e)
  · by_cases z : x = dd
    · subst z
      rw [updM_same] at e
      cases e
      exact upd_same
    · rw [updM_ne z] at e
      have hxa : x ≠ a := fun y => by
        rw [y, hma] at e
        cases e
      refine (l2.mok.ok x c (by rw [updM_ne hxa, updM_ne z, updM_ne hxa]; exact e)).mono (Le.refl _) ?_
      rw [upd_ne z, del_ne hxa]
/-- raise C(..) -/
theorem stM_raiseO {C : Addr} {fs : List (Str × V)} {E : XK} (ha : EvPA K b ρ μ tA ds) (hl : ds.length ≤ 1000) (hr : ∀ a, μ a = none → R (.obj (.ref a) :: ds) (updM μ a (.raw (exo a C none))) (MadeO (updM μ a (.raw (exo a C none))) a C fs) (fun _ _ _ => False))
    (hE : ∀ dd Hv' H', μ dd = none → Lv K b Hv' H' (updM μ dd (.raw (.xd fs))) → E (.ref C) (some dd) H') : StM K b (tRaiseO (fun c d _ H => E c d H) (tMkO C (spM K R) [] tA)) N ρ μ := fun σ Hv H _ A _ =>
  mko ha hl hr A fun dd Hv' H' hd l => hE dd Hv' H' hd (A.lv.trans l)
/-- C(..) as a value -/
theorem evm_mkV {C : Addr} {fs : List (Str × V)} (ha : EvPA K b ρ μ tA ds) (hl : ds.length ≤ 1000) (hr : ∀ a, μ a = none → R (.obj (.ref a) :: ds) (updM μ a (.raw (exo a C none))) (MadeO (updM μ a (.raw (exo a C none))) a C fs) (fun _ _ _ => False)) :
    EvM K b (tMkV C (tMkO C (spM K R) [] tA)) ρ μ (fun d μ' => ∃ a dd, μ dd = none ∧ a ≠ dd ∧ μ a = none ∧ d = .obj (.ref a) ∧ μ' = updM (updM μ dd (.raw (.xd fs))) a (.raw (exV a C dd))) := fun σ Hv H Q A q =>
  mko ha hl hr A fun dd Hv' H' hd l => ⟨dd, rfl, rfl, fun a hna => by
    have hma := mu_none l.mok hna
    have hne : a ≠ dd := fun z => by
      rw [z, updM_same] at hma
      cases hma
    have hma' : μ a = none := by rwa [updM_ne hne] at hma
    have s1 : Le Hv' (upd H' a (exV a C dd)) := fun x o e => by
      rw [upd_ne (ne_of_none (l.sub x o e) hna)]
      exact l.sub x o e
    exact q (.ref a) Hv' _ _ _ (l.trans (Lv.new (s := Hv') (c := .raw (exV a C dd)) s1 l.mok hna (Le.none l.sub hna) (Le.new hna) upd_same)) (.obj _) ⟨a, dd, hd, hne, hma', rfl, rfl⟩⟩
/-- e.f in a suite's def -/
theorem evp_xf {a C dd : Addr} {fs : List (Str × V)} {f : Str} {te : TE} {v : V} {d : D} (h0 : EvP K b te ρ μ (.obj (.ref a))) (hd : μ dd = some (.raw (.xd fs))) (l : fs.lookup f = some v) (r : ∀ H, Rep K H v d) : EvP K b (tXf a (.ref C) (some dd) C f te) ρ μ d := fun σ Hv H Q A q =>
  h0 σ Hv H _ A fun w Hv1 H1 d' μ' l0 r0 ⟨e1, e2⟩ => by
    subst e1 e2
    have ev := r0.obj_inv
    subst ev
    exact ⟨rfl, rfl, dd, fs, v, rfl, l0.mok.ok dd _ hd, l, q v Hv1 H1 _ _ l0 (r Hv1) ⟨rfl, rfl⟩⟩
theorem evp_xfT {a C dd : Addr} {fs : List (Str × V)} {f : Str} {te : TE} {v : V} {d : D} (h0 : EvP K b te ρ μ (.obj (.ref a))) (ha : μ a = some (.raw (exV a C dd))) (hd : μ dd = some (.raw (.xd fs))) (T : XfC K C) (n : PySem.W.findIn K (.ref C) f = some none) (l : fs.lookup f = some v) (r : ∀ H, Rep K H v d) : EvP K b (tXfT K f te) ρ μ d := fun σ Hv H Q A q =>
  h0 σ Hv H _ A fun w Hv1 H1 d' μ' l0 r0 ⟨e1, e2⟩ => by
    subst e1 e2
    have ev := r0.obj_inv
    subst ev
    exact ⟨a, C, dd, fs, v, rfl, l0.mok.ok a _ ha, l0.mok.ok dd _ hd, T, n, l, q v Hv1 H1 _ _ l0 (r Hv1) ⟨rfl, rfl⟩⟩
end
end Kn
namespace Kn
open PySem PySem.Spec L2

/-! ### comprehensions over a list that was just told -/
section
variable {K : PySem.W.Frag} {b : BM} {σ : L2.St} {Hv H Hv1 H1 : Hp} {ρ : Rho} {μ : Mu} {p : Addr} {xs : List V} {ds : List D}
theorem look_pub (l0 : Le Hv H) (m0 : MutOk K Hv H μ) (g : Gr (shown μ Hv H) H Hv1 H1) (hp : H p = none) (hv : Hv1 p = none) (ho : H1 p = some (.lst xs)) (r : RepAll K Hv1 xs ds) (hl : lfAll ds = true) :
    Lv K ⟨Hv, H, μ, Hv⟩ (upd (unshown μ Hv1) p (.lst xs)) H1 μ ∧ Rep K (upd (unshown μ Hv1) p (.lst xs)) (.ref p) (.lst ds) := by
  have l := unview l0 m0 g
  have hpm := mu_none m0 hp
  have hn : unshown μ Hv1 p = none := by
    rw [unshown_no fun es z => by rw [hpm] at z; cases z]
    exact hv
  refine ⟨⟨l.big, Le.trans l.vis (Le.new hn), fun a u e => ?_, fun a h => ?_, l.fr, l.dom, ⟨fun a c e => ?_, fun a c e => (l.mok.ok a c e).mono (Le.new hn) rfl⟩⟩, .lst upd_same ((r.unsh (unsh_tup m0 g) hl).mono (Le.new hn))⟩
  · by_cases ha : a = p
    · subst ha
      rw [upd_same] at e
      rw [ho, e]
    · rw [upd_ne ha] at e
      exact l.sub a u e
  · rw [upd_ne (show a ≠ p from fun z => h (by rw [z]; exact hp))]
    exact l.old a h
  · rw [upd_ne (show a ≠ p from fun z => (m0.ok a c e).there (by rw [z]; exact hp))]
    exact l.mok.hid a c e
theorem look_new (l0 : Le Hv H) (m0 : MutOk K Hv H μ) (g : Gr (shown μ Hv H) H Hv1 H1) (hp : H p = none) (hv : Hv1 p = none) (ho : H1 p = some (.lst xs)) (r : RepAll K Hv1 xs ds) (hl : lfAll ds = true) :
    Lv K ⟨Hv, H, μ, Hv⟩ (unshown μ Hv1) H1 (updM μ p (.lst ds)) := by
  have l := unview l0 m0 g
  have hpm := mu_none m0 hp
  have hn : unshown μ Hv1 p = none := by
    rw [unshown_no fun es z => by rw [hpm] at z; cases z]
    exact hv
  have r' := r.unsh (unsh_tup m0 g) hl
  refine ⟨l.big, l.vis, l.sub, l.old, fun a h1 h2 => ?_, fun a h => ?_, ⟨fun a c' e => ?_, fun a c' e => ?_⟩⟩
  · by_cases z : a = p
    · subst z
      exact hp
    · rw [updM_ne z] at h2
      exact absurd h1 h2
  · by_cases z : a = p
    · subst z
      exact absurd hpm h
    · rw [updM_ne z]
      exact h
  · by_cases z : a = p
    · subst z
      exact hn
    · rw [updM_ne z] at e
      exact l.mok.hid a _ e
  · by_cases z : a = p
    · subst z
      rw [updM_same] at e
      cases e
      exact ⟨xs, ho, r'⟩
    · rw [updM_ne z] at e
      exact l.mok.ok a _ e
end
section
variable {K : PySem.W.Frag} {b : BM} {ρ : Rho} {μ : Mu} {α : Type} {xs : List α} {tl te : TE} {tt : TT} {g : TG} {js vs : List Nat} {f : D → Rho → Rho}
theorem lc_over (a : α → D) (inj : ∀ x y, a x = a y → x = y) (p : α → Bool) (m : α → D) (h : EvM K b tl ρ μ (fun d μ' => ∃ q, μ q = none ∧ d = .obj (.ref q) ∧ μ' = updM μ q (.lst (xs.map a)))) (hg : ∀ x ∈ xs, GtD K g (a x) js (f (a x))) (hj : ∀ j ∈ js, j ∈ vs) (hz : xs.length ≤ 100000)
    (ht : ∀ b' x, x ∈ xs → EvB K b' tt (f (a x) (wipeD ρ vs)) (p x)) (he : ∀ b' x, x ∈ xs → p x = true → EvD K b' te (f (a x) (wipeD ρ vs)) (m x)) {σ : L2.St} {Hv H : Hp} {Q : VK} (A : AtM K b σ Hv H ρ μ)
    (q : ∀ q0 Hv1 H1 μ1, μ q0 = none → μ1 = updM μ q0 (.lst (xs.map a)) → Lv K ⟨Hv, H, μ, Hv⟩ Hv1 H1 μ1 → ∀ p' ys Hv2 H2, Gr (shown μ1 Hv1 H1) H1 Hv2 H2 → H1 p' = none → Hv2 p' = none → H2 p' = some (.lst ys) → RepAll K Hv2 ys ((xs.filter p).map m) → Q (.ref p') H2) : tLc (iSeq K tl) g tt te vs σ H Q := by
  refine .inl (h σ Hv H _ A fun v Hv1 H1 d μ1 l1 r1 ⟨q0, hq, ed, em⟩ => ?_)
  subst ed
  have ev := r1.obj_inv
  subst ev
  have A1 := A.step l1
  have hm1 : μ1 q0 = some (.lst (xs.map a)) := by rw [em]; exact updM_same
  obtain ⟨zs, hH, rz⟩ := l1.mok.ok q0 _ hm1
  have A0 := A1.view (View.refl μ1 ρ)
  have src : SrcD K ⟨shown μ1 Hv1 H1, H1, shown μ1 Hv1 H1⟩ (iList K (tC (.ref q0))) ρ (xs.map a) := src_list (d := .lst (xs.map a)) (fun σ' Hv' H' Q' A' q' => q' (.ref q0) Hv' H' (Gr.refl A'.sub) (.lst (A'.gr.vis q0 _ (by rw [show (⟨shown μ1 Hv1 H1, H1, shown μ1 Hv1 H1⟩ : Bs).v = shown μ1 Hv1 H1 from rfl, shown_lst hm1]; exact hH)) (rz.mono (Le.trans (shown_up l1.mok) A'.gr.vis)))) rfl
  exact evf_lcT a inj p m src hg hj hz (ht _) (he _) σ _ H1 Q A0 fun p' ys Hv2 H2 g2 hp hv ho r => q q0 Hv1 H1 μ1 hq em l1 p' ys Hv2 H2 g2 hp hv ho r
/-- the list is shown, the one walked is left behind -/
theorem evm_lcOver (a : α → D) (inj : ∀ x y, a x = a y → x = y) (p : α → Bool) (m : α → D) (h : EvM K b tl ρ μ (fun d μ' => ∃ q, μ q = none ∧ d = .obj (.ref q) ∧ μ' = updM μ q (.lst (xs.map a)))) (hg : ∀ x ∈ xs, GtD K g (a x) js (f (a x))) (hj : ∀ j ∈ js, j ∈ vs) (hz : xs.length ≤ 100000)
    (ht : ∀ b' x, x ∈ xs → EvB K b' tt (f (a x) (wipeD ρ vs)) (p x)) (he : ∀ b' x, x ∈ xs → p x = true → EvD K b' te (f (a x) (wipeD ρ vs)) (m x)) (hl : lfAll ((xs.filter p).map m) = true) :
    EvM K b (tLc (iSeq K tl) g tt te vs) ρ μ (fun d μ' => ∃ q, μ q = none ∧ d = .lst ((xs.filter p).map m) ∧ μ' = updM μ q (.lst (xs.map a))) := fun σ Hv H Q A q =>
  lc_over a inj p m h hg hj hz ht he A fun q0 Hv1 H1 μ1 hq em l1 p' ys Hv2 H2 g2 hp hv ho r => by
    obtain ⟨L, R⟩ := look_pub l1.sub l1.mok g2 hp hv ho r hl
    exact q (.ref p') _ H2 _ μ1 (l1.trans L) R ⟨q0, hq, rfl, em⟩
/-- the list may change, the one walked is left behind -/
theorem evm_lcOverN (a : α → D) (inj : ∀ x y, a x = a y → x = y) (p : α → Bool) (m : α → D) (h : EvM K b tl ρ μ (fun d μ' => ∃ q, μ q = none ∧ d = .obj (.ref q) ∧ μ' = updM μ q (.lst (xs.map a)))) (hg : ∀ x ∈ xs, GtD K g (a x) js (f (a x))) (hj : ∀ j ∈ js, j ∈ vs) (hz : xs.length ≤ 100000)
    (ht : ∀ b' x, x ∈ xs → EvB K b' tt (f (a x) (wipeD ρ vs)) (p x)) (he : ∀ b' x, x ∈ xs → p x = true → EvD K b' te (f (a x) (wipeD ρ vs)) (m x)) (hl : lfAll ((xs.filter p).map m) = true) :
    EvM K b (tLc (iSeq K tl) g tt te vs) ρ μ (fun d μ' => ∃ q p', μ q = none ∧ updM μ q (.lst (xs.map a)) p' = none ∧ d = .obj (.ref p') ∧ μ' = updM (updM μ q (.lst (xs.map a))) p' (.lst ((xs.filter p).map m))) := fun σ Hv H Q A q =>
  lc_over a inj p m h hg hj hz ht he A fun q0 Hv1 H1 μ1 hq em l1 p' ys Hv2 H2 g2 hp hv ho r => by
    have L := look_new l1.sub l1.mok g2 hp hv ho r hl
    have hpm := mu_none l1.mok hp
    subst em
    exact q (.ref p') _ H2 _ _ (l1.trans L) (.obj _) ⟨q0, p', hq, hpm, rfl, rfl⟩
end
end Kn
namespace Kn
open PySem PySem.Spec L2

/-! ### strings in plain words -/
theorem str_ext {a c : Str} (h : a.cps.toList = c.cps.toList) : a = c := by
  cases a
  cases c
  congr 1
  exact Array.toList_inj.mp h
theorem str_app (a c : Str) : (a ++ c).cps.toList = a.cps.toList ++ c.cps.toList := Array.toList_append
theorem str_len (a : Str) : a.length = a.cps.toList.length := rfl
theorem str_lenApp (a c : Str) : (a ++ c).length = a.length + c.length := by
  rw [str_len, str_app, List.length_append] <;> rfl
theorem cutS_to {z : Str} {n : Nat} (h : n ≤ z.length) : (cutS z none (some (n : Int))).cps.toList = z.cps.toList.take n := by
  have h1 : (cutS z none (some (n : Int))) = Txt.slice z none (some (n : Int)) := by rw [← sliceText_cut] <;> rfl
  have h2 := PyProof.Rows.slice_closes_to (x := z) (j := (n : Int)) ⟨by omega, by rw [← str_len]; omega⟩
  rw [h1, beq_iff_eq.mp h2]
  simp
theorem cutS_from {z : Str} {n : Nat} (h : n ≤ z.length) : (cutS z (some (n : Int)) none).cps.toList = z.cps.toList.drop n := by
  have h1 : (cutS z (some (n : Int)) none) = Txt.slice z (some (n : Int)) none := by rw [← sliceText_cut] <;> rfl
  rw [h1, PyProof.Rows.slice_from_eq (b := (z.length : Int)) (by omega) (by omega) rfl]
  show List.take _ _ = _
  apply List.take_of_length_le
  rw [List.length_drop, ← str_len]
  omega
theorem cutS_le (z : Str) (lo hi : Option Int) : (cutS z lo hi).length ≤ z.length := by
  show (List.toArray _).size ≤ _
  rw [List.size_toArray, List.length_take, List.length_drop, ← str_len]
  omega

/-! ### the names, as a function -/
def LT : Str := "abcdefghijklmnopqrstuvwxyz"
theorem LT_len : LT.cps.toList.length = 26 := by decide +kernel
theorem LT_nd : LT.cps.toList.Pairwise (· ≠ ·) := by decide +kernel
def ltC (i : Int) : Nat := (atI LT.cps.toList i).getD 0
def ltS (i : Int) : Str := ⟨#[ltC i]⟩
theorem lt_at {i : Int} (h0 : 0 ≤ i) (h1 : i < 26) : atI LT.cps.toList i = some (ltC i) := by
  have e : (i.toNat : Int) = i := Int.toNat_of_nonneg h0
  have hl : i.toNat < LT.cps.toList.length := by rw [LT_len]; omega
  have h := atI_nat (List.getElem?_eq_getElem hl)
  rw [e] at h
  unfold ltC
  rw [h] <;> rfl
theorem ltS_len (i : Int) : (ltS i).length = 1 := rfl
def baseF (c : Int) : Nat → Str
  | 0 => ""
  | k + 1 => baseF c k ++ ltS ((c / 361 + (k : Int) * (k : Int) * (1 + c / 7 % 5)) % 26)
theorem baseF_len (c : Int) : ∀ k, (baseF c k).length = k
  | 0 => (by decide +kernel : ("" : Str).length = 0)
  | k + 1 => by
    show (baseF c k ++ ltS _).length = k + 1
    rw [str_lenApp, baseF_len c k] <;> rfl
def bsN (c : Int) : Nat := (1 + c % 19).toNat
def bsF (c : Int) : Str := baseF c (bsN c)
def bsA (c : Int) : Nat := (c / 19 % (bsN c : Int)).toNat
theorem bsN_b (c : Int) : 1 ≤ bsN c ∧ bsN c ≤ 19 := by
  unfold bsN
  omega
theorem bsF_len (c : Int) : (bsF c).length = bsN c := baseF_len c _
theorem bsA_lt (c : Int) : bsA c < bsN c := by
  have h := bsN_b c
  have h1 := Int.emod_nonneg (c / 19) (show (bsN c : Int) ≠ 0 by omega)
  have h2 := Int.emod_lt_of_pos (c / 19) (show (0 : Int) < (bsN c : Int) by omega)
  unfold bsA
  omega
def altS (c : Int) (x : Nat) : Str := (cutS (bsF c) none (some (bsA c : Int)) ++ (⟨#[x]⟩ : Str)) ++ cutS (bsF c) (some ((bsA c : Int) + 1)) none
theorem altS_list (c : Int) (x : Nat) : (altS c x).cps.toList = (bsF c).cps.toList.take (bsA c) ++ [x] ++ (bsF c).cps.toList.drop (bsA c + 1) := by
  have h := bsA_lt c
  have hl := bsF_len c
  have h2 : (((bsA c + 1 : Nat) : Int)) = (bsA c : Int) + 1 := by omega
  unfold altS
  rw [str_app, str_app, cutS_to (by omega), ← h2, cutS_from (by omega)]
theorem altS_len (c : Int) (x : Nat) : (altS c x).length = bsN c := by
  have h := bsA_lt c
  have hl : (bsF c).cps.toList.length = bsN c := bsF_len c
  rw [str_len, altS_list, List.length_append, List.length_append, List.length_take, List.length_drop, hl, List.length_singleton]
  omega
theorem altS_inj {c : Int} {x y : Nat} (h : altS c x = altS c y) : x = y := by
  have h1 := congrArg (fun s : Str => s.cps.toList) h
  simp only [altS_list, List.append_assoc] at h1
  have h2 := List.append_cancel_left h1
  exact (List.cons.inj h2).1
def altsF (c : Int) : List Str := LT.cps.toList.map (altS c)
theorem altsF_len (c : Int) : (altsF c).length = 26 := by
  unfold altsF
  rw [List.length_map, LT_len]
theorem altsF_nd (c : Int) : (altsF c).Pairwise (· ≠ ·) := List.Pairwise.map (altS c) (fun a d h z => h (altS_inj z)) LT_nd
def moreF (c : Int) : Str := ltS (c / 361 % 26)
def addF (ss : List Str) (x : Str) : List Str := if x ∈ ss then ss else ss ++ [x]
def namesF (c : Int) : List Str := ((altsF c).take 3).foldl (fun ss x => addF (addF ss (x ++ moreF c)) (moreF c ++ x)) (altsF c)
/-- grows from ss by at most n names of at most m signs -/
def Gw (m : Nat) (ss : List Str) (n : Nat) (zs : List Str) : Prop := ∃ t, zs = ss ++ t ∧ t.length ≤ n ∧ ∀ z ∈ t, z.length ≤ m
theorem gw_add {m n : Nat} {ss zs : List Str} {x : Str} (h : Gw m ss n zs) (hx : x.length ≤ m) : Gw m ss (n + 1) (addF zs x) := by
  obtain ⟨t, rfl, h1, h2⟩ := h
  unfold addF
  split
  · exact ⟨t, rfl, by omega, h2⟩
  · refine ⟨t ++ [x], by rw [List.append_assoc], by rw [List.length_append, List.length_singleton]; omega, fun z hz => ?_⟩
    rcases List.mem_append.mp hz with hz | hz
    · exact h2 z hz
    · rw [List.mem_singleton.mp hz]
      exact hx
theorem gw_fold {m : Nat} {ss : List Str} {c : Int} : ∀ (xs : List Str) (n : Nat) (zs : List Str), Gw m ss n zs → (∀ x ∈ xs, x.length + 1 ≤ m) → Gw m ss (n + 2 * xs.length) (xs.foldl (fun ss x => addF (addF ss (x ++ moreF c)) (moreF c ++ x)) zs)
  | [], n, zs, h, _ => h
  | x :: xs, n, zs, h, hx => by
    have hx1 := hx x (List.mem_cons_self ..)
    have hm : (moreF c).length = 1 := rfl
    have h1 := gw_fold (c := c) xs (n + 1 + 1) _ (gw_add (gw_add h (x := x ++ moreF c) (by rw [str_lenApp, hm]; exact hx1)) (x := moreF c ++ x) (by rw [str_lenApp, hm]; omega)) fun y hy => hx y (List.mem_cons_of_mem _ hy)
    have e : n + 1 + 1 + 2 * xs.length = n + 2 * (x :: xs).length := by
      rw [List.length_cons]
      omega
    rw [e] at h1
    exact h1
theorem namesF_gw (c : Int) : Gw 20 (altsF c) 6 (namesF c) := by
  have hb := bsN_b c
  have h := gw_fold (m := 20) (ss := altsF c) (c := c) ((altsF c).take 3) 0 (altsF c) ⟨[], by rw [List.append_nil], Nat.le_refl _, fun z hz => nomatch hz⟩ fun x hx => by
    obtain ⟨y, _, rfl⟩ := List.mem_map.mp (List.mem_of_mem_take hx)
    rw [altS_len]
    omega
  rw [List.length_take, altsF_len] at h
  exact h
theorem namesF_len (c : Int) : 26 ≤ (namesF c).length ∧ (namesF c).length ≤ 32 := by
  obtain ⟨t, e, h1, _⟩ := namesF_gw c
  rw [e, List.length_append, altsF_len]
  omega
theorem namesF_short (c : Int) : ∀ z ∈ namesF c, z.length ≤ 20 := fun z hz => by
  obtain ⟨t, e, _, h2⟩ := namesF_gw c
  rw [e] at hz
  rcases List.mem_append.mp hz with hz | hz
  · obtain ⟨y, _, rfl⟩ := List.mem_map.mp hz
    have hb := bsN_b c
    rw [altS_len]
    omega
  · exact h2 z hz
theorem nd_le : ∀ (l m : List Str), l.Pairwise (· ≠ ·) → (∀ x ∈ l, x ∈ m) → l.length ≤ m.length
  | [], _, _, _ => Nat.zero_le _
  | x :: l, m, nd, h => by
    obtain ⟨h1, h2⟩ := List.pairwise_cons.mp nd
    have hx := h x (List.mem_cons_self ..)
    have h3 := nd_le l (m.erase x) h2 fun y hy => (List.mem_erase_of_ne (Ne.symm (h1 y hy))).mpr (h y (List.mem_cons_of_mem _ hy))
    rw [List.length_erase_of_mem hx] at h3
    have := List.length_pos_of_mem hx
    rw [List.length_cons]
    omega
/-- a name that none of at most 25 has -/
theorem names_free (c : Int) (ms : List Str) (h : ms.length < 26) : ∃ z zs, ((namesF c).filter fun s => !decide (s ∈ ms)) = z :: zs ∧ z ∈ namesF c ∧ z ∉ ms := by
  cases e : (namesF c).filter fun s => !decide (s ∈ ms) with
  | nil =>
    exfalso
    have h1 := List.filter_eq_nil_iff.mp e
    have h2 := nd_le (altsF c) ms (altsF_nd c) fun x hx => by
      obtain ⟨t, e2, _⟩ := namesF_gw c
      have h3 := h1 x (by rw [e2]; exact List.mem_append.mpr (.inl hx))
      by_cases hm : x ∈ ms
      · exact hm
      · exact absurd (by rw [decide_eq_false hm] <;> rfl) h3
    rw [altsF_len] at h2
    omega
  | cons z zs =>
    have hz : z ∈ (namesF c).filter fun s => !decide (s ∈ ms) := by
      rw [e]
      exact List.mem_cons_self ..
    obtain ⟨h1, h2⟩ := List.mem_filter.mp hz
    exact ⟨z, zs, rfl, h1, fun hm => by rw [decide_eq_true hm] at h2; cases h2⟩
end Kn
namespace Kn
open PySem PySem.Spec L2

/-! ### what stays -/
def Chg (μ μ' : Mu) (S : List Addr) : Prop := ∀ a c, a ∉ S → μ a = some c → μ' a = some c
section
variable {μ μ1 μ2 : Mu} {S S' : List Addr} {p : Addr} {c : MC}
theorem Chg.refl : Chg μ μ S := fun _ _ _ h => h
theorem Chg.trans (h1 : Chg μ μ1 S) (h2 : Chg μ1 μ2 S) : Chg μ μ2 S := fun a c n e => h2 a c n (h1 a c n e)
theorem Chg.mono (h : Chg μ μ1 S) (hs : ∀ a ∈ S, a ∈ S') : Chg μ μ1 S' := fun a c n e => h a c (fun z => n (hs a z)) e
theorem Chg.new (h : μ p = none) : Chg μ (updM μ p c) S := fun a c' _ e => by
  rw [updM_ne]
  · exact e
  · rintro rfl
    rw [h] at e
    cases e
theorem Chg.put (h : p ∈ S) : Chg μ (updM μ p c) S := fun a c' n e => by
  rw [updM_ne]
  · exact e
  · rintro rfl
    exact n h
theorem Chg.off (h : Chg μ μ1 S) (hp : μ p = none) : Chg μ (offM μ1 p) S := fun a c n e => by
  unfold offM
  rw [if_neg]
  · exact h a c n e
  · rintro rfl
    rw [hp] at e
    cases e
theorem Chg.at (h : Chg μ μ1 []) {a : Addr} (e : μ a = some c) : μ1 a = some c := h a c List.not_mem_nil e
theorem Chg.none_of (h : Chg μ μ1 []) (e : μ1 p = none) : μ p = none := by
  cases z : μ p with
  | none => rfl
  | some c => rw [h.at z] at e; cases e
end
/-! ### what changes within expressions -/
section
variable (K : PySem.W.Frag) (b : BM) (ρ : Rho) (μ : Mu)
def EvMB (tt : TT) (P : Bool → Mu → Prop) : Prop := ∀ (σ : L2.St) (Hv H : Hp) (Q : Bool → Hp → Prop), AtM K b σ Hv H ρ μ → (∀ Hv' H' c μ', Lv K ⟨Hv, H, μ, Hv⟩ Hv' H' μ' → P c μ' → Q c H') → tt σ H Q
def EvMA (tA : TA) (P : List D → Mu → Prop) : Prop := ∀ (σ : L2.St) (Hv H : Hp) (Q : List V → Hp → Prop), AtM K b σ Hv H ρ μ → (∀ vs Hv' H' ds μ', Lv K ⟨Hv, H, μ, Hv⟩ Hv' H' μ' → RepAll K Hv' vs ds → P ds μ' → Q vs H') → tA σ H Q
end
section
variable {K : PySem.W.Frag} {b : BM} {ρ : Rho} {μ : Mu} {te ta tb : TE} {tt tu : TT} {tA : TA} {t u : TS} {d e z : D} {ds : List D} {N : DM} {P P1 : D → Mu → Prop} {PB PB1 : Bool → Mu → Prop} {PA : List D → Mu → Prop}
theorem evmb_B (h : EvM K b te ρ μ (fun d μ' => ∃ c, d = .bl c ∧ PB c μ')) : EvMB K b ρ μ (tB te) PB := fun σ Hv H Q A q =>
  h σ Hv H _ A fun v Hv1 H1 d μ' l r ⟨c, e, p⟩ => by
    subst e
    exact ⟨c, r.bl_inv, q Hv1 H1 c μ' l p⟩
theorem evmb_not (h : EvMB K b ρ μ tt (fun c μ' => PB (!c) μ')) : EvMB K b ρ μ (tNot tt) PB := fun σ Hv H Q A q => h σ Hv H _ A fun Hv1 H1 c μ' l p => q Hv1 H1 _ μ' l p
theorem evmb_P {c : Bool} (h : EvPB K b ρ μ tt c) (p : PB c μ) : EvMB K b ρ μ tt PB := fun σ Hv H Q A q => h σ Hv H _ A fun Hv1 H1 l => q Hv1 H1 c μ l p
theorem evmb_or (h : EvMB K b ρ μ tt PB1) (h1 : ∀ μ', PB1 true μ' → PB true μ') (h2 : ∀ μ', PB1 false μ' → EvMB K b ρ μ' tu PB) : EvMB K b ρ μ (tOr tt tu) PB := fun σ Hv H Q A q => h σ Hv H _ A fun Hv1 H1 c μ' l p => by
  cases c with
  | true =>
    show Q true H1
    exact q Hv1 H1 true μ' l (h1 μ' p)
  | false =>
    show tu σ H1 Q
    exact h2 μ' p σ Hv1 H1 Q (A.step l) fun Hv2 H2 c2 μ2 l2 p2 => q Hv2 H2 c2 μ2 (l.trans l2) p2
theorem evmb_and (h : EvMB K b ρ μ tt PB1) (h1 : ∀ μ', PB1 false μ' → PB false μ') (h2 : ∀ μ', PB1 true μ' → EvMB K b ρ μ' tu PB) : EvMB K b ρ μ (tAnd tt tu) PB := fun σ Hv H Q A q => h σ Hv H _ A fun Hv1 H1 c μ' l p => by
  cases c with
  | true =>
    show tu σ H1 Q
    exact h2 μ' p σ Hv1 H1 Q (A.step l) fun Hv2 H2 c2 μ2 l2 p2 => q Hv2 H2 c2 μ2 (l.trans l2) p2
  | false =>
    show Q false H1
    exact q Hv1 H1 false μ' l (h1 μ' p)
theorem stM_ifM (h : EvMB K b ρ μ tt PB) (h1 : ∀ μ', PB true μ' → StM K b t N ρ μ') (h2 : ∀ μ', PB false μ' → StM K b u N ρ μ') : StM K b (tIfS tt t u) N ρ μ := fun σ Hv H E A C =>
  h σ Hv H _ A fun Hv1 H1 c μ' l p => by
    cases c with
    | true =>
      show t E σ H1
      exact h1 μ' p σ Hv1 H1 E (A.step l) C
    | false =>
      show u E σ H1
      exact h2 μ' p σ Hv1 H1 E (A.step l) C
/-! things in a row -/
theorem evma_nil (h : PA [] μ) : EvMA K b ρ μ tNil PA := fun σ Hv H Q A q => q [] Hv H [] μ (Lv.refl A.lv.sub A.lv.mok) .nil h
theorem evma_cons (ha : EvM K b ta ρ μ P1) (hr : ∀ d μ', P1 d μ' → EvMA K b ρ μ' tA (fun ds μ2 => PA (d :: ds) μ2)) : EvMA K b ρ μ (tCons ta tA) PA := fun σ Hv H Q A q =>
  ha σ Hv H _ A fun v Hv1 H1 d μ' l r p => hr d μ' p σ Hv1 H1 _ (A.step l) fun vs Hv2 H2 ds μ2 l2 r2 p2 => q (v :: vs) Hv2 H2 (d :: ds) μ2 (l.trans l2) (.cons (r.mono l2.vis) r2) p2
theorem evma_P (h : EvPA K b ρ μ tA ds) (p : PA ds μ) : EvMA K b ρ μ tA PA := fun σ Hv H Q A q => h σ Hv H _ A fun vs Hv1 H1 l r => q vs Hv1 H1 ds μ l r p
theorem evm_tupA (h : EvMA K b ρ μ tA PA) (k : ∀ ds μ', PA ds μ' → ds.length ≤ 100000 ∧ P (.tup ds) μ') : EvM K b (tTup tA) ρ μ P := fun σ Hv H Q A q =>
  h σ Hv H _ A fun xs Hv1 H1 ds μ' l r p => by
    obtain ⟨hz, p2⟩ := k ds μ' p
    refine ⟨by rw [r.length]; exact Nat.le_trans hz (by decide), fun p hp => ?_⟩
    have hv0 : Hv1 p = none := Le.none l.sub hp
    exact q (.ref p) _ _ _ μ' (l.trans (Lv.ofGr (s := Hv1) l.mok (Gr.new l.sub hp))) (.tup upd_same (r.mono (Le.new hv0))) p2
theorem evm_lstA (h : EvMA K b ρ μ tA PA) (k : ∀ ds μ', PA ds μ' → ds.length ≤ 100000 ∧ P (.lst ds) μ') : EvM K b (tLst tA) ρ μ P := fun σ Hv H Q A q =>
  h σ Hv H _ A fun xs Hv1 H1 ds μ' l r p => by
    obtain ⟨hz, p2⟩ := k ds μ' p
    refine ⟨by rw [r.length]; exact Nat.le_trans hz (by decide), fun p hp => ?_⟩
    have hv0 : Hv1 p = none := Le.none l.sub hp
    exact q (.ref p) _ _ _ μ' (l.trans (Lv.ofGr (s := Hv1) l.mok (Gr.new l.sub hp))) (.lst upd_same (r.mono (Le.new hv0))) p2
theorem evm_cbA {r : List V → Hp → VK → Prop} (h : EvMA K b ρ μ tA PA) (k : ∀ ds μ', PA ds μ' → ∃ z, CD K r ds z ∧ P z μ') : EvM K b (tCB r tA) ρ μ P := fun σ Hv H Q A q =>
  h σ Hv H _ A fun xs Hv1 H1 ds μ' l r1 p => by
    obtain ⟨z, hz, p2⟩ := k ds μ' p
    exact hz xs Hv1 H1 Q l.sub r1 fun v Hv3 H3 g3 r3 => q v Hv3 H3 z μ' (l.trans (Lv.ofGr (s := Hv1) l.mok g3)) r3 p2
theorem evm_callA {Rd : List D → Out → Prop} {E : XK} (h : EvMA K b ρ μ tA PA) (k : ∀ ds μ', PA ds μ' → ∃ z, Rd ds (.ret z) ∧ P z μ') : EvM K b (tCall (spD K Rd) [] E tA) ρ μ P := fun σ Hv H Q A q =>
  h σ Hv H _ A fun xs Hv1 H1 ds μ' l r p => by
    obtain ⟨z, hz, p2⟩ := k ds μ' p
    exact ⟨ds, .ret z, Hv1, l.sub, by rw [List.append_nil]; exact r, hz, fun v Hv2 H2 g r2 => q v Hv2 H2 z μ' (l.trans (Lv.ofGr (s := Hv1) l.mok g)) r2 p2⟩
theorem evm_op {r : R2} (ha : EvM K b ta ρ μ P1) (hb : ∀ d μ', P1 d μ' → ∃ e z, EvP K b tb ρ μ' e ∧ RD K r d e z ∧ P z μ') : EvM K b (tOp r ta tb) ρ μ P := fun σ Hv H Q A q =>
  ha σ Hv H _ A fun x Hv1 H1 d μ' l1 r1 p => by
    obtain ⟨e, z, h2, hr, p2⟩ := hb d μ' p
    exact h2 σ Hv1 H1 _ (A.step l1) fun y Hv2 H2 d2 μ2 l2 r2 ⟨e1, e2⟩ => by
      subst e1 e2
      exact hr x y Hv2 H2 Q l2.sub (r1.mono l2.vis) r2 fun v Hv3 H3 g3 r3 => q v Hv3 H3 z _ ((l1.trans l2).trans (Lv.ofGr (s := Hv2) l2.mok g3)) r3 p2
theorem evp_op {r : R2} (ha : EvP K b ta ρ μ d) (hb : EvP K b tb ρ μ e) (hr : RD K r d e z) : EvP K b (tOp r ta tb) ρ μ z := evm_op ha fun d' μ' ⟨e1, e2⟩ => by
  subst e1 e2
  exact ⟨e, z, hb, hr, rfl, rfl⟩
theorem evp_cb {r : List V → Hp → VK → Prop} (ha : EvPA K b ρ μ tA ds) (hr : CD K r ds z) : EvP K b (tCB r tA) ρ μ z := evm_cbA (PA := fun ds' μ' => ds' = ds ∧ μ' = μ) (evma_P ha ⟨rfl, rfl⟩) fun ds' μ' ⟨e1, e2⟩ => by
  subst e1 e2
  exact ⟨z, hr, rfl, rfl⟩
theorem evp_tup (ha : EvPA K b ρ μ tA ds) (hz : ds.length ≤ 100000) : EvP K b (tTup tA) ρ μ (.tup ds) := evm_tupA (PA := fun ds' μ' => ds' = ds ∧ μ' = μ) (evma_P ha ⟨rfl, rfl⟩) fun ds' μ' ⟨e1, e2⟩ => by
  subst e1 e2
  exact ⟨hz, rfl, rfl⟩
theorem evp_lst (ha : EvPA K b ρ μ tA ds) (hz : ds.length ≤ 100000) : EvP K b (tLst tA) ρ μ (.lst ds) := evm_lstA (PA := fun ds' μ' => ds' = ds ∧ μ' = μ) (evma_P ha ⟨rfl, rfl⟩) fun ds' μ' ⟨e1, e2⟩ => by
  subst e1 e2
  exact ⟨hz, rfl, rfl⟩
theorem evp_andV {c c' : Bool} (h : EvP K b ta ρ μ (.bl c)) (h2 : c = true → EvP K b tb ρ μ (.bl c')) : EvP K b (tAndV ta tb) ρ μ (.bl (c && c')) := fun σ Hv H Q A q => h σ Hv H _ A fun v Hv1 H1 d μ' l r ⟨e1, e2⟩ => by
  subst e1 e2
  refine ⟨c, r.bl_inv, ?_⟩
  cases c with
  | true =>
    show tb σ H1 Q
    exact h2 rfl σ Hv1 H1 Q (A.step l) fun v2 Hv2 H2 d2 μ2 l2 r2 p2 => q v2 Hv2 H2 d2 μ2 (l.trans l2) r2 p2
  | false =>
    show Q (.bl false) H1
    exact q _ Hv1 H1 _ _ l (.bl false) ⟨rfl, rfl⟩
theorem evpb_test {c : Bool} (h : EvP K b te ρ μ (.bl c)) : EvPB K b ρ μ (tTest te) c := fun σ Hv H Q A q => h σ Hv H _ A fun v Hv1 H1 d μ' l r ⟨e1, e2⟩ => by
  subst e1 e2
  exact ⟨c, r.bl_inv, q Hv1 H1 l⟩
theorem evpb_B {c : Bool} (h : EvP K b te ρ μ (.bl c)) : EvPB K b ρ μ (tB te) c := fun σ Hv H Q A q => h σ Hv H _ A fun v Hv1 H1 d μ' l r ⟨e1, e2⟩ => by
  subst e1 e2
  exact ⟨c, r.bl_inv, q Hv1 H1 l⟩
theorem evpb_is {c c' : Bool} (h : EvPB K b ρ μ tt c) (e : c = c') : EvPB K b ρ μ tt c' := e ▸ h
theorem evp_is (h : EvP K b te ρ μ d) (e : d = z) : EvP K b te ρ μ z := e ▸ h
theorem evpb_not {c : Bool} (h : EvPB K b ρ μ tt c) : EvPB K b ρ μ (tNot tt) (!c) := fun σ Hv H Q A q => h σ Hv H _ A fun Hv1 H1 l => q Hv1 H1 l
theorem evpb_or {c c' : Bool} (h : EvPB K b ρ μ tt c) (h2 : c = false → EvPB K b ρ μ tu c') : EvPB K b ρ μ (tOr tt tu) (c || c') := fun σ Hv H Q A q => h σ Hv H _ A fun Hv1 H1 l => by
  cases c with
  | true =>
    show Q true H1
    exact q Hv1 H1 l
  | false =>
    show tu σ H1 Q
    exact h2 rfl σ Hv1 H1 Q (A.step l) fun Hv2 H2 l2 => q Hv2 H2 (l.trans l2)
theorem evp_var {i : Nat} (h : ρ[i]? = some (some (.dat d))) : EvP K b (tVar i) ρ μ d := evp_of fun _ => evd_var h
theorem evp_int {i : Int} : EvP K b (tC (.int i)) ρ μ (.int i) := evp_of fun _ => evd_int
theorem evp_bl {c : Bool} : EvP K b (tC (.bl c)) ρ μ (.bl c) := evp_of fun _ => evd_bl
end
end Kn
namespace Kn
open PySem PySem.Spec L2

/-! ### texts whose signs are signs -/
def SOk (s : Str) : Prop := ∀ x ∈ s.cps.toList, x < 1114112
theorem SOk.app {a c : Str} (h : SOk a) (h2 : SOk c) : SOk (a ++ c) := fun x hx => by
  rw [str_app] at hx
  rcases List.mem_append.mp hx with hx | hx
  · exact h x hx
  · exact h2 x hx
theorem LT_ok : ∀ x ∈ LT.cps.toList, x < 1114112 := by decide +kernel
theorem ltC_ok (i : Int) : ltC i < 1114112 := by
  unfold ltC
  cases e : atI LT.cps.toList i with
  | none => exact (by decide : 0 < 1114112)
  | some c =>
    unfold atI at e
    cases e2 : ixN LT.cps.toList.length i with
    | none => rw [e2] at e; cases e
    | some j =>
      rw [e2] at e
      have e' : LT.cps.toList[j]? = some c := e
      exact LT_ok c (List.mem_of_getElem? e')
theorem ltS_ok (i : Int) : SOk (ltS i) := fun x hx => by
  have : x ∈ [ltC i] := hx
  rw [List.mem_singleton] at this
  rw [this]
  exact ltC_ok i
theorem baseF_ok (c : Int) : ∀ k, SOk (baseF c k)
  | 0 => fun x hx => by
    have e : (baseF c 0).cps.toList = [] := rfl
    rw [e] at hx
    cases hx
  | k + 1 => (baseF_ok c k).app (ltS_ok _)
theorem altS_ok (c : Int) (x : Nat) (h : x < 1114112) : SOk (altS c x) := fun y hy => by
  rw [altS_list] at hy
  rcases List.mem_append.mp hy with hy | hy
  · rcases List.mem_append.mp hy with hy | hy
    · exact baseF_ok c _ y (List.mem_of_mem_take hy)
    · rw [List.mem_singleton] at hy
      rw [hy]
      exact h
  · exact baseF_ok c _ y (List.mem_of_mem_drop hy)
theorem addF_all {p : Str → Prop} {ss : List Str} {x : Str} (h : ∀ z ∈ ss, p z) (hx : p x) : ∀ z ∈ addF ss x, p z := fun z hz => by
  unfold addF at hz
  split at hz
  · exact h z hz
  · rcases List.mem_append.mp hz with hz | hz
    · exact h z hz
    · rw [List.mem_singleton] at hz
      rw [hz]
      exact hx
theorem fold_all {p : Str → Prop} {m : Str} : ∀ (xs ss : List Str), (∀ z ∈ ss, p z) → (∀ x ∈ xs, p (x ++ m) ∧ p (m ++ x)) → ∀ z ∈ xs.foldl (fun ss x => addF (addF ss (x ++ m)) (m ++ x)) ss, p z
  | [], ss, h, _ => h
  | x :: xs, ss, h, h2 => fold_all xs _ (addF_all (addF_all h (h2 x (List.mem_cons_self ..)).1) (h2 x (List.mem_cons_self ..)).2) fun y hy => h2 y (List.mem_cons_of_mem _ hy)
theorem namesF_ok (c : Int) : ∀ z ∈ namesF c, SOk z := by
  have ha : ∀ z ∈ altsF c, SOk z := fun z hz => by
    obtain ⟨x, hx, e⟩ := List.mem_map.mp hz
    subst e
    exact altS_ok c x (LT_ok x hx)
  exact fold_all _ _ ha fun x hx => ⟨(ha x (List.mem_of_mem_take hx)).app (ltS_ok _), (ltS_ok _).app (ha x (List.mem_of_mem_take hx))⟩
/-! ### data that == takes -/
def D.q : Nat → D → Prop
  | _, .non => True
  | _, .bl _ => True
  | _, .int _ => True
  | _, .str s => SOk s
  | n + 1, .tup ds => ∀ d ∈ ds, D.q n d
  | n + 1, .lst ds => ∀ d ∈ ds, D.q n d
  | n + 1, .lsa _ ds => ∀ d ∈ ds, D.q n d
  | _, _ => False
structure QOk (n : Nat) (d : D) : Prop where
  p : d.plain = true
  c : PyData.canLay0 d.py = true
  w : d.py.depth ≤ n
  e : PyData.eqv d.py d.py = true
structure QsOk (n : Nat) (ds : List D) : Prop where
  p : plainAll ds = true
  c : PyData.canLayAll0 (pyAll ds) = true
  w : PyData.depthAll (pyAll ds) ≤ n
  e : PyData.eqvAll (pyAll ds) (pyAll ds) = true
theorem qs_ok {n : Nat} : ∀ ds : List D, (∀ d ∈ ds, QOk n d) → QsOk n ds
  | [], _ => ⟨rfl, by simp [pyAll, PyData.canLayAll0], by simp [pyAll, PyData.depthAll], by simp [pyAll, PyData.eqvAll]⟩
  | d :: ds, h => by
    have h1 := h d (List.mem_cons_self ..)
    have h2 := qs_ok ds fun x hx => h x (List.mem_cons_of_mem _ hx)
    refine ⟨?_, ?_, ?_, ?_⟩
    · show (d.plain && plainAll ds) = true
      rw [h1.p, h2.p] <;> rfl
    · show PyData.canLayAll0 (d.py :: pyAll ds) = true
      rw [PyData.canLayAll0, h1.c, h2.c] <;> rfl
    · show PyData.depthAll (d.py :: pyAll ds) ≤ n
      rw [PyData.depthAll]
      exact Nat.max_le.mpr ⟨h1.w, h2.w⟩
    · show PyData.eqvAll (d.py :: pyAll ds) (d.py :: pyAll ds) = true
      rw [PyData.eqvAll, h1.e, h2.e] <;> rfl
theorem strOk_of {s : Str} (h : SOk s) : PyData.canLay0 (.str s) = true := by
  rw [PyData.canLay0]
  show s.cps.all (fun x => decide (x < 1114112)) = true
  rw [← Array.all_toList, List.all_eq_true]
  exact fun x hx => decide_eq_true (h x hx)
theorem q_lst {n : Nat} {ds : List D} (h : QsOk n ds) : QOk (n + 1) (.lst ds) := ⟨h.p, by
  show PyData.canLay0 (.list (pyAll ds)) = true
  rw [PyData.canLay0]
  exact h.c, by
  show PyData.depth (.list (pyAll ds)) ≤ n + 1
  rw [PyData.depth]
  exact Nat.succ_le_succ h.w, by
  show PyData.eqv (.list (pyAll ds)) (.list (pyAll ds)) = true
  rw [PyData.eqv]
  exact h.e⟩
theorem q_lsa {n : Nat} {p : Addr} {ds : List D} (h : QsOk n ds) : QOk (n + 1) (.lsa p ds) := by
  have := q_lst h
  exact ⟨this.p, this.c, this.w, this.e⟩
theorem q_tup {n : Nat} {ds : List D} (h : QsOk n ds) : QOk (n + 1) (.tup ds) := ⟨h.p, by
  show PyData.canLay0 (.tuple (pyAll ds)) = true
  rw [PyData.canLay0]
  exact h.c, by
  show PyData.depth (.tuple (pyAll ds)) ≤ n + 1
  rw [PyData.depth]
  exact Nat.succ_le_succ h.w, by
  show PyData.eqv (.tuple (pyAll ds)) (.tuple (pyAll ds)) = true
  rw [PyData.eqv]
  exact h.e⟩
theorem q_ok : ∀ (n : Nat) (d : D), d.q n → QOk n d
  | n, .non, _ => ⟨rfl, by simp [D.py, PyData.canLay0], by simp [D.py, PyData.depth], by simp [D.py, PyData.eqv]⟩
  | n, .bl b, _ => ⟨rfl, by simp [D.py, PyData.canLay0], by simp [D.py, PyData.depth], by simp [D.py, PyData.eqv]⟩
  | n, .int i, _ => ⟨rfl, by simp [D.py, PyData.canLay0], by simp [D.py, PyData.depth], by simp [D.py, PyData.eqv]⟩
  | n, .str s, h => ⟨rfl, strOk_of (by cases n <;> exact h), by simp [D.py, PyData.depth], by simp [D.py, PyData.eqv]⟩
  | n + 1, .tup ds, h => q_tup (qs_ok ds fun d hd => q_ok n d (h d hd))
  | n + 1, .lst ds, h => q_lst (qs_ok ds fun d hd => q_ok n d (h d hd))
  | n + 1, .lsa p ds, h => q_lsa (qs_ok ds fun d hd => q_ok n d (h d hd))
  | 0, .tup _, h => h.elim
  | 0, .lst _, h => h.elim
  | 0, .lsa _ _, h => h.elim
  | 0, .fro _, h => h.elim
  | _ + 1, .fro _, h => h.elim
  | 0, .obj _, h => h.elim
  | _ + 1, .obj _, h => h.elim
theorem okD_q {n : Nat} {d : D} (h : d.q n) (hn : n ≤ 64) : okD d = true := by
  have q := q_ok n d h
  show (d.plain && (d.py.canLay0 && decide (d.py.depth ≤ 64))) = true
  rw [q.p, q.c, decide_eq_true (Nat.le_trans q.w hn)] <;> rfl
section
variable {K : PySem.W.Frag} {d e : D}
/-- the same data, told equal -/
theorem rd_same {n m : Nat} (h : d.q n) (hn : n ≤ 64) (h2 : e.q m) (hm : m ≤ 64) (he : d.py = e.py) : RD K (rEqA K) d e (.bl true) := by
  have := rd_eqD (K := K) (okD_q h hn) (okD_q h2 hm)
  rw [← he, (q_ok n d h).e] at this
  exact this
theorem rd_sameN {n m : Nat} (h : d.q n) (hn : n ≤ 64) (h2 : e.q m) (hm : m ≤ 64) (he : d.py = e.py) : RD K (rNeA K) d e (.bl false) := by
  have := rd_neD (K := K) (okD_q h hn) (okD_q h2 hm)
  rw [← he, (q_ok n d h).e] at this
  exact this
end
end Kn
namespace Kn
open PySem PySem.Spec L2

section
variable {K : PySem.W.Frag} {b : BM} {ρ : Rho} {μ : Mu} {tA : TA} {t : TS} {N : DM}
/-- for over range(n), n read from what may change -/
theorem stM_forR {n j : Nat} (ha : EvPA K b ρ μ tA [.int (n : Int)]) (hz : n ≤ 100000) (I : Nat → Rho → Mu → Prop) (h0 : I 0 ρ μ)
    (hs : ∀ (s : Hp) (i : Nat) (ρ' : Rho) (μ' : Mu), i < n → I i ρ' μ' → StM K ⟨b.v, b.h, b.m, s⟩ t { N with nx := I (i + 1) } (ρ'.set j (some (.dat (.int (i : Nat))))) μ')
    (hd : ∀ ρ' μ', I n ρ' μ' → N.nx ρ' μ') : StM K b (tFor (iRng1 tA) (gName j) t) N ρ μ := fun σ Hv H E A C => by
  refine ha σ Hv H _ A fun vs Hv1 H1 l1 r1 => ?_
  obtain ⟨v, rfl, rv⟩ := r1.one
  have e := rv.int_inv
  subst e
  have A1 := A.step l1
  have en : (n : Int).toNat = n := Int.toNat_natCast n
  have hp : (100000 : Int) < 2 ^ 62 := by decide
  refine ⟨(n : Int), rfl, Int.le_trans (by decide : -(2 ^ 62 : Int) ≤ 0) (Int.natCast_nonneg n), by omega, ?_⟩
  refine ⟨fun i m σ H => m = n - i ∧ i ≤ n ∧ ∃ Hv ρ' μ', AtM K ⟨b.v, b.h, b.m, Hv1⟩ σ Hv H ρ' μ' ∧ I i ρ' μ', ⟨n, by simp, Nat.zero_le _, Hv1, ρ, μ, ⟨⟨A1.lv.big, A1.lv.vis, A1.lv.sub, A1.lv.old, A1.lv.fr, A1.lv.dom, A1.lv.mok⟩, Le.refl _, A1.len, A1.dat, A1.no⟩, h0⟩, ?_⟩
  have back : ∀ {σ : L2.St} {Hv H : Hp} {ρ' : Rho} {μ' : Mu}, AtM K ⟨b.v, b.h, b.m, Hv1⟩ σ Hv H ρ' μ' → AtM K b σ Hv H ρ' μ' := fun A' => ⟨⟨A'.lv.big, A'.lv.vis, A'.lv.sub, A'.lv.old, A'.lv.fr, A'.lv.dom, A'.lv.mok⟩, Le.trans A1.sc A'.sc, A'.len, A'.dat, A'.no⟩
  rintro i m σ2 H2 ⟨rfl, hi, Hv2, ρ2, μ2, A2, i2⟩
  by_cases hlt : i < n
  · refine .inr ⟨by show i < (n : Int).toNat; omega, fun σ' H' => ∃ Hv ρ' μ', AtM K ⟨b.v, b.h, b.m, Hv1⟩ σ' Hv H' ρ' μ' ∧ I (i + 1) ρ' μ', fun σ' H' ⟨Hv', ρ', μ', A', i'⟩ => ⟨n - (i + 1), by omega, rfl, hlt, Hv', ρ', μ', A', i'⟩, fun x H' y => ?_⟩
    obtain ⟨rfl, rfl⟩ := y
    have e0 : (0 : Int) + (i : Nat) = (i : Nat) := Int.zero_add _
    rw [e0]
    exact hs Hv1 i ρ2 μ2 hlt i2 (σ2.set j (some (.int (i : Nat)))) Hv2 H' _ (A2.setDat (.int _)) ⟨fun σ' Hv' H' ρ' μ' A' q => ⟨Hv', ρ', μ', A', q⟩, fun v Hv' H' d μ' l r q => C.rt v Hv' H' d μ' ⟨l.big, l.vis, l.sub, l.old, l.fr, l.dom, l.mok⟩ r q⟩
  · have e : i = n := by omega
    subst e
    exact .inl ⟨by show (i : Int).toNat ≤ i; omega, C.nx σ2 Hv2 H2 ρ2 μ2 (back A2) (hd ρ2 μ2 i2)⟩
end
/-! the same place set twice -/
theorem updM_upd {μ : Mu} {p : Addr} {c d : MC} : updM (updM μ p c) p d = updM μ p d := by
  funext a
  by_cases h : a = p
  · subst h
    rw [updM_same, updM_same]
  · rw [updM_ne h, updM_ne h, updM_ne h]
theorem updM_self {μ : Mu} {p : Addr} {c : MC} (h : μ p = some c) : updM μ p c = μ := by
  funext a
  by_cases z : a = p
  · subst z
    rw [updM_same, h]
  · rw [updM_ne z]
/-! a dict's keys -/
theorem valD_mem (s : Str) : ∀ kvs : Kvs, (valD kvs s).isSome = decide (s ∈ kvs.map (·.1))
  | [] => rfl
  | p :: kvs => by
    unfold valD
    rw [List.find?_cons]
    by_cases z : p.1 = s
    · rw [decide_eq_true z]
      exact (decide_eq_true (by rw [List.map_cons, z]; exact List.mem_cons_self ..)).symm
    · rw [decide_eq_false z]
      have ih := valD_mem s kvs
      unfold valD at ih
      show ((kvs.find? fun p => decide (p.1 = s)).map (·.2)).isSome = _
      rw [ih]
      rw [decide_eq_decide, List.map_cons, List.mem_cons]
      exact ⟨.inr, fun h => h.elim (fun e => absurd e.symm z) id⟩
theorem valD_no {s : Str} {kvs : Kvs} (h : s ∉ kvs.map (·.1)) : valD kvs s = none := by
  have := valD_mem s kvs
  rw [decide_eq_false h] at this
  cases e : valD kvs s with
  | none => rfl
  | some b => rw [e] at this; cases this
/-- keys that differ -/
def KNd (kvs : Kvs) : Prop := (kvs.map (·.1)).Pairwise (· ≠ ·)
def posF (kvs : Kvs) (s : Str) : Nat := kvs.findIdx fun p => decide (p.1 = s)
def dropF (kvs : Kvs) (s : Str) : Kvs := kvs.filter fun p => decide (p.1 ≠ s)
theorem dropF_no {s : Str} {kvs : Kvs} (h : s ∉ kvs.map (·.1)) : dropF kvs s = kvs := List.filter_eq_self.mpr fun p hp => decide_eq_true fun e => h (List.mem_map.mpr ⟨p, hp, e⟩)
theorem posF_no {s : Str} {kvs : Kvs} (h : s ∉ kvs.map (·.1)) : posF kvs s = kvs.length := List.findIdx_eq_length.mpr fun p hp => decide_eq_false fun e => h (List.mem_map.mpr ⟨p, hp, e⟩)
structure At1 (kvs : Kvs) (s : Str) (b : Int × Int) (k : Nat) : Prop where
  g : kvs[k]? = some (s, b)
  p : posF kvs s = k
  d : kvs.eraseIdx k = dropF kvs s
  u : ∀ i, i < kvs.length → ((kvs.getD i ("", (0, 0))).1 = s ↔ i = k)
theorem at1_of : ∀ {kvs : Kvs} {s : Str} {b : Int × Int}, KNd kvs → valD kvs s = some b → ∃ k, At1 kvs s b k
  | [], s, b, _, h => nomatch h
  | p :: kvs, s, b, hn, h => by
    unfold KNd at hn
    rw [List.map_cons, List.pairwise_cons] at hn
    unfold valD at h
    rw [List.find?_cons] at h
    by_cases z : p.1 = s
    · rw [decide_eq_true z] at h
      have h' : some p.2 = some b := h
      injection h' with h'
      have no : s ∉ kvs.map (·.1) := fun q => hn.1 s q z
      refine ⟨0, ?_, ?_, ?_, fun i hi => ?_⟩
      · show some p = some (s, b)
        rw [← z, ← h']
      · unfold posF
        rw [List.findIdx_cons, decide_eq_true z] <;> rfl
      · show kvs = (p :: kvs).filter _
        rw [List.filter_cons, decide_eq_false (not_not_intro z)]
        exact (dropF_no no).symm
      · cases i with
        | zero => exact ⟨fun _ => rfl, fun _ => z⟩
        | succ i =>
          refine ⟨fun e => ?_, fun e => nomatch e⟩
          exact absurd (by
            have hi' : i < kvs.length := Nat.lt_of_succ_lt_succ hi
            rw [List.getD_cons_succ, List.getD_eq_getElem?_getD, List.getElem?_eq_getElem hi'] at e
            exact List.mem_map.mpr ⟨_, List.getElem_mem hi', e⟩) no
    · rw [decide_eq_false z] at h
      obtain ⟨k, h1, h2, h3, h4⟩ := at1_of (kvs := kvs) (s := s) (b := b) hn.2 h
      refine ⟨k + 1, h1, ?_, ?_, fun i hi => ?_⟩
      · unfold posF at h2 ⊢
        rw [List.findIdx_cons, decide_eq_false z, h2] <;> rfl
      · show p :: kvs.eraseIdx k = (p :: kvs).filter _
        rw [List.filter_cons, decide_eq_true (show p.1 ≠ s from z), h3] <;> rfl
      · cases i with
        | zero => exact ⟨fun e => absurd e z, fun e => nomatch e⟩
        | succ i =>
          rw [List.getD_cons_succ, h4 i (Nat.lt_of_succ_lt_succ hi)]
          exact ⟨fun e => by rw [e], fun e => Nat.succ.inj e⟩
theorem knd_drop {kvs : Kvs} (s : Str) (h : KNd kvs) : KNd (dropF kvs s) := List.Pairwise.sublist (List.Sublist.map _ List.filter_sublist) h
theorem knd_snoc {kvs : Kvs} {s : Str} {b : Int × Int} (h : KNd kvs) (hs : s ∉ kvs.map (·.1)) : KNd (kvs ++ [(s, b)]) := by
  unfold KNd
  rw [List.map_append, List.pairwise_append]
  refine ⟨h, List.pairwise_singleton _ _, fun x hx y hy e => ?_⟩
  rw [List.map_singleton, List.mem_singleton] at hy
  subst hy
  rw [e] at hx
  exact hs hx
/-- the places of a key -/
theorem places {kvs : Kvs} {s : Str} {b : Int × Int} {k : Nat} (A : At1 kvs s b k) : (List.range kvs.length).filter (fun i => decide ((kvs.getD i ("", (0, 0))).1 = s)) = [k] := by
  have hk : k < kvs.length := (List.getElem?_eq_some_iff.mp A.g).1
  have e : ∀ n, (List.range n).filter (fun i => decide (i = k)) = if k < n then [k] else [] := fun n => by
    induction n with
    | zero => rfl
    | succ n ih =>
      rw [List.range_succ, List.filter_append, ih]
      by_cases z : n = k
      · subst z
        rw [if_neg (Nat.lt_irrefl _), if_pos (Nat.lt_succ_self _), List.filter_cons, decide_eq_true rfl] <;> rfl
      · rw [List.filter_cons, decide_eq_false z]
        by_cases y : k < n
        · rw [if_pos y, if_pos (Nat.lt_succ_of_lt y)] <;> rfl
        · rw [if_neg y, if_neg (show ¬ k < n + 1 by omega)] <;> rfl
  have e2 := e kvs.length
  rw [if_pos hk] at e2
  rw [← e2]
  refine List.filter_congr fun i hi => ?_
  rw [decide_eq_decide]
  exact A.u i (List.mem_range.mp hi)
theorem places_no {kvs : Kvs} {s : Str} (h : s ∉ kvs.map (·.1)) : (List.range kvs.length).filter (fun i => decide ((kvs.getD i ("", (0, 0))).1 = s)) = [] := List.filter_eq_nil_iff.mpr fun i hi => by
  have hi' := List.mem_range.mp hi
  rw [decide_eq_true_iff, List.getD_eq_getElem?_getD, List.getElem?_eq_getElem hi']
  exact fun e => h (List.mem_map.mpr ⟨_, List.getElem_mem hi', e⟩)
end Kn
namespace Kn
open PySem PySem.Spec L2
local macro_rules | `(tactic| wtm_at "side") => `(tactic| first | (show (_ : Prop); first | assumption | omega | decide | rfl | ((with_reducible show IntMulOk _ _); first | exact mul_s (by omega) | (refine mul_s (.inl ?_); decide) | (refine mul_s (.inr ?_); decide))) | skip)
local macro_rules | `(tactic| wtm_at "call") => `(tactic| (show (_ : Prop); assumption))
local macro_rules | `(tactic| wtm_at "rd") => `(tactic| first
  | ((with_reducible show RD _ (rIx _) _ _ _); exact rd_ix rfl rfl)
  | with_reducible exact rd_add | with_reducible exact rd_sub | with_reducible exact rd_lt | with_reducible exact rd_le | with_reducible exact rd_gt | with_reducible exact rd_ge
  | with_reducible exact rd_eqI | with_reducible exact rd_neI | with_reducible exact rd_eqS | with_reducible exact rd_neS | with_reducible exact rd_eqB | with_reducible exact rd_neB
  | with_reducible refine' rd_mod ?_ | with_reducible refine' rd_divP ?_ ?_ | with_reducible refine' rd_mul ?_ | ((with_reducible refine' rd_pow ?_); exact ⟨by decide, by decide, by decide⟩)
  | with_reducible refine' rd_ix rfl ?_ | with_reducible refine' rd_addL ?_ | with_reducible refine' rd_addS ?_)
local macro_rules | `(tactic| wtm_at "cd") => `(tactic| first
  | with_reducible refine' cd_len rfl | with_reducible refine' cd_isi rfl (by decide +kernel) | with_reducible exact cd_min2 | with_reducible exact cd_max2 | with_reducible exact cd_abs | with_reducible exact cd_intB | with_reducible refine' cd_sum rfl | with_reducible refine' cd_lenS ?_)
local macro_rules | `(tactic| wtm_at "ev1") => `(tactic| first
  | with_reducible exact evd_int | with_reducible exact evd_bl | with_reducible exact evd_str | with_reducible exact evd_non | with_reducible exact evd_obj
  | with_reducible exact evd_var rfl | exact evd_var rfl
  | with_reducible exact eva_nil | with_reducible apply eva_cons
  | with_reducible apply evd_op
  | with_reducible apply evd_un
  | with_reducible refine' evd_tup ?_ (by simp only [List.length_cons, List.length_nil]; decide) | with_reducible refine' evd_lst ?_ (by simp only [List.length_cons, List.length_nil]; decide)
  | with_reducible exact evd_lenOwn rfl
  | with_reducible apply evd_cb | with_reducible apply evd_call
  | with_reducible apply evb_test | with_reducible apply evb_B | with_reducible apply evb_not
  | with_reducible refine' evb_and ?_ fun _ => ?_ | with_reducible refine' evb_or ?_ fun _ => ?_
  | with_reducible refine' evd_andV ?_ fun _ => ?_ | with_reducible refine' evd_orV ?_ fun _ => ?_ | with_reducible apply evd_notV
  | with_reducible refine' evd_isN ?_ (rep_non rfl) | with_reducible refine' evd_notN ?_ (rep_non rfl)
  | wtm_at "rd" | wtm_at "cd" | wtm_at "call")
local macro_rules | `(tactic| wtm_at "ev") => `(tactic| focus ((repeat' (wtm_at "ev1")) <;> wtm_at "side"))
local macro_rules | `(tactic| wtm_at "set") => `(tactic| (refine' st_seq (st_set ?_ ?_); focus (wtm_at "ev")))
local macro_rules | `(tactic| wtm_at "par") => `(tactic| (refine' st_seq (st_par ?_ ?_); focus (wtm_at "ev")))
local macro_rules | `(tactic| wtm_at "ret") => `(tactic| (refine' st_ret ?_ ?_; focus (wtm_at "ev")))
local macro_rules | `(tactic| wtm_at "if") => `(tactic| (refine' st_seq (st_if ?_ ?_ ?_); focus (wtm_at "ev")))
local macro_rules | `(tactic| wtm_at "if1") => `(tactic| (refine' st_if ?_ ?_ ?_; focus (wtm_at "ev")))

/-! printed by gen.py from law_k10_whole_tower -/
def top (i : Nat) : Stmt := PySem.Challenge.pw_knell_k10_whole_tower.main.body.getD i (.Pass ⟨0, 0, 0, 0⟩)
/-! Clash.__init__: 0 self, 1 first, 2 second, 3 divisor -/
abbrev s_C_init : Stmt := inClass (top 7) 0
theorem sc_C_init : FnScope ["self", "first", "second", "divisor"] ["self", "first", "second", "divisor"] (defScope s_C_init) := ⟨rfl, rfl, rfl, by decide +kernel, rfl, by decide +kernel, by decide +kernel⟩
def d_C_init : He.DefD := ⟨("Clash", some "__init__"), "__init__", "Clash.__init__", defArgs s_C_init, defBody s_C_init, defScope s_C_init, [], []⟩
/-! beat: 0 first, 1 gap -/
abbrev s_beat : Stmt := top 9
theorem sc_beat : FnScope ["first", "gap"] ["first", "gap"] (defScope s_beat) := ⟨rfl, rfl, rfl, by decide +kernel, rfl, by decide +kernel, by decide +kernel⟩
def d_beat : He.DefD := ⟨("beat", none), "beat", "beat", defArgs s_beat, defBody s_beat, defScope s_beat, [], []⟩
/-! rings: 0 one, 1 moment -/
abbrev s_rings : Stmt := top 10
theorem sc_rings : FnScope ["one", "moment"] ["one", "moment"] (defScope s_rings) := ⟨rfl, rfl, rfl, by decide +kernel, rfl, by decide +kernel, by decide +kernel⟩
def d_rings : He.DefD := ⟨("rings", none), "rings", "rings", defArgs s_rings, defBody s_rings, defScope s_rings, [], []⟩
/-! next_from: 0 one, 1 moment -/
abbrev s_next_from : Stmt := top 11
theorem sc_next_from : FnScope ["one", "moment"] ["one", "moment"] (defScope s_next_from) := ⟨rfl, rfl, rfl, by decide +kernel, rfl, by decide +kernel, by decide +kernel⟩
def d_next_from : He.DefD := ⟨("next_from", none), "next_from", "next_from", defArgs s_next_from, defBody s_next_from, defScope s_next_from, [], []⟩
/-! weights: 0 one, 1 other, 2 here, 3 u, 4 v, 5 there, 6 other_u, 7 other_v, 8 by -/
abbrev s_weights : Stmt := top 13
theorem sc_weights : FnScope ["one", "other", "here", "u", "v", "there", "other_u", "other_v", "by"] ["one", "other"] (defScope s_weights) := ⟨rfl, rfl, rfl, by decide +kernel, rfl, by decide +kernel, by decide +kernel⟩
def d_weights : He.DefD := ⟨("weights", none), "weights", "weights", defArgs s_weights, defBody s_weights, defScope s_weights, [], []⟩
/-! clash: 0 one, 1 other, 2 divisor -/
abbrev s_clash : Stmt := top 15
theorem sc_clash : FnScope ["one", "other", "divisor"] ["one", "other"] (defScope s_clash) := ⟨rfl, rfl, rfl, by decide +kernel, rfl, by decide +kernel, by decide +kernel⟩
def d_clash : He.DefD := ⟨("clash", none), "clash", "clash", defArgs s_clash, defBody s_clash, defScope s_clash, [], []⟩
/-! met: 0 one, 1 other, 2 divisor, 3 u, 4 v, 5 first -/
abbrev s_met : Stmt := top 16
theorem sc_met : FnScope ["one", "other", "divisor", "u", "v", "first"] ["one", "other"] (defScope s_met) := ⟨rfl, rfl, rfl, by decide +kernel, rfl, by decide +kernel, by decide +kernel⟩
def d_met : He.DefD := ⟨("met", none), "met", "met", defArgs s_met, defBody s_met, defScope s_met, [], []⟩
/-! smaller: 0 parts, 1 beats, 2 gap', 3 small, 4 total, 5 part, 6 one -/
abbrev s_smaller : Stmt := top 17
theorem sc_smaller : FnScope ["parts", "beats", "gap", "small", "total", "part", "one"] ["parts", "beats", "gap"] (defScope s_smaller) := ⟨rfl, rfl, rfl, by decide +kernel, rfl, by decide +kernel, by decide +kernel⟩
def d_smaller : He.DefD := ⟨("smaller", none), "smaller", "smaller", defArgs s_smaller, defBody s_smaller, defScope s_smaller, [], []⟩
/-! first_clash: 0 beats, 1 number, 2 ahead -/
abbrev s_first_clash : Stmt := top 18
theorem sc_first_clash : FnScope ["beats", "number", "ahead"] ["beats", "number"] (defScope s_first_clash) := ⟨rfl, rfl, rfl, by decide +kernel, rfl, by decide +kernel, by decide +kernel⟩
def d_first_clash : He.DefD := ⟨("first_clash", none), "first_clash", "first_clash", defArgs s_first_clash, defBody s_first_clash, defScope s_first_clash, [], []⟩
/-! together: 0 beats, 1 whole, 2 parts, 3 number, 4 one, 5 common, 6 divisor, 7 u, 8 v', 9 part -/
abbrev s_together : Stmt := top 19
theorem sc_together : FnScope ["beats", "whole", "parts", "number", "one", "common", "divisor", "u", "v", "part"] ["beats"] (defScope s_together) := ⟨rfl, rfl, rfl, by decide +kernel, rfl, by decide +kernel, by decide +kernel⟩
def d_together : He.DefD := ⟨("together", none), "together", "together", defArgs s_together, defBody s_together, defScope s_together, [], []⟩
/-! Tower.__init__: 0 self -/
abbrev s_T_init : Stmt := inClass (top 21) 0
theorem sc_T_init : FnScope ["self"] ["self"] (defScope s_T_init) := ⟨rfl, rfl, rfl, by decide +kernel, rfl, by decide +kernel, by decide +kernel⟩
def d_T_init : He.DefD := ⟨("Tower", some "__init__"), "__init__", "Tower.__init__", defArgs s_T_init, defBody s_T_init, defScope s_T_init, [], []⟩
/-! Tower.hang: 0 self, 1 name, 2 first, 3 gap -/
abbrev s_T_hang : Stmt := inClass (top 21) 1
theorem sc_T_hang : FnScope ["self", "name", "first", "gap"] ["self", "name", "first", "gap"] (defScope s_T_hang) := ⟨rfl, rfl, rfl, by decide +kernel, rfl, by decide +kernel, by decide +kernel⟩
def d_T_hang : He.DefD := ⟨("Tower", some "hang"), "hang", "Tower.hang", defArgs s_T_hang, defBody s_T_hang, defScope s_T_hang, [.int 24], []⟩
/-! Tower.take: 0 self, 1 name -/
abbrev s_T_take : Stmt := inClass (top 21) 2
theorem sc_T_take : FnScope ["self", "name"] ["self", "name"] (defScope s_T_take) := ⟨rfl, rfl, rfl, by decide +kernel, rfl, by decide +kernel, by decide +kernel⟩
def d_T_take : He.DefD := ⟨("Tower", some "take"), "take", "Tower.take", defArgs s_T_take, defBody s_T_take, defScope s_T_take, [], []⟩
/-! Tower.bells: 0 self, 1 name, 2 one -/
abbrev s_T_bells : Stmt := inClass (top 21) 3
theorem sc_T_bells : FnScope ["self", "name", "one"] ["self"] (defScope s_T_bells) := ⟨rfl, rfl, rfl, by decide +kernel, rfl, by decide +kernel, by decide +kernel⟩
def d_T_bells : He.DefD := ⟨("Tower", some "bells"), "bells", "Tower.bells", defArgs s_T_bells, defBody s_T_bells, defScope s_T_bells, [], []⟩
/-! Tower.next_together: 0 self, 1 moment, 2 names, 3 told, 4 name, 5 one -/
abbrev s_T_next_together : Stmt := inClass (top 21) 4
theorem sc_T_next_together : FnScope ["self", "moment", "names", "told", "name", "one"] ["self", "moment"] (defScope s_T_next_together) := ⟨rfl, rfl, rfl, by decide +kernel, rfl, by decide +kernel, by decide +kernel⟩
def d_T_next_together : He.DefD := ⟨("Tower", some "next_together"), "next_together", "Tower.next_together", defArgs s_T_next_together, defBody s_T_next_together, defScope s_T_next_together, [.int 0], []⟩
/-! Tower.next_any: 0 self, 1 moment', 2 soonest', 3 name, 4 one -/
abbrev s_T_next_any : Stmt := inClass (top 21) 5
theorem sc_T_next_any : FnScope ["self", "moment", "soonest", "name", "one"] ["self", "moment"] (defScope s_T_next_any) := ⟨rfl, rfl, rfl, by decide +kernel, rfl, by decide +kernel, by decide +kernel⟩
def d_T_next_any : He.DefD := ⟨("Tower", some "next_any"), "next_any", "Tower.next_any", defArgs s_T_next_any, defBody s_T_next_any, defScope s_T_next_any, [.int 0], []⟩
/-! _law_cell_at: 0 _law_script, 1 _law_k -/
abbrev s_l_cell_at : Stmt := top 23
theorem sc_l_cell_at : FnScope ["_law_script", "_law_k"] ["_law_script", "_law_k"] (defScope s_l_cell_at) := ⟨rfl, rfl, rfl, by decide +kernel, rfl, by decide +kernel, by decide +kernel⟩
def d_l_cell_at : He.DefD := ⟨("_law_cell_at", none), "_law_cell_at", "_law_cell_at", defArgs s_l_cell_at, defBody s_l_cell_at, defScope s_l_cell_at, [], []⟩
/-! _law_whole: 0 _law_found -/
abbrev s_l_whole : Stmt := top 24
theorem sc_l_whole : FnScope ["_law_found"] ["_law_found"] (defScope s_l_whole) := ⟨rfl, rfl, rfl, by decide +kernel, rfl, by decide +kernel, by decide +kernel⟩
def d_l_whole : He.DefD := ⟨("_law_whole", none), "_law_whole", "_law_whole", defArgs s_l_whole, defBody s_l_whole, defScope s_l_whole, [], []⟩
/-! _law_divisor: 0 _law_one, 1 _law_other -/
abbrev s_l_divisor : Stmt := top 25
theorem sc_l_divisor : FnScope ["_law_one", "_law_other"] ["_law_one", "_law_other"] (defScope s_l_divisor) := ⟨rfl, rfl, rfl, by decide +kernel, rfl, by decide +kernel, by decide +kernel⟩
def d_l_divisor : He.DefD := ⟨("_law_divisor", none), "_law_divisor", "_law_divisor", defArgs s_l_divisor, defBody s_l_divisor, defScope s_l_divisor, [], []⟩
/-! _law_names: 0 _law_cell, 1 _law_letters, 2 _law_base', 3 _law_k, 4 _law_at', 5 _law_names_here, 6 _law_more, 7 _law_name_here, 8 _law_other, 9 _law_sign -/
abbrev s_l_names : Stmt := top 26
theorem sc_l_names : FnScope ["_law_cell", "_law_letters", "_law_base", "_law_k", "_law_at", "_law_names_here", "_law_more", "_law_name_here", "_law_other", "_law_sign"] ["_law_cell"] (defScope s_l_names) := ⟨rfl, rfl, rfl, by decide +kernel, rfl, by decide +kernel, by decide +kernel⟩
def d_l_names : He.DefD := ⟨("_law_names", none), "_law_names", "_law_names", defArgs s_l_names, defBody s_l_names, defScope s_l_names, [], []⟩
/-! _law_name: 0 _law_row, 1 _law_names_here, 2 _law_number, 3 _law_share -/
abbrev s_l_name : Stmt := top 27
theorem sc_l_name : FnScope ["_law_row", "_law_names_here", "_law_number", "_law_share"] ["_law_row", "_law_names_here", "_law_number", "_law_share"] (defScope s_l_name) := ⟨rfl, rfl, rfl, by decide +kernel, rfl, by decide +kernel, by decide +kernel⟩
def d_l_name : He.DefD := ⟨("_law_name", none), "_law_name", "_law_name", defArgs s_l_name, defBody s_l_name, defScope s_l_name, [], []⟩
/-! _law_new_name: 0 _law_row, 1 _law_names_here, 2 _law_hung', 3 _law_one, 4 _law_name_here -/
abbrev s_l_new_name : Stmt := top 28
theorem sc_l_new_name : FnScope ["_law_row", "_law_names_here", "_law_hung", "_law_one", "_law_name_here"] ["_law_row", "_law_names_here"] (defScope s_l_new_name) := ⟨rfl, rfl, rfl, by decide +kernel, rfl, by decide +kernel, by decide +kernel⟩
def d_l_new_name : He.DefD := ⟨("_law_new_name", none), "_law_new_name", "_law_new_name", defArgs s_l_new_name, defBody s_l_new_name, defScope s_l_new_name, [], []⟩
/-! _law_gap: 0 _law_number, 1 _law_big, 2 _law_some -/
abbrev s_l_gap : Stmt := top 29
theorem sc_l_gap : FnScope ["_law_number", "_law_big", "_law_some"] ["_law_number"] (defScope s_l_gap) := ⟨rfl, rfl, rfl, by decide +kernel, rfl, by decide +kernel, by decide +kernel⟩
def d_l_gap : He.DefD := ⟨("_law_gap", none), "_law_gap", "_law_gap", defArgs s_l_gap, defBody s_l_gap, defScope s_l_gap, [], []⟩
/-! _law_kinds: 0 _law_e, 1 _law_kinds_here -/
abbrev s_l_kinds : Stmt := top 30
theorem sc_l_kinds : FnScope ["_law_e", "_law_kinds_here"] ["_law_e"] (defScope s_l_kinds) := ⟨rfl, rfl, rfl, by decide +kernel, rfl, by decide +kernel, by decide +kernel⟩
def d_l_kinds : He.DefD := ⟨("_law_kinds", none), "_law_kinds", "_law_kinds", defArgs s_l_kinds, defBody s_l_kinds, defScope s_l_kinds, [], []⟩
/-! _law_kindsT: 0 _law_e, 1 _law_kinds_here -/
abbrev s_l_kindsT : Stmt := top 30
theorem sc_l_kindsT : FnScope ["_law_e", "_law_kinds_here"] ["_law_e"] (defScope s_l_kindsT) := ⟨rfl, rfl, rfl, by decide +kernel, rfl, by decide +kernel, by decide +kernel⟩
def d_l_kindsT : He.DefD := ⟨("_law_kinds", none), "_law_kinds", "_law_kinds", defArgs s_l_kindsT, defBody s_l_kindsT, defScope s_l_kindsT, [], []⟩
/-! _law_only: 0 _law_place', 1 _law_k -/
abbrev s_l_only : Stmt := top 31
theorem sc_l_only : FnScope ["_law_place", "_law_k"] ["_law_place"] (defScope s_l_only) := ⟨rfl, rfl, rfl, by decide +kernel, rfl, by decide +kernel, by decide +kernel⟩
def d_l_only : He.DefD := ⟨("_law_only", none), "_law_only", "_law_only", defArgs s_l_only, defBody s_l_only, defScope s_l_only, [], []⟩
/-! _law_fields: 0 _law_e -/
abbrev s_l_fields : Stmt := top 32
theorem sc_l_fields : FnScope ["_law_e"] ["_law_e"] (defScope s_l_fields) := ⟨rfl, rfl, rfl, by decide +kernel, rfl, by decide +kernel, by decide +kernel⟩
def d_l_fields : He.DefD := ⟨("_law_fields", none), "_law_fields", "_law_fields", defArgs s_l_fields, defBody s_l_fields, defScope s_l_fields, [], []⟩
/-! _law_fieldsT: 0 _law_e -/
abbrev s_l_fieldsT : Stmt := top 32
theorem sc_l_fieldsT : FnScope ["_law_e"] ["_law_e"] (defScope s_l_fieldsT) := ⟨rfl, rfl, rfl, by decide +kernel, rfl, by decide +kernel, by decide +kernel⟩
def d_l_fieldsT : He.DefD := ⟨("_law_fields", none), "_law_fields", "_law_fields", defArgs s_l_fieldsT, defBody s_l_fieldsT, defScope s_l_fieldsT, [], []⟩
/-! _law_hang: 0 _law_tower, 1 _law_row, 2 _law_name_here, 3 _law_first, 4 _law_wide, 5 _law_plain, 6 _law_kinds_here, 7 _law_told, 8 _law_e, 9 _law_one -/
abbrev s_l_hang : Stmt := top 33
theorem sc_l_hang : FnScope ["_law_tower", "_law_row", "_law_name_here", "_law_first", "_law_wide", "_law_plain", "_law_kinds_here", "_law_told", "_law_e", "_law_one"] ["_law_tower", "_law_row", "_law_name_here", "_law_first", "_law_wide", "_law_plain"] (defScope s_l_hang) := ⟨rfl, rfl, rfl, by decide +kernel, rfl, by decide +kernel, by decide +kernel⟩
def d_l_hang : He.DefD := ⟨("_law_hang", none), "_law_hang", "_law_hang", defArgs s_l_hang, defBody s_l_hang, defScope s_l_hang, [], []⟩
/-! _law_is_beat: 0 _law_found, 1 _law_due -/
abbrev s_l_is_beat : Stmt := top 34
theorem sc_l_is_beat : FnScope ["_law_found", "_law_due"] ["_law_found", "_law_due"] (defScope s_l_is_beat) := ⟨rfl, rfl, rfl, by decide +kernel, rfl, by decide +kernel, by decide +kernel⟩
def d_l_is_beat : He.DefD := ⟨("_law_is_beat", none), "_law_is_beat", "_law_is_beat", defArgs s_l_is_beat, defBody s_l_is_beat, defScope s_l_is_beat, [], []⟩
/-! _law_take: 0 _law_tower, 1 _law_row', 2 _law_clean, 3 _law_name_here', 4 _law_kinds_here, 5 _law_told, 6 _law_e, 7 _law_places, 8 _law_due, 9 _law_k -/
abbrev s_l_take : Stmt := top 35
theorem sc_l_take : FnScope ["_law_tower", "_law_row", "_law_clean", "_law_name_here", "_law_kinds_here", "_law_told", "_law_e", "_law_places", "_law_due", "_law_k"] ["_law_tower", "_law_row", "_law_clean", "_law_name_here"] (defScope s_l_take) := ⟨rfl, rfl, rfl, by decide +kernel, rfl, by decide +kernel, by decide +kernel⟩
def d_l_take : He.DefD := ⟨("_law_take", none), "_law_take", "_law_take", defArgs s_l_take, defBody s_l_take, defScope s_l_take, [], []⟩
/-! _law_trouble: 0 _law_row, 1 _law_clean, 2 _law_name_here, 3 _law_one, 4 _law_k, 5 _law_divisor_here -/
abbrev s_l_trouble : Stmt := top 36
theorem sc_l_trouble : FnScope ["_law_row", "_law_clean", "_law_name_here", "_law_one", "_law_k", "_law_divisor_here"] ["_law_row", "_law_clean"] (defScope s_l_trouble) := ⟨rfl, rfl, rfl, by decide +kernel, rfl, by decide +kernel, by decide +kernel⟩
def d_l_trouble : He.DefD := ⟨("_law_trouble", none), "_law_trouble", "_law_trouble", defArgs s_l_trouble, defBody s_l_trouble, defScope s_l_trouble, [], []⟩
/-! _law_asked: 0 _law_tower, 1 _law_begin, 2 _law_plain, 3 _law_all_bells -/
abbrev s_l_asked : Stmt := top 37
theorem sc_l_asked : FnScope ["_law_tower", "_law_begin", "_law_plain", "_law_all_bells"] ["_law_tower", "_law_begin", "_law_plain", "_law_all_bells"] (defScope s_l_asked) := ⟨rfl, rfl, rfl, by decide +kernel, rfl, by decide +kernel, by decide +kernel⟩
def d_l_asked : He.DefD := ⟨("_law_asked", none), "_law_asked", "_law_asked", defArgs s_l_asked, defBody s_l_asked, defScope s_l_asked, [], []⟩
/-! _law_all_ring: 0 _law_tower, 1 _law_row, 2 _law_clean, 3 _law_begin, 4 _law_plain, 5 _law_kinds_here, 6 _law_fields_here, 7 _law_told, 8 _law_e, 9 _law_trouble_here, 10 _law_wide, 11 _law_name_here, 12 _law_one -/
abbrev s_l_all_ring : Stmt := top 38
theorem sc_l_all_ring : FnScope ["_law_tower", "_law_row", "_law_clean", "_law_begin", "_law_plain", "_law_kinds_here", "_law_fields_here", "_law_told", "_law_e", "_law_trouble_here", "_law_wide", "_law_name_here", "_law_one"] ["_law_tower", "_law_row", "_law_clean", "_law_begin", "_law_plain"] (defScope s_l_all_ring) := ⟨rfl, rfl, rfl, by decide +kernel, rfl, by decide +kernel, by decide +kernel⟩
def d_l_all_ring : He.DefD := ⟨("_law_all_ring", none), "_law_all_ring", "_law_all_ring", defArgs s_l_all_ring, defBody s_l_all_ring, defScope s_l_all_ring, [], []⟩
/-! _law_some_ring: 0 _law_tower, 1 _law_row, 2 _law_begin, 3 _law_plain, 4 _law_held, 5 _law_emptied, 6 _law_kinds_here, 7 _law_told', 8 _law_e, 9 _law_name_here, 10 _law_one, 11 _law_due -/
abbrev s_l_some_ring : Stmt := top 39
theorem sc_l_some_ring : FnScope ["_law_tower", "_law_row", "_law_begin", "_law_plain", "_law_held", "_law_emptied", "_law_kinds_here", "_law_told", "_law_e", "_law_name_here", "_law_one", "_law_due"] ["_law_tower", "_law_row", "_law_begin", "_law_plain", "_law_held", "_law_emptied"] (defScope s_l_some_ring) := ⟨rfl, rfl, rfl, by decide +kernel, rfl, by decide +kernel, by decide +kernel⟩
def d_l_some_ring : He.DefD := ⟨("_law_some_ring", none), "_law_some_ring", "_law_some_ring", defArgs s_l_some_ring, defBody s_l_some_ring, defScope s_l_some_ring, [], []⟩
/-! _law_bells: 0 _law_tower, 1 _law_row, 2 _law_held, 3 _law_emptied, 4 _law_found, 5 _law_k, 6 _law_due -/
abbrev s_l_bells : Stmt := top 40
theorem sc_l_bells : FnScope ["_law_tower", "_law_row", "_law_held", "_law_emptied", "_law_found", "_law_k", "_law_due"] ["_law_tower", "_law_row", "_law_held", "_law_emptied"] (defScope s_l_bells) := ⟨rfl, rfl, rfl, by decide +kernel, rfl, by decide +kernel, by decide +kernel⟩
def d_l_bells : He.DefD := ⟨("_law_bells", none), "_law_bells", "_law_bells", defArgs s_l_bells, defBody s_l_bells, defScope s_l_bells, [], []⟩
/-! _law_done: 0 _law_tower, 1 _law_row, 2 _law_clean, 3 _law_names_here, 4 _law_cell, 5 _law_script, 6 _law_held, 7 _law_way, 8 _law_number, 9 _law_begin, 10 _law_plain, 11 _law_wide, 12 _law_mixed, 13 _law_first -/
abbrev s_l_done : Stmt := top 41
theorem sc_l_done : FnScope ["_law_tower", "_law_row", "_law_clean", "_law_names_here", "_law_cell", "_law_script", "_law_held", "_law_way", "_law_number", "_law_begin", "_law_plain", "_law_wide", "_law_mixed", "_law_first"] ["_law_tower", "_law_row", "_law_clean", "_law_names_here", "_law_cell", "_law_script", "_law_held"] (defScope s_l_done) := ⟨rfl, rfl, rfl, by decide +kernel, rfl, by decide +kernel, by decide +kernel⟩
def d_l_done : He.DefD := ⟨("_law_done", none), "_law_done", "_law_done", defArgs s_l_done, defBody s_l_done, defScope s_l_done, [], []⟩
/-! _law_made_good: 0 _law_tower, 1 _law_row, 2 _law_clean, 3 _law_names_here, 4 _law_begin, 5 _law_held, 6 _law_k, 7 _law_trouble_here, 8 _law_name_here -/
abbrev s_l_made_good : Stmt := top 42
theorem sc_l_made_good : FnScope ["_law_tower", "_law_row", "_law_clean", "_law_names_here", "_law_begin", "_law_held", "_law_k", "_law_trouble_here", "_law_name_here"] ["_law_tower", "_law_row", "_law_clean", "_law_names_here", "_law_begin", "_law_held"] (defScope s_l_made_good) := ⟨rfl, rfl, rfl, by decide +kernel, rfl, by decide +kernel, by decide +kernel⟩
def d_l_made_good : He.DefD := ⟨("_law_made_good", none), "_law_made_good", "_law_made_good", defArgs s_l_made_good, defBody s_l_made_good, defScope s_l_made_good, [], []⟩
/-! _law_clash_made: 0 _law_names_here, 1 _law_cell, 2 _law_e -/
abbrev s_l_clash_made : Stmt := top 43
theorem sc_l_clash_made : FnScope ["_law_names_here", "_law_cell", "_law_e"] ["_law_names_here", "_law_cell"] (defScope s_l_clash_made) := ⟨rfl, rfl, rfl, by decide +kernel, rfl, by decide +kernel, by decide +kernel⟩
def d_l_clash_made : He.DefD := ⟨("_law_clash_made", none), "_law_clash_made", "_law_clash_made", defArgs s_l_clash_made, defBody s_l_clash_made, defScope s_l_clash_made, [], []⟩
/-! law: 0 _law_script, 1 _law_names_here, 2 _law_towers, 3 _law_rows, 4 _law_cleans, 5 _law_held, 6 _law_cell, 7 _law_at, 8 _law_begin, 9 _law_found, 10 _law_due -/
abbrev s_law : Stmt := top 44
theorem sc_law : FnScope ["_law_script", "_law_names_here", "_law_towers", "_law_rows", "_law_cleans", "_law_held", "_law_cell", "_law_at", "_law_begin", "_law_found", "_law_due"] ["_law_script"] (defScope s_law) := ⟨rfl, rfl, rfl, by decide +kernel, rfl, by decide +kernel, by decide +kernel⟩
def d_law : He.DefD := ⟨("law", none), "law", "law", defArgs s_law, defBody s_law, defScope s_law, [], []⟩
def fn : List He.DefD := [d_C_init, d_beat, d_rings, d_next_from, d_weights, d_clash, d_met, d_smaller, d_first_clash, d_together, d_T_init, d_T_hang, d_T_take, d_T_bells, d_T_next_together, d_T_next_any, d_l_cell_at, d_l_whole, d_l_divisor, d_l_names, d_l_name, d_l_new_name, d_l_gap, d_l_kinds, d_l_kindsT, d_l_only, d_l_fields, d_l_fieldsT, d_l_hang, d_l_is_beat, d_l_take, d_l_trouble, d_l_asked, d_l_all_ring, d_l_some_ring, d_l_bells, d_l_done, d_l_made_good, d_l_clash_made, d_law]
def fa : List He.Fa := [.glo "Clash", .glo "beat", .glo "rings", .glo "next_from", .glo "weights", .glo "clash", .glo "met", .glo "smaller", .glo "first_clash", .glo "together", .glo "Tower", .cls "Tower", .mkr "Tower", .meth "Tower" "hang", .meth "Tower" "take", .meth "Tower" "bells", .meth "Tower" "next_together", .meth "Tower" "next_any", .glo "_law_cell_at", .glo "_law_whole", .glo "_law_divisor", .glo "_law_names", .glo "_law_name", .glo "_law_new_name", .glo "_law_gap", .glo "_law_kinds", .glo "_law_only", .glo "_law_fields", .noat "Clash" "divisor", .noat "Clash" "first", .noat "Clash" "second", .glo "_law_hang", .glo "_law_is_beat", .glo "_law_take", .glo "_law_trouble", .glo "_law_asked", .glo "_law_all_ring", .glo "_law_some_ring", .glo "_law_bells", .glo "_law_done", .glo "_law_made_good", .glo "_law_clash_made", .glo "law", .glo "NoBeat", .exc "NoBeat", .free "sum", .free "zip", .free "enumerate", .glo "Twice", .exc "Twice", .glo "NoName", .exc "NoName", .free "len", .free "min", .glo "NoBell", .exc "NoBell", .free "bool", .free "int", .free "isinstance", .free "range", .free "ValueError", .glo "TooMany", .glo "KnellError", .free "tuple", .free "str", .free "list"]
def exs : List Str := ["NoBeat", "NoBell", "NoName", "Twice"]
def eys : List Str := ["Clash", "NoBeat", "NoBell", "NoName", "TooMany", "Twice"]
def exK : PySem.W.Frag → Bool := fun K => exB exs eys K && (clB K "Clash" && (excXB K "Clash" && (kitVB K "Clash" "ValueError" true && (exmPB K "Clash" "KnellError" true && (eys.all (fun y => kitPB K "Clash" y (y == "Clash" || y == "KnellError")) && (((He.Fa.cls "Tower").ok K && (He.Fa.noat "Tower" "hung").ok K) && ((He.Fa.noat "Clash" "first").ok K && ((He.Fa.noat "Clash" "second").ok K && (He.Fa.noat "Clash" "divisor").ok K))))))))
theorem exK_cl {K : PySem.W.Frag} (h : exK K = true) : ClOk K "Clash" := clB_ok (He.ba (He.ba h).2).1

theorem cut_ints (ns : List Int) (i j : Nat) : cutD (ns.map D.int) (some (i : Int)) (some (j : Int)) = ((ns.drop (min i ns.length)).take (min j ns.length - min i ns.length)).map D.int := by
  unfold cutD
  rw [HT.sIx_nat, HT.sIx_nat, List.length_map, List.map_take, List.map_drop]
theorem mem_ints {ns : List Int} {x : D} (h : x ∈ ns.map D.int) : ∃ c : Int, x = .int c := by
  obtain ⟨c, _, rfl⟩ := List.mem_map.mp h
  exact ⟨c, rfl⟩
theorem get_ints {ns : List Int} {i : Nat} {x : D} (h : (ns.map D.int)[i]? = some x) : ∃ c : Int, x = .int c := mem_ints (List.mem_of_getElem? h)
/-- rings at a moment, told in two ways -/
theorem due_iff {m f g : Int} : decide (m % g = f % g) = decide ((m - f) % g = 0) := by
  rw [Bool.eq_iff_iff, decide_eq_true_iff, decide_eq_true_iff]
  exact Int.emod_eq_emod_iff_emod_sub_eq_zero

/-! ### what together tells, in plain numbers -/
theorem w_lin' (a c : Int) : wU a c * a + wV a c * c = gcI a c := w_lin a c
theorem dist {a c g x : Int} (ha : 0 < a) (h1 : gcI a g ∣ x) (h2 : gcI c g ∣ x) : gcI (cmG a c) g ∣ x := by
  have hp := gcI_pos (h := c) ha
  obtain ⟨a', ea⟩ := gcI_l a c
  obtain ⟨c', ec⟩ := gcI_r a c
  have m1 : cmG a c = a' * c := by
    unfold cmG
    conv => lhs; arg 1; arg 1; rw [ea]
    rw [Int.mul_ediv_cancel_left a' (show gcI a c ≠ 0 by omega)]
  have m2 : cmG a c = c' * a := by
    rw [m1]
    conv => lhs; rw [ec]
    conv => rhs; rw [ea]
    rw [Int.mul_left_comm, Int.mul_left_comm c', Int.mul_comm a' c']
  have lin : wU a c * a' + wV a c * c' = 1 := by
    have h := w_lin' a c
    have e : (wU a c * a' + wV a c * c') * gcI a c = 1 * gcI a c := by
      rw [Int.one_mul, Int.add_mul, Int.mul_assoc, Int.mul_assoc, Int.mul_comm a', Int.mul_comm c', ← ea, ← ec]
      exact h
    exact Int.eq_of_mul_eq_mul_right (show gcI a c ≠ 0 by omega) e
  have part : ∀ {b q y : Int}, cmG a c = q * b → gcI b g ∣ y → gcI (cmG a c) g ∣ q * y := by
    intro b q y hm hd
    obtain ⟨t, ht⟩ := hd
    have e : q * y = cmG a c * (wU b g * t) + g * (q * wV b g * t) := by
      rw [ht, ← w_lin' b g, hm, Int.add_mul, Int.mul_add]
      congr 1
      · rw [Int.mul_assoc, Int.mul_assoc, Int.mul_left_comm (wU b g)]
      · rw [Int.mul_right_comm (wV b g) g t, ← Int.mul_assoc, ← Int.mul_assoc, Int.mul_comm (q * wV b g * t) g]
    rw [e]
    exact Int.dvd_add (Int.dvd_trans (gcI_l _ _) ⟨_, rfl⟩) (Int.dvd_trans (gcI_r _ _) ⟨_, rfl⟩)
  have d1 := part m1 h2
  have d2 := part m2 h1
  have e : x = wU a c * (a' * x) + wV a c * (c' * x) := by
    rw [← Int.mul_assoc, ← Int.mul_assoc, ← Int.add_mul, lin, Int.one_mul]
  rw [e]
  exact Int.dvd_add (Int.dvd_trans d1 ⟨_, Int.mul_comm _ _⟩) (Int.dvd_trans d2 ⟨_, Int.mul_comm _ _⟩)
def wstep (w b : Int × Int) : Int × Int := (cmR w.1 w.2 b.1 b.2, cmG w.2 b.2)
def wholeS (bs : Bs2) : Int × Int := bs.foldl wstep (0, 1)
theorem wholeS_snoc (bs : Bs2) (b : Int × Int) : wholeS (bs ++ [b]) = wstep (wholeS bs) b := by
  unfold wholeS
  rw [List.foldl_append] <;> rfl
theorem take_snoc {α : Type} {bs : List α} {i : Nat} {b : α} (h : bs[i]? = some b) : bs.take (i + 1) = bs.take i ++ [b] := by
  rw [List.take_add_one, h] <;> rfl
/-- the beat with place i does not clash with what all ahead have in common -/
def NC (bs : Bs2) (i : Nat) : Prop := ∀ b, bs[i]? = some b → gcI (wholeS (bs.take i)).2 b.2 ∣ b.1 - (wholeS (bs.take i)).1
structure WOk (bs : Bs2) (c : Nat) : Prop where
  p : ∀ b ∈ bs, 0 < b.2 ∧ Sm c b.2 ∧ 0 ≤ b.1 ∧ b.1 < b.2
  n : bs.length ≤ 60
  s : c * bs.length ≤ 7000
  c : c ≤ 200
structure WJ2 (bs : Bs2) (c i : Nat) : Prop where
  g0 : 0 < (wholeS (bs.take i)).2
  r0 : 0 ≤ (wholeS (bs.take i)).1
  r1 : (wholeS (bs.take i)).1 < (wholeS (bs.take i)).2
  sg : Sm (c * i + 1) (wholeS (bs.take i)).2
  iff : ∀ m, (wholeS (bs.take i)).2 ∣ m - (wholeS (bs.take i)).1 ↔ ∀ b ∈ bs.take i, b.2 ∣ m - b.1
  all : ∀ b ∈ bs.take i, b.2 ∣ (wholeS (bs.take i)).2 ∧ b.2 ∣ (wholeS (bs.take i)).1 - b.1
theorem wj2 {bs : Bs2} {c : Nat} (W : WOk bs c) : ∀ i, i ≤ bs.length → (∀ k, k < i → NC bs k) → WJ2 bs c i
  | 0, _, _ => by
    have e : wholeS (bs.take 0) = (0, 1) := rfl
    refine ⟨by rw [e]; decide, by rw [e]; decide, by rw [e]; decide, by rw [e]; exact Sm.lit (by rw [Nat.mul_zero]; decide), fun m => ?_, fun b hb => by simp at hb⟩
    rw [e]
    exact ⟨fun _ b hb => by simp at hb, fun _ => Int.one_dvd _⟩
  | i + 1, hi, hc => by
    have J := wj2 W i (by omega) (fun k hk => hc k (by omega))
    have hx : bs[i]? = some bs[i] := List.getElem?_eq_getElem hi
    obtain ⟨p1, p2, p3, p4⟩ := W.p bs[i] (List.getElem_mem hi)
    have nc := hc i (by omega) _ hx
    generalize bs[i] = b at hx p1 p2 p3 p4 nc
    have hl := cmR_lt (r := (wholeS (bs.take i)).1) (s := b.1) J.g0 p1
    have e : wholeS (bs.take (i + 1)) = (cmR (wholeS (bs.take i)).1 (wholeS (bs.take i)).2 b.1 b.2, cmG (wholeS (bs.take i)).2 b.2) := by
      rw [take_snoc hx, wholeS_snoc] <;> rfl
    have it : ∀ m, (wholeS (bs.take (i + 1))).2 ∣ m - (wholeS (bs.take (i + 1))).1 ↔ ∀ b ∈ bs.take (i + 1), b.2 ∣ m - b.1 := fun m => by
      rw [e, take_snoc hx]
      show cmG _ _ ∣ m - cmR _ _ _ _ ↔ _
      rw [cm_iff J.g0 nc, J.iff m]
      constructor
      · rintro ⟨h1, h2⟩ d hd
        rcases List.mem_append.mp hd with hd | hd
        · exact h1 d hd
        · rw [List.mem_singleton] at hd
          subst hd
          exact h2
      · intro h
        exact ⟨fun d hd => h d (List.mem_append_left _ hd), h b (List.mem_append_right _ (List.mem_singleton.mpr rfl))⟩
    refine ⟨by rw [e]; exact cmG_pos J.g0 p1, by rw [e]; exact hl.1, by rw [e]; exact hl.2, by rw [e]; exact (sm_cmG J.g0 p1 J.sg p2).mono (by rw [Nat.mul_add]; omega), it, fun d hd => ?_⟩
    have h2 := (it (wholeS (bs.take (i + 1))).1).mp (by rw [Int.sub_self]; exact Int.dvd_zero _) d hd
    refine ⟨?_, h2⟩
    rw [e]
    rw [take_snoc hx] at hd
    rcases List.mem_append.mp hd with hd | hd
    · exact Int.dvd_trans (J.all d hd).1 cmG_l
    · rw [List.mem_singleton] at hd
      subst hd
      exact cmG_r
/-- where no two clash the whole does not clash -/
theorem nc_pairs {bs : Bs2} {c i : Nat} {b : Int × Int} (W : WOk bs c) : ∀ j, j ≤ bs.length → (∀ k, k < j → NC bs k) → (∀ d ∈ bs.take j, gcI d.2 b.2 ∣ b.1 - d.1) → gcI (wholeS (bs.take j)).2 b.2 ∣ b.1 - (wholeS (bs.take j)).1
  | 0, _, _, _ => by
    have e : wholeS (bs.take 0) = (0, 1) := rfl
    rw [e]
    exact Int.dvd_trans (gcI_l 1 b.2) (Int.one_dvd _)
  | j + 1, hj, hc, hd => by
    have ih := nc_pairs (i := i) (b := b) W j (by omega) (fun k hk => hc k (by omega)) (fun d h => hd d (by
      rw [take_snoc (List.getElem?_eq_getElem hj)]
      exact List.mem_append_left _ h))
    have J := wj2 W j (by omega) (fun k hk => hc k (by omega))
    have hx : bs[j]? = some bs[j] := List.getElem?_eq_getElem hj
    obtain ⟨p1, p2, p3, p4⟩ := W.p bs[j] (List.getElem_mem hj)
    have nc := hc j (by omega) _ hx
    have h1 := hd bs[j] (by rw [take_snoc hx]; exact List.mem_append_right _ (List.mem_singleton.mpr rfl))
    rw [take_snoc hx, wholeS_snoc]
    generalize bs[j] = d at *
    show gcI (cmG _ _) b.2 ∣ b.1 - cmR _ _ _ _
    have c1 := cmR_l (r := (wholeS (bs.take j)).1) (g := (wholeS (bs.take j)).2) (s := d.1) (h := d.2)
    have c2 := cmR_r (h := d.2) nc
    refine dist J.g0 ?_ ?_
    · have := Int.dvd_sub ih (Int.dvd_trans (gcI_l _ b.2) c1)
      rwa [show b.1 - (wholeS (bs.take j)).1 - (cmR (wholeS (bs.take j)).1 (wholeS (bs.take j)).2 d.1 d.2 - (wholeS (bs.take j)).1) = b.1 - cmR (wholeS (bs.take j)).1 (wholeS (bs.take j)).2 d.1 d.2 by omega] at this
    · have := Int.dvd_sub h1 (Int.dvd_trans (gcI_l _ b.2) c2)
      rwa [show b.1 - d.1 - (cmR (wholeS (bs.take j)).1 (wholeS (bs.take j)).2 d.1 d.2 - d.1) = b.1 - cmR (wholeS (bs.take j)).1 (wholeS (bs.take j)).2 d.1 d.2 by omega] at this
/-- the first that clashes with a beat -/
structure FC (bs : Bs2) (i a : Nat) : Prop where
  lt : a < i
  le : i < bs.length
  no : ∀ j d b, j < a → bs[j]? = some d → bs[i]? = some b → (b.1 - d.1) % gcI d.2 b.2 = 0
  cl : ∀ d b, bs[a]? = some d → bs[i]? = some b → (b.1 - d.1) % gcI d.2 b.2 ≠ 0
theorem least_of (p : Nat → Prop) : ∀ n, (∃ j, j < n ∧ p j) → ∃ a, a < n ∧ p a ∧ ∀ j, j < a → ¬ p j
  | 0, ⟨_, h, _⟩ => by omega
  | n + 1, ⟨j, hj, pj⟩ => by
    by_cases h : ∃ j, j < n ∧ p j
    · obtain ⟨a, h1, h2, h3⟩ := least_of p n h
      exact ⟨a, by omega, h2, h3⟩
    · have : j = n := by
        rcases Nat.lt_or_ge j n with z | z
        · exact absurd ⟨j, z, pj⟩ h
        · omega
      subst this
      exact ⟨j, by omega, pj, fun k hk pk => h ⟨k, hk, pk⟩⟩
theorem fc_of {bs : Bs2} {c i : Nat} (W : WOk bs c) (hi : i < bs.length) (hc : ∀ k, k < i → NC bs k) (hn : ¬ NC bs i) : ∃ a, FC bs i a := by
  have hx : bs[i]? = some bs[i] := List.getElem?_eq_getElem hi
  have ex : ∃ j, j < i ∧ (fun j => ∃ d, bs[j]? = some d ∧ ¬ gcI d.2 bs[i].2 ∣ bs[i].1 - d.1) j := by
    apply Classical.byContradiction
    intro no
    refine hn fun b hb => ?_
    rw [hx] at hb
    cases hb
    refine nc_pairs (i := i) W i (by omega) hc fun d hd => ?_
    apply Classical.byContradiction
    intro z
    obtain ⟨j, hj, e⟩ := List.mem_iff_getElem.mp hd
    rw [List.length_take] at hj
    refine no ⟨j, by omega, d, ?_, z⟩
    rw [List.getElem_take] at e
    rw [List.getElem?_eq_getElem (by omega), e]
  obtain ⟨a, h1, ⟨d, h2, h3⟩, h4⟩ := least_of _ i ex
  refine ⟨a, h1, hi, fun j e b hj he hb => ?_, fun e b he hb => ?_⟩
  · rw [hx] at hb
    cases hb
    apply Classical.byContradiction
    intro z
    exact h4 j hj ⟨e, he, fun q => z (mod0.mpr q)⟩
  · rw [hx] at hb
    rw [h2] at he
    cases hb
    cases he
    exact fun q => h3 (mod0.mp q)
/-! weights of beats -/
def wsum (P : List Int) (bs : Bs2) (g : Int) : Int := ((P.zip bs).map fun p => p.1 * (g / p.2.2)).sum
theorem wsum_cons (p : Int) (P : List Int) (b : Int × Int) (bs : Bs2) (g : Int) : wsum (p :: P) (b :: bs) g = p * (g / b.2) + wsum P bs g := by
  unfold wsum
  rw [List.zip_cons_cons, List.map_cons, List.sum_cons]
theorem wsum_mul {v k G : Int} : ∀ (P : List Int) (bs : Bs2), (∀ b ∈ bs, b.2 ∣ G) → wsum (P.map (· * v)) bs (G * k) = wsum P bs G * (v * k)
  | [], bs, _ => by
    show (0 : Int) = 0 * _
    rw [Int.zero_mul]
  | p :: P, [], _ => by
    show (0 : Int) = 0 * _
    rw [Int.zero_mul]
  | p :: P, b :: bs, h => by
    rw [List.map_cons, wsum_cons, wsum_cons, wsum_mul P bs (fun d hd => h d (List.mem_cons_of_mem _ hd)), Int.add_mul]
    congr 1
    have hb := h b List.mem_cons_self
    rw [Int.mul_comm G k, Int.mul_ediv_assoc k hb]
    ac_rfl
theorem wsum_snoc {u G : Int} {b : Int × Int} : ∀ (P : List Int) (bs : Bs2), P.length = bs.length → wsum (P ++ [u]) (bs ++ [b]) G = wsum P bs G + u * (G / b.2)
  | [], [], _ => by
    show wsum [u] [b] G = wsum [] [] G + _
    rw [wsum_cons]
    show _ + 0 = 0 + _
    omega
  | p :: P, d :: bs, h => by
    show wsum (p :: (P ++ [u])) (d :: (bs ++ [b])) G = wsum (p :: P) (d :: bs) G + _
    rw [wsum_cons, wsum_cons, wsum_snoc P bs (by simpa using h)]
    omega
def smallS (P : List Int) (bs : Bs2) : List Int := (P.zip bs).map fun p => p.1 % p.2.2
theorem wsum_small {G : Int} : ∀ (P : List Int) (bs : Bs2), (∀ b ∈ bs, b.2 ∣ G) → ∃ q, wsum (smallS P bs) bs G = wsum P bs G - q * G
  | [], bs, _ => ⟨0, by show (0 : Int) = 0 - 0 * G; omega⟩
  | p :: P, [], _ => ⟨0, by show (0 : Int) = 0 - 0 * G; omega⟩
  | p :: P, b :: bs, h => by
    obtain ⟨q, hq⟩ := wsum_small P bs (fun d hd => h d (List.mem_cons_of_mem _ hd))
    refine ⟨q + p / b.2, ?_⟩
    have e : smallS (p :: P) (b :: bs) = p % b.2 :: smallS P bs := rfl
    rw [e, wsum_cons, wsum_cons, hq]
    have hb := h b List.mem_cons_self
    have e1 : p = p % b.2 + b.2 * (p / b.2) := (Int.emod_add_mul_ediv p b.2).symm
    have e2 : p * (G / b.2) = p % b.2 * (G / b.2) + p / b.2 * G := by
      conv => lhs; rw [e1]
      rw [Int.add_mul]
      congr 1
      rw [Int.mul_comm b.2, Int.mul_assoc, Int.mul_ediv_cancel' hb]
    rw [e2, Int.add_mul]
    omega
def fitS (P : List Int) (bs : Bs2) (G : Int) : List Int := match smallS P bs, bs with
  | s :: ss, b :: _ => (s - (wsum (smallS P bs) bs G - 1) / G * b.2) :: ss
  | ss, _ => ss
theorem wsum_fit {P : List Int} {bs : Bs2} {G : Int} (hG : 0 < G) (hP : P ≠ []) (hb : bs ≠ []) (hd : ∀ b ∈ bs, b.2 ∣ G) (h1 : wsum P bs G = 1) : wsum (fitS P bs G) bs G = 1 := by
  obtain ⟨q, hq⟩ := wsum_small P bs hd
  have ht : (wsum (smallS P bs) bs G - 1) / G * G = wsum (smallS P bs) bs G - 1 := by
    refine Int.ediv_mul_cancel ⟨-q, ?_⟩
    rw [hq, h1, Int.mul_neg, Int.mul_comm G]
    omega
  match P, bs, hP, hb with
  | p :: P, b :: bs, _, _ =>
    have e : smallS (p :: P) (b :: bs) = p % b.2 :: smallS P bs := rfl
    rw [e] at ht
    show wsum ((p % b.2 - (wsum (p % b.2 :: smallS P bs) (b :: bs) G - 1) / G * b.2) :: smallS P bs) (b :: bs) G = 1
    generalize ht2 : (wsum (p % b.2 :: smallS P bs) (b :: bs) G - 1) / G = t at ht
    rw [wsum_cons] at ht ⊢
    have hb := hd b List.mem_cons_self
    rw [Int.sub_mul, Int.mul_assoc, Int.mul_ediv_cancel' hb]
    omega
theorem zip_take : ∀ (P : List Int) (bs : Bs2), P.zip bs = P.zip (bs.take P.length)
  | [], _ => rfl
  | _ :: _, [] => rfl
  | p :: P, b :: bs => by
    rw [List.length_cons, List.take_succ_cons, List.zip_cons_cons, List.zip_cons_cons, ← zip_take P bs]
theorem wsum_take (P : List Int) (bs : Bs2) (G : Int) : wsum P bs G = wsum P (bs.take P.length) G := by
  unfold wsum
  rw [← zip_take]
theorem small_take (P : List Int) (bs : Bs2) : smallS P bs = smallS P (bs.take P.length) := by
  unfold smallS
  rw [← zip_take]
theorem small_len (P : List Int) (bs : Bs2) : (smallS P bs).length = min P.length bs.length := by
  unfold smallS
  rw [List.length_map, List.length_zip]
theorem fit_take (P : List Int) (bs : Bs2) (G : Int) (h : P.length ≤ bs.length) : fitS P bs G = fitS P (bs.take P.length) G := by
  match P, bs, h with
  | [], [], _ => rfl
  | [], _ :: _, _ => rfl
  | p :: P, b :: bs, h =>
    have e1 := small_take (p :: P) (b :: bs)
    have l1 := small_len (p :: P) (b :: bs)
    have e2 := wsum_take (smallS (p :: P) (b :: bs)) (b :: bs) G
    rw [l1, Nat.min_eq_left h] at e2
    rw [List.length_cons, List.take_succ_cons] at *
    show ((p % b.2 - (wsum (smallS (p :: P) (b :: bs)) (b :: bs) G - 1) / G * b.2) :: smallS P bs) = ((p % b.2 - (wsum (smallS (p :: P) (b :: bs.take P.length)) (b :: bs.take P.length) G - 1) / G * b.2) :: smallS P (bs.take P.length))
    rw [e2, e1]
    congr 1
    exact small_take P bs
theorem fit_len (P : List Int) (bs : Bs2) (G : Int) (h : P.length ≤ bs.length) : (fitS P bs G).length = P.length := by
  match P, bs, h with
  | [], [], _ => rfl
  | [], _ :: _, _ => rfl
  | p :: P, b :: bs, h =>
    show (smallS P bs).length + 1 = P.length + 1
    rw [small_len, Nat.min_eq_left (by simpa using h)]
theorem sm_list {n : Nat} : ∀ (xs : List Int), (∀ x ∈ xs, Sm n x) → Sm (n + xs.length) xs.sum
  | [], _ => by
    show Sm n 0
    exact Nat.two_pow_pos n
  | x :: xs, h => by
    rw [List.sum_cons]
    exact ((h x List.mem_cons_self).mono (Nat.le_add_right n xs.length)).add (sm_list xs (fun y hy => h y (List.mem_cons_of_mem _ hy)))
theorem sm_mod {n : Nat} {a g : Int} (h : 0 < g) (s : Sm n g) : Sm n (a % g) := s.le (by
  have := Int.emod_nonneg a (show g ≠ 0 by omega)
  have := Int.emod_lt_of_pos a h
  omega)
theorem sm_small {P : List Int} {bs : Bs2} (h : ∀ b ∈ bs, 0 < b.2 ∧ Sm 200 b.2) : ∀ a ∈ smallS P bs, Sm 200 a := fun a ha => by
  obtain ⟨p, hp, rfl⟩ := List.mem_map.mp ha
  obtain ⟨h1, h2⟩ := h p.2 (List.of_mem_zip hp).2
  exact sm_mod h1 h2
theorem sm_total {P : List Int} {bs : Bs2} {G : Int} (h : ∀ b ∈ bs, 0 < b.2 ∧ Sm 200 b.2) (sp : ∀ a ∈ P, Sm 200 a) (hn : P.length ≤ 60) (sG : Sm 7100 G) : Sm 7400 (wsum P bs G) := by
  have := sm_list (n := 7300) ((P.zip bs).map fun p => p.1 * (G / p.2.2)) (fun x hx => by
    obtain ⟨p, hp, rfl⟩ := List.mem_map.mp hx
    exact ((sp p.1 (List.of_mem_zip hp).1).mul (sm_div (b := p.2.2) sG)).mono (by decide))
  refine this.mono ?_
  rw [List.length_map, List.length_zip]
  omega
theorem sm_fit {P : List Int} {bs : Bs2} {G : Int} (h : ∀ b ∈ bs, 0 < b.2 ∧ Sm 200 b.2) (hn : P.length ≤ 60) (sG : Sm 7100 G) : ∀ a ∈ fitS P bs G, Sm 9000 a := by
  match P, bs with
  | [], [] => exact fun a ha => nomatch ha
  | [], _ :: _ => exact fun a ha => nomatch ha
  | _ :: _, [] => exact fun a ha => nomatch ha
  | p :: P, b :: bs =>
    obtain ⟨h1, h2⟩ := h b List.mem_cons_self
    have ss := sm_small (P := p :: P) h
    intro a ha
    have ha' : a ∈ (p % b.2 - (wsum (smallS (p :: P) (b :: bs)) (b :: bs) G - 1) / G * b.2) :: smallS P bs := ha
    rcases List.mem_cons.mp ha' with rfl | ha'
    · have st := sm_total (G := G) h ss (by rw [small_len]; omega) sG
      have s1 : Sm 8000 (p % b.2) := (sm_mod (a := p) h1 h2).mono (by decide)
      have s2 : Sm 8000 ((wsum (smallS (p :: P) (b :: bs)) (b :: bs) G - 1) / G * b.2) := ((sm_div (b := G) (st.sub ((Sm.lit (n := 7400) (i := 1) (by decide +kernel))))).mul h2).mono (by decide)
      exact (s1.sub s2).mono (by decide)
    · exact (ss a (List.mem_cons_of_mem _ ha')).mono (by decide)
/-- the weights of the first ones -/
def partsS (bs : Bs2) : Nat → List Int
  | 0 => []
  | i + 1 => if i = 0 then [1] else fitS ((partsS bs i).map (· * wV (wholeS (bs.take i)).2 (bs.getD i (0, 1)).2) ++ [wU (wholeS (bs.take i)).2 (bs.getD i (0, 1)).2]) bs (wholeS (bs.take (i + 1))).2
theorem partsS_succ (bs : Bs2) (i : Nat) : partsS bs (i + 1) = if i = 0 then [1] else fitS ((partsS bs i).map (· * wV (wholeS (bs.take i)).2 (bs.getD i (0, 1)).2) ++ [wU (wholeS (bs.take i)).2 (bs.getD i (0, 1)).2]) bs (wholeS (bs.take (i + 1))).2 := rfl
structure PJ (bs : Bs2) (i : Nat) : Prop where
  len : (partsS bs i).length = i
  sm : ∀ a ∈ partsS bs i, Sm 9000 a
  one : 0 < i → wsum (partsS bs i) (bs.take i) (wholeS (bs.take i)).2 = 1
theorem pj {bs : Bs2} {c : Nat} (W : WOk bs c) : ∀ i, i ≤ bs.length → (∀ k, k < i → NC bs k) → PJ bs i
  | 0, _, _ => ⟨rfl, fun a ha => (nomatch ha), fun h => absurd h (by decide)⟩
  | i + 1, hi, hc => by
    have I := pj W i (by omega) (fun k hk => hc k (by omega))
    have J := wj2 W i (by omega) (fun k hk => hc k (by omega))
    have J2 := wj2 W (i + 1) hi hc
    have hx : bs[i]? = some bs[i] := List.getElem?_eq_getElem hi
    have W' : ∀ b ∈ bs, 0 < b.2 ∧ Sm 200 b.2 := fun b hb => ⟨(W.p b hb).1, (W.p b hb).2.1.mono W.c⟩
    obtain ⟨p1, p2⟩ := W' bs[i] (List.getElem_mem hi)
    have gd : bs.getD i (0, 1) = bs[i] := by rw [List.getD_eq_getElem?_getD, hx] <;> rfl
    have hcs : c * (i + 1) ≤ c * bs.length := Nat.mul_le_mul_left c hi
    have sG : Sm 7100 (wholeS (bs.take (i + 1))).2 := J2.sg.mono (by have := W.s; omega)
    have eG : (wholeS (bs.take (i + 1))).2 = cmG (wholeS (bs.take i)).2 bs[i].2 := by
      rw [take_snoc hx, wholeS_snoc] <;> rfl
    by_cases h0 : i = 0
    · subst h0
      have e : partsS bs 1 = [1] := rfl
      refine ⟨by rw [e] <;> rfl, fun a ha => ?_, fun _ => ?_⟩
      · rw [e, List.mem_singleton] at ha
        subst ha
        exact Sm.lit (by decide +kernel)
      · rw [e, eG, take_snoc hx]
        show wsum [1] [bs[0]] _ = 1
        rw [wsum_cons]
        show 1 * (cmG 1 bs[0].2 / bs[0].2) + 0 = 1
        have : cmG 1 bs[0].2 = bs[0].2 := by
          have e1 : gcI 1 bs[0].2 = 1 := by
            have := Int.le_of_dvd (by decide) (gcI_l 1 bs[0].2)
            have := gcI_pos (h := bs[0].2) (show (0 : Int) < 1 by decide)
            omega
          unfold cmG
          rw [e1, Int.ediv_self (by decide), Int.one_mul]
        rw [this, Int.ediv_self (by omega)] <;> rfl
    · have eP : partsS bs (i + 1) = fitS ((partsS bs i).map (· * wV (wholeS (bs.take i)).2 bs[i].2) ++ [wU (wholeS (bs.take i)).2 bs[i].2]) bs (wholeS (bs.take (i + 1))).2 := by
        rw [partsS_succ, if_neg h0, gd]
      have le1 : ((partsS bs i).map (· * wV (wholeS (bs.take i)).2 bs[i].2) ++ [wU (wholeS (bs.take i)).2 bs[i].2]).length = i + 1 := by
        rw [List.length_append, List.length_map, I.len] <;> rfl
      have hlt : ((partsS bs i).map (· * wV (wholeS (bs.take i)).2 bs[i].2) ++ [wU (wholeS (bs.take i)).2 bs[i].2]).length ≤ bs.length := by omega
      refine ⟨by rw [eP, fit_len _ _ _ hlt, le1], by rw [eP]; exact sm_fit W' (by have := W.n; omega) sG, fun _ => ?_⟩
      rw [eP, fit_take _ _ _ hlt, le1]
      refine wsum_fit J2.g0 (by simp) (fun z => by
        have := congrArg List.length z
        rw [List.length_take] at this
        simp only [List.length_nil] at this
        omega) (fun b hb => (J2.all b hb).1) ?_
      rw [take_snoc hx, wsum_snoc _ _ (by rw [List.length_map, I.len, List.length_take]; omega), wholeS_snoc]
      show wsum _ _ (cmG (wholeS (bs.take i)).2 bs[i].2) + _ * (cmG (wholeS (bs.take i)).2 bs[i].2 / _) = 1
      have one := I.one (by omega)
      have dv : ∀ b ∈ bs.take i, b.2 ∣ (wholeS (bs.take i)).2 := fun b hb => (J.all b hb).1
      have g0 := J.g0
      generalize (wholeS (bs.take i)).2 = G at one dv g0
      generalize bs[i].2 = g at p1
      obtain ⟨k, hk⟩ := cmG_l (g := G) (h := g)
      obtain ⟨l, hl⟩ := cmG_r (g := G) (h := g)
      have hp := gcI_pos (h := g) g0
      have hm := cmG_mul (h := g) g0
      have lin := w_lin' G g
      conv => lhs; arg 1; rw [hk]
      rw [wsum_mul _ _ dv, one, hl, Int.mul_ediv_cancel_left l (show g ≠ 0 by omega), Int.one_mul]
      have k1 : k * gcI G g = g := Int.eq_of_mul_eq_mul_left (show G ≠ 0 by omega) (by rw [← hm, hk, Int.mul_assoc])
      have l1 : l * gcI G g = G := Int.eq_of_mul_eq_mul_left (show g ≠ 0 by omega) (by rw [← Int.mul_assoc, ← hl, hm, Int.mul_comm])
      refine Int.eq_of_mul_eq_mul_right (show gcI G g ≠ 0 by omega) ?_
      rw [Int.add_mul, Int.mul_assoc, k1, Int.mul_assoc, l1, Int.one_mul, Int.add_comm]
      exact lin
theorem ixN_zero (n : Nat) : ixN (n + 1) 0 = some 0 := by
  unfold ixN
  rw [if_pos (by decide), if_pos (by omega)] <;> rfl

theorem exK_cf {K : PySem.W.Frag} (h : exK K = true) : NoAttr K (He.ga K "Clash") "first" ∧ NoAttr K (He.ga K "Clash") "second" ∧ NoAttr K (He.ga K "Clash") "divisor" := by
  have h1 := (He.ba (He.ba (He.ba (He.ba (He.ba (He.ba (He.ba h).2).2).2).2).2).2).2
  exact ⟨He.noat_ok (He.ba h1).1, He.noat_ok (He.ba (He.ba h1).2).1, He.noat_ok (He.ba (He.ba h1).2).2⟩
abbrev clF (x y : Str) (n : Int) : List (Str × V) := [("divisor", .int n), ("second", .str y), ("first", .str x)]
theorem upd_last {μ : Mu} {a dd : Addr} {o e1 e2 e3 : MC} (h : dd ≠ a) : updM (updM (updM (updM μ dd e1) a o) dd e2) dd e3 = updM (updM μ dd e3) a o := by
  funext z
  by_cases h1 : z = dd
  · subst h1
    rw [updM_same, updM_ne h, updM_same]
  · rw [updM_ne h1, updM_ne h1]
    by_cases h2 : z = a
    · subst h2
      rw [updM_same, updM_same]
    · rw [updM_ne h2, updM_ne h2, updM_ne h1, updM_ne h1]
def R_C_init (K : PySem.W.Frag) : RM := fun ds μ P X => ∃ (a : Addr) (x y : Str) (n : Int), ds = [.obj (.ref a), .str x, .str y, .int n] ∧ μ a = some (.raw (exo a (He.ga K "Clash") none)) ∧ ∀ d μ', MadeO μ a (He.ga K "Clash") (clF x y n) d μ' → P d μ'
theorem len_C_init {K : PySem.W.Frag} : ∀ ds μ P X, R_C_init K ds μ P X → ds.length = 4 := by
  rintro ds μ P X ⟨_, _, _, _, rfl, _⟩
  rfl

def R_beat (K : PySem.W.Frag) : List D → Out → Prop := fun ds o => ∃ f g : Int, ds = [.int f, .int g] ∧ ((0 < g ∧ o = .ret (.tup [.int (f % g), .int g])) ∨ (g < 1 ∧ o = .exc (.ref (He.ga K "NoBeat"))))
theorem r_beat {K : PySem.W.Frag} {f g : Int} (h : 0 < g) : R_beat K [.int f, .int g] (.ret (.tup [.int (f % g), .int g])) := ⟨f, g, rfl, .inl ⟨h, rfl⟩⟩
theorem r_beatX {K : PySem.W.Frag} {f g : Int} (h : g < 1) : R_beat K [.int f, .int g] (.exc (.ref (He.ga K "NoBeat"))) := ⟨f, g, rfl, .inr ⟨h, rfl⟩⟩
theorem len_beat {K : PySem.W.Frag} : ∀ ds o, R_beat K ds o → ds.length = 2 := by
  rintro ds o ⟨_, _, rfl, _⟩
  rfl
local macro_rules | `(tactic| wtm_at "call") => `(tactic| with_reducible refine' r_beat ?_)

def R_rings : List D → Out → Prop := fun ds o => ∃ (r g m : Int), ds = [.tup [.int r, .int g], .int m] ∧ 0 < g ∧ o = .ret (.bl (decide (m % g = r)))
theorem r_rings {r g m : Int} (h0 : 0 < g) : R_rings [.tup [.int r, .int g], .int m] (.ret (.bl (decide (m % g = r)))) := ⟨r, g, m, rfl, h0, rfl⟩
theorem len_rings : ∀ ds o, R_rings ds o → ds.length = 2 := by
  rintro ds o ⟨_, _, _, rfl, _⟩
  rfl
local macro_rules | `(tactic| wtm_at "call") => `(tactic| with_reducible refine' r_rings ?_)

def R_next_from : List D → Out → Prop := fun ds o => ∃ (r g m : Int), ds = [.tup [.int r, .int g], .int m] ∧ 0 < g ∧ o = .ret (.int (m + (r - m) % g))
theorem r_next_from {r g m : Int} (h0 : 0 < g) : R_next_from [.tup [.int r, .int g], .int m] (.ret (.int (m + (r - m) % g))) := ⟨r, g, m, rfl, h0, rfl⟩
theorem len_next_from : ∀ ds o, R_next_from ds o → ds.length = 2 := by
  rintro ds o ⟨_, _, _, rfl, _⟩
  rfl
local macro_rules | `(tactic| wtm_at "call") => `(tactic| with_reducible refine' r_next_from ?_)

def R_weights : List D → Out → Prop := fun ds o => ∃ a c : Int, ds = [.int a, .int c] ∧ Sm 8000 a ∧ Sm 8000 c ∧ o = .ret (.tup [.int (Int.gcd a c), .int (wU a c), .int (wV a c)])
theorem r_weights {a c : Int} (ha : Sm 8000 a) (hc : Sm 8000 c) : R_weights [.int a, .int c] (.ret (.tup [.int (Int.gcd a c), .int (wU a c), .int (wV a c)])) := ⟨a, c, rfl, ha, hc, rfl⟩
theorem len_weights : ∀ ds o, R_weights ds o → ds.length = 2 := by
  rintro ds o ⟨a, c, rfl, _⟩
  rfl
local macro_rules | `(tactic| wtm_at "call") => `(tactic| with_reducible refine' r_weights ?_ ?_)

def R_clash : List D → Out → Prop := fun ds o => ∃ (r g s h : Int), ds = [.tup [.int r, .int g], .tup [.int s, .int h]] ∧ 0 < g ∧ 0 < h ∧ Sm 8000 g ∧ Sm 8000 h ∧ o = .ret (clD r g s h)
theorem r_clash {r g s h : Int} (h0 : 0 < g) (h1 : 0 < h) (h2 : Sm 8000 g) (h3 : Sm 8000 h) : R_clash [.tup [.int r, .int g], .tup [.int s, .int h]] (.ret (clD r g s h)) := ⟨r, g, s, h, rfl, h0, h1, h2, h3, rfl⟩
theorem len_clash : ∀ ds o, R_clash ds o → ds.length = 2 := by
  rintro ds o ⟨_, _, _, _, rfl, _⟩
  rfl
local macro_rules | `(tactic| wtm_at "call") => `(tactic| with_reducible refine' r_clash ?_ ?_ ?_ ?_)

def R_met : List D → Out → Prop := fun ds o => ∃ (r g s h : Int), ds = [.tup [.int r, .int g], .tup [.int s, .int h]] ∧ 0 < g ∧ 0 < h ∧ Sm 8000 g ∧ Sm 8000 h ∧ Sm 8000 r ∧ Sm 8000 s ∧ o = .ret (metD r g s h)
theorem r_met {r g s h : Int} (h0 : 0 < g) (h1 : 0 < h) (h2 : Sm 8000 g) (h3 : Sm 8000 h) (h4 : Sm 8000 r) (h5 : Sm 8000 s) : R_met [.tup [.int r, .int g], .tup [.int s, .int h]] (.ret (metD r g s h)) := ⟨r, g, s, h, rfl, h0, h1, h2, h3, h4, h5, rfl⟩
theorem len_met : ∀ ds o, R_met ds o → ds.length = 2 := by
  rintro ds o ⟨_, _, _, _, rfl, _⟩
  rfl
local macro_rules | `(tactic| wtm_at "call") => `(tactic| with_reducible refine' r_met ?_ ?_ ?_ ?_ ?_ ?_)

def tupF (i j : Nat) : D → Rho → Rho := fun d r => match d with
  | .tup [x, y] => (r.set i (some (.dat x))).set j (some (.dat y))
  | _ => r
def R_smaller : List D → Out → Prop := fun ds o => ∃ (P : List Int) (bs : Bs2) (G : Int), ds = [.lst (P.map D.int), LB bs, .int G] ∧ P ≠ [] ∧ bs ≠ [] ∧ P.length ≤ bs.length ∧ bs.length ≤ 60 ∧ (∀ b ∈ bs, 0 < b.2 ∧ Sm 200 b.2) ∧ 0 < G ∧ Sm 7100 G ∧ o = .ret (.lst ((fitS P bs G).map D.int))
theorem r_smaller {P : List Int} {bs : Bs2} {G : Int} (h0 : P ≠ []) (h1 : bs ≠ []) (h2 : P.length ≤ bs.length) (h3 : bs.length ≤ 60) (h4 : (∀ b ∈ bs, 0 < b.2 ∧ Sm 200 b.2)) (h5 : 0 < G) (h6 : Sm 7100 G) : R_smaller [.lst (P.map D.int), LB bs, .int G] (.ret (.lst ((fitS P bs G).map D.int))) := ⟨P, bs, G, rfl, h0, h1, h2, h3, h4, h5, h6, rfl⟩
theorem len_smaller : ∀ ds o, R_smaller ds o → ds.length = 3 := by
  rintro ds o ⟨_, _, _, rfl, _⟩
  rfl
local macro_rules | `(tactic| wtm_at "call") => `(tactic| with_reducible refine' r_smaller ?_ ?_ ?_ ?_ ?_ ?_ ?_)

def clT (bs : Bs2) (a i : Nat) : D := .tup [.str "clash", .int (a : Nat), .int (i : Nat), .int (gcI (bs.getD a (0, 1)).2 (bs.getD i (0, 1)).2)]
def R_first_clash : List D → Out → Prop := fun ds o => ∃ (bs : Bs2) (c i a : Nat), ds = [LB bs, .int (i : Nat)] ∧ WOk bs c ∧ FC bs i a ∧ o = .ret (clT bs a i)
theorem r_first_clash {bs : Bs2} {c i a : Nat} (h0 : WOk bs c) (h1 : FC bs i a) : R_first_clash [LB bs, .int (i : Nat)] (.ret (clT bs a i)) := ⟨bs, c, i, a, rfl, h0, h1, rfl⟩
theorem len_first_clash : ∀ ds o, R_first_clash ds o → ds.length = 2 := by
  rintro ds o ⟨_, _, _, _, rfl, _⟩
  rfl
local macro_rules | `(tactic| wtm_at "call") => `(tactic| with_reducible refine' r_first_clash ?_ ?_)

def R_together : List D → Out → Prop := fun ds o => ∃ (bs : Bs2) (c : Nat), ds = [LB bs] ∧ WOk bs c ∧ (((∀ k, k < bs.length → NC bs k) ∧ o = .ret (.tup [.str "beat", Bt (wholeS bs).1 (wholeS bs).2, .lst ((partsS bs bs.length).map D.int)])) ∨
  ∃ i a : Nat, (∀ k, k < i → NC bs k) ∧ ¬ NC bs i ∧ FC bs i a ∧ o = .ret (clT bs a i))
theorem len_together : ∀ ds o, R_together ds o → ds.length = 1 := by
  rintro ds o ⟨_, _, rfl, _⟩
  rfl

theorem exK_tw {K : PySem.W.Frag} (h : exK K = true) : Cls K (He.ga K "Tower") ∧ NoAttr K (He.ga K "Tower") "hung" := by
  have h1 := (He.ba (He.ba (He.ba (He.ba (He.ba (He.ba (He.ba h).2).2).2).2).2).2).1
  exact ⟨He.cls_ok (He.ba h1).1, He.noat_ok (He.ba h1).2⟩
/-- a tower, just made -/
def R_T_init (K : PySem.W.Frag) : RM := fun ds μ P X => ∃ (x dx : Addr), ds = [.obj (.ref x)] ∧ μ x = some (.raw (.ins (He.ga K "Tower") dx [])) ∧ ∀ p, μ p = none → p ≠ x → P .non (updM (updM μ p (.dct [])) x (.raw (.ins (He.ga K "Tower") dx [("hung", .ref p)])))
theorem len_T_init {K : PySem.W.Frag} : ∀ ds μ P X, R_T_init K ds μ P X → ds.length = 1 := by
  rintro ds μ P X ⟨_, _, rfl, _⟩
  rfl

/-- a tower that holds kvs in a dict at d -/
def Tw (K : PySem.W.Frag) (μ : Mu) (T d dx : Addr) (kvs : Kvs) : Prop := μ T = some (.raw (.ins (He.ga K "Tower") dx [("hung", .ref d)])) ∧ μ d = some (.dct kvs)
def R_T_hang (K : PySem.W.Frag) : RM := fun ds μ P X => ∃ (T d dx : Addr) (kvs : Kvs) (s : Str) (m g : Int), ds = [.obj (.ref T), .str s, .int m, .int g] ∧ Tw K μ T d dx kvs ∧ kvs.length < 1000 ∧
  ((valD kvs s).isSome = true → X (.ref (He.ga K "Twice")) none μ) ∧ (valD kvs s = none → g < 1 → X (.ref (He.ga K "NoBeat")) none μ) ∧ (valD kvs s = none → 0 < g → P .non (updM μ d (.dct (kvs ++ [(s, (m % g, g))]))))
theorem len_T_hang {K : PySem.W.Frag} : ∀ ds μ P X, R_T_hang K ds μ P X → ds.length = 4 := by
  rintro ds μ P X ⟨_, _, _, _, _, _, _, rfl, _⟩
  rfl

def R_T_take (K : PySem.W.Frag) : RM := fun ds μ P X => ∃ (T d dx : Addr) (kvs : Kvs) (s : Str), ds = [.obj (.ref T), .str s] ∧ Tw K μ T d dx kvs ∧
  (valD kvs s = none → X (.ref (He.ga K "NoName")) none μ) ∧ (∀ bb, valD kvs s = some bb → P (bD bb) (updM μ d (.dct (kvs.filter fun p => decide (p.1 ≠ s)))))
theorem len_T_take {K : PySem.W.Frag} : ∀ ds μ P X, R_T_take K ds μ P X → ds.length = 2 := by
  rintro ds μ P X ⟨_, _, _, _, _, rfl, _⟩
  rfl

def R_T_bells (K : PySem.W.Frag) : RM := fun ds μ P X => ∃ (T d dx : Addr) (kvs : Kvs), ds = [.obj (.ref T)] ∧ Tw K μ T d dx kvs ∧ kvs.length ≤ 1000 ∧ ∀ p, μ p = none → P (.obj (.ref p)) (updM μ p (.lst (kvs.map rowD)))
theorem len_T_bells {K : PySem.W.Frag} : ∀ ds μ P X, R_T_bells K ds μ P X → ds.length = 1 := by
  rintro ds μ P X ⟨_, _, _, _, rfl, _⟩
  rfl

abbrev bsF' (kvs : Kvs) : Bs2 := kvs.map (·.2)
def nxF (b : Int × Int) (m : Int) : Int := m + (b.1 - m) % b.2
def R_T_next_together (K : PySem.W.Frag) : RM := fun ds μ P X => ∃ (T d dx : Addr) (kvs : Kvs) (m : Int) (c : Nat), ds = [.obj (.ref T), .int m] ∧ Tw K μ T d dx kvs ∧ WOk (bsF' kvs) c ∧
  ((∀ k, k < (bsF' kvs).length → NC (bsF' kvs) k) → ∀ μ', Chg μ μ' [] → P (.int (nxF (wholeS (bsF' kvs)) m)) μ') ∧
  (∀ (i a : Nat) (x y : Str) (u v : Int × Int), (∀ k, k < i → NC (bsF' kvs) k) → ¬ NC (bsF' kvs) i → FC (bsF' kvs) i a → kvs[a]? = some (x, u) → kvs[i]? = some (y, v) → ∀ (dd : Addr) (μ' : Mu), Chg μ μ' [] → μ' dd = some (.raw (.xd (clF x y (gcI u.2 v.2)))) → X (.ref (He.ga K "Clash")) (some dd) μ')
theorem len_T_next_together {K : PySem.W.Frag} : ∀ ds μ P X, R_T_next_together K ds μ P X → ds.length = 2 := by
  rintro ds μ P X ⟨_, _, _, _, _, _, rfl, _⟩
  rfl

def R_T_next_any (K : PySem.W.Frag) : RM := fun ds μ P X => ∃ (T d dx : Addr) (kvs : Kvs) (m : Int), ds = [.obj (.ref T), .int m] ∧ Tw K μ T d dx kvs ∧ kvs.length ≤ 1000 ∧ (∀ p ∈ kvs, 0 < p.2.2) ∧
  (kvs = [] → X (.ref (He.ga K "NoBell")) none μ) ∧
  (∀ s : Int, (∃ p ∈ kvs, s = nxF p.2 m) → (∀ p ∈ kvs, s ≤ nxF p.2 m) → ∀ (p : Addr) (μ' : Mu), Chg μ μ' [] → μ p = none → μ' p = some (.lst ((kvs.filter fun q => decide (s % q.2.2 = q.2.1)).map fun q => .str q.1)) → P (.tup [.int s, .obj (.ref p)]) μ')
theorem len_T_next_any {K : PySem.W.Frag} : ∀ ds μ P X, R_T_next_any K ds μ P X → ds.length = 2 := by
  rintro ds μ P X ⟨_, _, _, _, _, rfl, _⟩
  rfl
theorem min_ex : ∀ ns : List Int, ns ≠ [] → ∃ m ∈ ns, ∀ y ∈ ns, m ≤ y
  | [], h => absurd rfl h
  | [a], _ => ⟨a, List.mem_singleton.mpr rfl, fun y hy => by rw [List.mem_singleton] at hy; omega⟩
  | a :: c :: ns, _ => by
    obtain ⟨m, h1, h2⟩ := min_ex (c :: ns) (by simp)
    by_cases z : a ≤ m
    · exact ⟨a, List.mem_cons_self .., fun y hy => by
        rcases List.mem_cons.mp hy with e | hy
        · omega
        · have := h2 y hy
          omega⟩
    · exact ⟨m, List.mem_cons_of_mem _ h1, fun y hy => by
        rcases List.mem_cons.mp hy with e | hy
        · omega
        · exact h2 y hy⟩

/-- the script's cell, 0 beyond -/
def cellZ (ns : List Int) (k : Int) : Int := (ns[k.toNat]?).getD 0
def R_l_cell_at : List D → Out → Prop := fun ds o => ∃ (ns : List Int) (k : Int), ds = [.fro (ns.map D.int), .int k] ∧ 0 ≤ k ∧ o = .ret (.int (cellZ ns k))
theorem r_l_cell_at {ns : List Int} {k : Int} (h : 0 ≤ k) : R_l_cell_at [.fro (ns.map D.int), .int k] (.ret (.int (cellZ ns k))) := ⟨ns, k, rfl, h, rfl⟩
theorem len_l_cell_at : ∀ ds o, R_l_cell_at ds o → ds.length = 2 := by
  rintro ds o ⟨a, c, rfl, _⟩
  rfl
local macro_rules | `(tactic| wtm_at "call") => `(tactic| with_reducible refine' r_l_cell_at ?_)

def R_l_whole : List D → Out → Prop := fun ds o => ∃ i : Int, ds = [.int i] ∧ o = .ret (.bl true)
theorem r_l_whole {i : Int} : R_l_whole [.int i] (.ret (.bl true)) := ⟨i, rfl, rfl⟩
theorem len_l_whole : ∀ ds o, R_l_whole ds o → ds.length = 1 := by
  rintro ds o ⟨i, rfl, _⟩
  rfl
local macro_rules | `(tactic| wtm_at "call") => `(tactic| with_reducible exact r_l_whole)

def R_l_divisor : List D → Out → Prop := fun ds o => ∃ (a c : Int), ds = [.int a, .int c] ∧ 0 ≤ a ∧ 0 ≤ c ∧ o = .ret (.int (gcI a c))
theorem r_l_divisor {a c : Int} (h0 : 0 ≤ a) (h1 : 0 ≤ c) : R_l_divisor [.int a, .int c] (.ret (.int (gcI a c))) := ⟨a, c, rfl, h0, h1, rfl⟩
theorem len_l_divisor : ∀ ds o, R_l_divisor ds o → ds.length = 2 := by
  rintro ds o ⟨_, _, rfl, _⟩
  rfl
local macro_rules | `(tactic| wtm_at "call") => `(tactic| with_reducible refine' r_l_divisor ?_ ?_)

def R_l_names : List D → Out → Prop := fun ds o => ∃ (c : Int), ds = [.int c] ∧ o = .ret (.lst ((namesF c).map D.str))
theorem r_l_names {c : Int} : R_l_names [.int c] (.ret (.lst ((namesF c).map D.str))) := ⟨c, rfl, rfl⟩
theorem len_l_names : ∀ ds o, R_l_names ds o → ds.length = 1 := by
  rintro ds o ⟨_, rfl, _⟩
  rfl

theorem seq_of_lst : ∀ {d : D} {ds : List D}, lstOf d = some ds → seqOf d = some ds
  | .lst _, _, h => h
  | .fro _, _, h => h
  | .lsa _ _, _, h => h
theorem lst_ok1 {α : Type} {xs : List α} {f : α → D} {i : Int} {x : α} (h0 : 0 ≤ i) (h : xs[i.toNat]? = some x) : atI (xs.map f) i = some (f x) := by
  have e : (i.toNat : Int) = i := Int.toNat_of_nonneg h0
  rw [← e]
  refine atI_nat ?_
  rw [List.getElem?_map, h] <;> rfl
def nameF (kvs : Kvs) (ss : List Str) (n sh : Int) : Option Str := if sh ≤ n % 4 ∨ kvs.length = 0 then ss[(n / 4 % (ss.length : Int)).toNat]? else (kvs[(n / 4 % (kvs.length : Int)).toNat]?).map (·.1)
def R_l_name : List D → Out → Prop := fun ds o => ∃ (d : D) (kvs : Kvs) (ss : List Str) (n sh : Int) (z : Str), ds = [d, .lst (ss.map D.str), .int n, .int sh] ∧ lstOf d = some (kvs.map rowD) ∧ kvs.length ≤ 1000 ∧ 0 < ss.length ∧ ss.length ≤ 1000 ∧ nameF kvs ss n sh = some z ∧ o = .ret (.str z)
theorem len_l_name : ∀ ds o, R_l_name ds o → ds.length = 4 := by
  rintro ds o ⟨_, _, _, _, _, _, rfl, _⟩
  rfl

def newF (kvs : Kvs) (ss : List Str) : List Str := ss.filter fun s => !decide (s ∈ kvs.map (·.1))
def R_l_new_name : List D → Out → Prop := fun ds o => ∃ (d : D) (kvs : Kvs) (ss zs : List Str) (z : Str), ds = [d, .lst (ss.map D.str)] ∧ lstOf d = some (kvs.map rowD) ∧ kvs.length ≤ 1000 ∧ ss.length ≤ 1000 ∧ newF kvs ss = z :: zs ∧ o = .ret (.str z)
theorem len_l_new_name : ∀ ds o, R_l_new_name ds o → ds.length = 2 := by
  rintro ds o ⟨_, _, _, _, _, rfl, _⟩
  rfl

def w4 (i : Int) : Int := if i = 0 then 2 else if i = 1 then 4 else if i = 2 then 8 else 3
def v4 (i : Int) : Int := if i = 0 then 1 else if i = 1 then 3 else if i = 2 then 9 else 5
def gapT (c : Int) : Int := if c % 6 = 0 then 1 + c / 6 % 12 else if c % 6 = 1 then w4 (c / 6 % 4) * v4 (c / 6 / 4 % 4) else if c % 6 = 2 then 1 + c / 6 % 1000000000 else if c % 6 = 3 then 12 * (1 + c / 6 % 1000) else if c % 6 = 4 then 24 else 0 - c / 6 % 1000000000
theorem w4_b (i : Int) : 2 ≤ w4 i ∧ w4 i ≤ 8 := by
  unfold w4
  split
  · decide
  · split
    · decide
    · split <;> decide
theorem v4_b (i : Int) : 1 ≤ v4 i ∧ v4 i ≤ 9 := by
  unfold v4
  split
  · decide
  · split
    · decide
    · split <;> decide
theorem gapT_b (c : Int) : -1000000000 ≤ gapT c ∧ gapT c ≤ 1000000000 := by
  have h1 := w4_b (c / 6 % 4)
  have h2 := v4_b (c / 6 / 4 % 4)
  have h3 : w4 (c / 6 % 4) * v4 (c / 6 / 4 % 4) ≤ 8 * 9 := Int.mul_le_mul h1.2 h2.2 (by omega) (by decide)
  have h4 : 0 ≤ w4 (c / 6 % 4) * v4 (c / 6 / 4 % 4) := Int.mul_nonneg (by omega) (by omega)
  unfold gapT
  generalize w4 (c / 6 % 4) * v4 (c / 6 / 4 % 4) = m at h3 h4 ⊢
  split
  · omega
  · split
    · omega
    · split
      · omega
      · split
        · omega
        · split <;> omega
def R_l_gap : List D → Out → Prop := fun ds o => ∃ (c : Int), ds = [.int c] ∧ o = .ret (.int (gapT c))
theorem r_l_gap {c : Int} : R_l_gap [.int c] (.ret (.int (gapT c))) := ⟨c, rfl, rfl⟩
theorem len_l_gap : ∀ ds o, R_l_gap ds o → ds.length = 1 := by
  rintro ds o ⟨_, rfl, _⟩
  rfl
local macro_rules | `(tactic| wtm_at "call") => `(tactic| with_reducible refine' r_l_gap)

def onlyD (n : Int) : D := .lst (.bl true :: (List.range 6).map fun i : Nat => .bl (decide ((i : Int) = n)))
abbrev kys : List Str := ["NoBeat", "NoBell", "TooMany", "Twice", "NoName", "Clash"]
/-- the error's class, by its place -/
structure ExIs (K : PySem.W.Frag) (D : Addr) (n : Int) : Prop where
  c : ExcC K D
  v : PySem.W.kitOne K (.ref D) (.type "ValueError") = some true
  k : ∀ (i : Nat) (y : Str), kys[i]? = some y → PySem.W.kitOne K (.ref D) (.ref (He.ga K y)) = some (decide ((i : Int) = n))
  m : PySem.W.exmOne K (.ref D) (.ref (He.ga K "KnellError")) = some true
theorem isK {K : PySem.W.Frag} (h : exK K = true) {x : Str} {j : Nat} (hx : x ∈ exs) (hs : ∀ i : Nat, i < 6 → (x == kys.getD i "" || kys.getD i "" == "KnellError") = decide ((i : Int) = (j : Int))) : ExIs K (He.ga K x) j := by
  have ok := exB_ok (He.ba h).1 hx
  refine ⟨ok.c, ok.v, fun i y hy => ?_, ok.base⟩
  have hi : i < 6 := (List.getElem?_eq_some_iff.mp hy).1
  have e : kys.getD i "" = y := by rw [List.getD_eq_getElem?_getD, hy] <;> rfl
  have hs' := hs i hi
  rw [e] at hs'
  rw [ok.k y (by rw [← e]; exact (by decide : ∀ i : Nat, i < 6 → kys.getD i "" ∈ eys) i hi), hs']
theorem isK0 {K : PySem.W.Frag} (h : exK K = true) : ExIs K (He.ga K "NoBeat") 0 := isK (j := 0) h (by decide) (by decide)
theorem isK1 {K : PySem.W.Frag} (h : exK K = true) : ExIs K (He.ga K "NoBell") 1 := isK (j := 1) h (by decide) (by decide)
theorem isK3 {K : PySem.W.Frag} (h : exK K = true) : ExIs K (He.ga K "Twice") 3 := isK (j := 3) h (by decide) (by decide)
theorem isK4 {K : PySem.W.Frag} (h : exK K = true) : ExIs K (He.ga K "NoName") 4 := isK (j := 4) h (by decide) (by decide)
theorem isK5 {K : PySem.W.Frag} (h : exK K = true) : ExIs K (He.ga K "Clash") 5 := by
  have h2 := (He.ba (He.ba h).2).2
  obtain ⟨x1, h2⟩ := He.ba h2
  obtain ⟨x2, h2⟩ := He.ba h2
  obtain ⟨x3, h2⟩ := He.ba h2
  obtain ⟨x4, h2⟩ := He.ba h2
  refine ⟨excXB_ok x1, of_decide_eq_true x2, fun i y hy => ?_, of_decide_eq_true x3⟩
  have hi : i < 6 := (List.getElem?_eq_some_iff.mp hy).1
  have e : kys.getD i "" = y := by rw [List.getD_eq_getElem?_getD, hy] <;> rfl
  have hs' := (by decide : ∀ i : Nat, i < 6 → (kys.getD i "" == "Clash" || kys.getD i "" == "KnellError") = decide ((i : Int) = 5)) i hi
  rw [e] at hs'
  have hk := of_decide_eq_true (List.all_eq_true.mp x4 y (by rw [← e]; exact (by decide : ∀ i : Nat, i < 6 → kys.getD i "" ∈ eys) i hi))
  rw [hk, hs']
/-- the error's dict, if it has one -/
def DOk (μ : Mu) (d : Option Addr) : Prop := d = none ∨ ∃ x fs, d = some x ∧ μ x = some (.raw (.xd fs))
def R_l_kinds (K : PySem.W.Frag) (a : Addr) (cls : Value) (d : Option Addr) : RM := fun ds μ P X => ∃ (D : Addr) (n : Int), ds = [.obj (.ref a)] ∧ cls = .ref D ∧ ExIs K D n ∧ DOk μ d ∧ P (onlyD n) μ
theorem len_l_kinds {K : PySem.W.Frag} {a : Addr} {cls : Value} {d : Option Addr} : ∀ ds μ P X, R_l_kinds K a cls d ds μ P X → ds.length = 1 := by
  rintro ds μ P X ⟨_, _, rfl, _⟩
  rfl

def R_l_kindsT (K : PySem.W.Frag) : RM := fun ds μ P X => ∃ (a D x : Addr) (fs : List (Str × V)) (n : Int), ds = [.obj (.ref a)] ∧ ExIs K D n ∧ μ a = some (.raw (exV a D x)) ∧ μ x = some (.raw (.xd fs)) ∧ P (onlyD n) μ
theorem len_l_kindsT {K : PySem.W.Frag} : ∀ ds μ P X, R_l_kindsT K ds μ P X → ds.length = 1 := by
  rintro ds μ P X ⟨_, _, _, _, _, rfl, _⟩
  rfl

def R_l_only : List D → Out → Prop := fun ds o => ∃ (n : Int), ds = [.int n] ∧ o = .ret (onlyD n)
theorem r_l_only {n : Int} : R_l_only [.int n] (.ret (onlyD n)) := ⟨n, rfl, rfl⟩
theorem len_l_only : ∀ ds o, R_l_only ds o → ds.length = 1 := by
  rintro ds o ⟨_, rfl, _⟩
  rfl
local macro_rules | `(tactic| wtm_at "call") => `(tactic| with_reducible refine' r_l_only)

def R_l_fields (K : PySem.W.Frag) (a : Addr) (cls : Value) (d : Option Addr) : RM := fun ds μ P X => ∃ (dd : Addr) (x y : Str) (n : Int), ds = [.obj (.ref a)] ∧ cls = .ref (He.ga K "Clash") ∧ d = some dd ∧ μ dd = some (.raw (.xd (clF x y n))) ∧ P (.lst [.str x, .str y, .int n]) μ
theorem len_l_fields {K : PySem.W.Frag} {a : Addr} {cls : Value} {d : Option Addr} : ∀ ds μ P X, R_l_fields K a cls d ds μ P X → ds.length = 1 := by
  rintro ds μ P X ⟨_, _, _, _, rfl, _⟩
  rfl

def R_l_fieldsT (K : PySem.W.Frag) : RM := fun ds μ P X => ∃ (a dd : Addr) (x y : Str) (n : Int), ds = [.obj (.ref a)] ∧ μ a = some (.raw (exV a (He.ga K "Clash") dd)) ∧ μ dd = some (.raw (.xd (clF x y n))) ∧ P (.lst [.str x, .str y, .int n]) μ
theorem len_l_fieldsT {K : PySem.W.Frag} : ∀ ds μ P X, R_l_fieldsT K ds μ P X → ds.length = 1 := by
  rintro ds μ P X ⟨_, _, _, _, _, rfl, _⟩
  rfl

def hangF (kvs : Kvs) (s : Str) (f w : Int) : Kvs := if s ∈ kvs.map (·.1) ∨ w < 1 then kvs else kvs ++ [(s, (f % w, w))]
def R_l_hang (K : PySem.W.Frag) : RM := fun ds μ P X => ∃ (T d dx r : Addr) (kvs : Kvs) (s : Str) (f w : Int) (pl : Bool), ds = [.obj (.ref T), .obj (.ref r), .str s, .int f, .int w, .bl pl] ∧ Tw K μ T d dx kvs ∧ μ r = some (.lst (kvs.map rowD)) ∧ kvs.length < 1000 ∧ (pl = true → w = 24) ∧
  ∀ μ', Chg μ μ' [d, r] → Tw K μ' T d dx (hangF kvs s f w) → μ' r = some (.lst ((hangF kvs s f w).map rowD)) → P (.bl true) μ'
theorem len_l_hang {K : PySem.W.Frag} : ∀ ds μ P X, R_l_hang K ds μ P X → ds.length = 6 := by
  rintro ds μ P X ⟨_, _, _, _, _, _, _, _, _, rfl, _⟩
  rfl

def R_l_is_beat : List D → Out → Prop := fun ds o => ∃ (r g : Int), ds = [.tup [.int r, .int g], .tup [.int r, .int g]] ∧ o = .ret (.bl true)
theorem r_l_is_beat {r g : Int} : R_l_is_beat [.tup [.int r, .int g], .tup [.int r, .int g]] (.ret (.bl true)) := ⟨r, g, rfl, rfl⟩
theorem len_l_is_beat : ∀ ds o, R_l_is_beat ds o → ds.length = 2 := by
  rintro ds o ⟨_, _, rfl, _⟩
  rfl
local macro_rules | `(tactic| wtm_at "call") => `(tactic| with_reducible refine' r_l_is_beat)

def takeN (kvs : Kvs) (s : Str) (n : Nat) : Nat := if posF kvs s < n then n - 1 else n
def R_l_take (K : PySem.W.Frag) : RM := fun ds μ P X => ∃ (T d dx r c : Addr) (kvs : Kvs) (s : Str) (n : Nat), ds = [.obj (.ref T), .obj (.ref r), .obj (.ref c), .str s] ∧ Tw K μ T d dx kvs ∧ μ r = some (.lst (kvs.map rowD)) ∧ μ c = some (.lst [.int (n : Int)]) ∧ r ≠ c ∧ kvs.length ≤ 1000 ∧ n ≤ kvs.length ∧ KNd kvs ∧
  ∀ μ', Chg μ μ' [d, r, c] → Tw K μ' T d dx (dropF kvs s) → μ' r = some (.lst ((dropF kvs s).map rowD)) → μ' c = some (.lst [.int ((takeN kvs s n : Nat) : Int)]) → P (.bl true) μ'
theorem len_l_take {K : PySem.W.Frag} : ∀ ds μ P X, R_l_take K ds μ P X → ds.length = 4 := by
  rintro ds μ P X ⟨_, _, _, _, _, _, _, _, rfl, _⟩
  rfl

/-- bell i goes with all ahead -/
def PW (kvs : Kvs) (i : Nat) : Prop := ∀ (j : Nat) (x y : Str) (u v : Int × Int), j < i → kvs[j]? = some (x, u) → kvs[i]? = some (y, v) → gcI u.2 v.2 ∣ u.1 - v.1
def Clean (kvs : Kvs) (n : Nat) : Prop := ∀ i, i < n → PW kvs i
structure Trb (kvs : Kvs) (j a : Nat) (x y : Str) (u v : Int × Int) : Prop where
  cl : Clean kvs j
  ga : kvs[a]? = some (x, u)
  gj : kvs[j]? = some (y, v)
  lt : a < j
  no : ¬ gcI u.2 v.2 ∣ u.1 - v.1
  ls : ∀ (i : Nat) (z : Str) (w : Int × Int), i < a → kvs[i]? = some (z, w) → gcI w.2 v.2 ∣ w.1 - v.1
def R_l_trouble (K : PySem.W.Frag) : RM := fun ds μ P X => ∃ (r c : Addr) (kvs : Kvs) (n : Nat), ds = [.obj (.ref r), .obj (.ref c)] ∧ μ r = some (.lst (kvs.map rowD)) ∧ μ c = some (.lst [.int (n : Int)]) ∧ r ≠ c ∧ kvs.length ≤ 1000 ∧ n ≤ kvs.length ∧ (∀ p ∈ kvs, 0 < p.2.2) ∧ Clean kvs n ∧
  (Clean kvs kvs.length → P (.lst []) (updM μ c (.lst [.int (kvs.length : Int)]))) ∧ ∀ j a x y u v, Trb kvs j a x y u v → P (.lst [.str x, .str y, .int (gcI u.2 v.2)]) (updM μ c (.lst [.int (j : Int)]))
theorem len_l_trouble {K : PySem.W.Frag} : ∀ ds μ P X, R_l_trouble K ds μ P X → ds.length = 2 := by
  rintro ds μ P X ⟨_, _, _, _, rfl, _⟩
  rfl

def R_l_asked (K : PySem.W.Frag) : RM := fun ds μ P X => ∃ (T : Addr) (m : Int) (pl al : Bool), ds = [.obj (.ref T), .int m, .bl pl, .bl al] ∧ (pl = true → m = 0) ∧ ((al = true ∧ R_T_next_together K [.obj (.ref T), .int m] μ P X) ∨ (al = false ∧ R_T_next_any K [.obj (.ref T), .int m] μ P X))
theorem len_l_asked {K : PySem.W.Frag} : ∀ ds μ P X, R_l_asked K ds μ P X → ds.length = 4 := by
  rintro ds μ P X ⟨_, _, _, _, rfl, _⟩
  rfl

/-- what a tower's bells keep -/
structure KOk (kvs : Kvs) : Prop where
  nd : KNd kvs
  g : ∀ p ∈ kvs, 0 < p.2.2 ∧ Sm 31 p.2.2 ∧ 0 ≤ p.2.1 ∧ p.2.1 < p.2.2
  o : ∀ p ∈ kvs, SOk p.1
  n : kvs.length ≤ 13
theorem KOk.w {kvs : Kvs} (h : KOk kvs) : WOk (bsF' kvs) 31 := ⟨fun b hb => by
  obtain ⟨p, hp, e⟩ := List.mem_map.mp hb
  subst e
  obtain ⟨g1, g2, g3, g4⟩ := h.g p hp
  exact ⟨g1, g2, g3, g4⟩, by rw [List.length_map]; have := h.n; omega, by rw [List.length_map]; have := h.n; omega, by decide⟩
theorem bs_at {kvs : Kvs} {i : Nat} {b : Int × Int} (h : (bsF' kvs)[i]? = some b) : ∃ x, kvs[i]? = some (x, b) := by
  rw [List.getElem?_map] at h
  cases e : kvs[i]? with
  | none => rw [e] at h; cases h
  | some p =>
    rw [e] at h
    cases h
    exact ⟨p.1, rfl⟩
theorem bs_of {kvs : Kvs} {i : Nat} {x : Str} {b : Int × Int} (h : kvs[i]? = some (x, b)) : (bsF' kvs)[i]? = some b := by
  rw [List.getElem?_map, h] <;> rfl
theorem nc_of_clean {kvs : Kvs} (W : WOk (bsF' kvs) 31) : ∀ n, n ≤ kvs.length → Clean kvs n → ∀ k, k < n → NC (bsF' kvs) k
  | 0, _, _, k, h => absurd h (Nat.not_lt_zero _)
  | n + 1, hn, hc, k, hk => by
    have ih := nc_of_clean W n (by omega) (fun i hi => hc i (by omega))
    rcases Nat.lt_or_ge k n with h | h
    · exact ih k h
    · have e : k = n := by omega
      subst e
      intro b hb
      refine nc_pairs (i := k) W k (by rw [List.length_map]; omega) ih fun d hd => ?_
      obtain ⟨j, hj, e⟩ := List.mem_iff_getElem.mp hd
      rw [List.length_take] at hj
      rw [List.getElem_take] at e
      have hj2 : j < (bsF' kvs).length := by omega
      have ej : (bsF' kvs)[j]? = some d := by rw [List.getElem?_eq_getElem hj2, e]
      obtain ⟨x, hx⟩ := bs_at ej
      obtain ⟨y, hy⟩ := bs_at hb
      have := hc k hk j x y d b (by omega) hx hy
      rw [show b.1 - d.1 = -(d.1 - b.1) by omega]
      exact Int.dvd_neg.mpr this
theorem trb_nc {kvs : Kvs} {j a : Nat} {x y : Str} {u v : Int × Int} (W : WOk (bsF' kvs) 31) (T : Trb kvs j a x y u v) : (∀ k, k < j → NC (bsF' kvs) k) ∧ ¬ NC (bsF' kvs) j ∧ FC (bsF' kvs) j a := by
  have hj : j < kvs.length := (List.getElem?_eq_some_iff.mp T.gj).1
  have hc := nc_of_clean W j (by omega) T.cl
  have eu := bs_of T.ga
  have ev := bs_of T.gj
  refine ⟨hc, fun nc => T.no ?_, T.lt, by rw [List.length_map]; exact hj, fun i d b hi hd hb => ?_, fun d b hd hb => ?_⟩
  · have J := wj2 W (j + 1) (by rw [List.length_map]; omega) fun k hk => by
      rcases Nat.lt_or_ge k j with h | h
      · exact hc k h
      · have : k = j := by omega
        subst this
        exact nc
    have mem : ∀ {i : Nat} {b : Int × Int}, i ≤ j → (bsF' kvs)[i]? = some b → b ∈ (bsF' kvs).take (j + 1) := fun {i b} hi hb => List.mem_of_getElem? (i := i) (by rw [List.getElem?_take, if_pos (by omega)]; exact hb)
    have h1 := (J.all u (mem (Nat.le_of_lt T.lt) eu)).2
    have h2 := (J.all v (mem (Nat.le_refl _) ev)).2
    have := cm_no h1 h2
    rw [show u.1 - v.1 = -(v.1 - u.1) by omega]
    exact Int.dvd_neg.mpr this
  · rw [ev] at hb
    cases hb
    obtain ⟨z, hz⟩ := bs_at hd
    have := T.ls i z d hi hz
    rw [mod0, show v.1 - d.1 = -(d.1 - v.1) by omega]
    exact Int.dvd_neg.mpr this
  · rw [ev] at hb
    rw [eu] at hd
    cases hb
    cases hd
    intro h
    refine T.no ?_
    rw [mod0] at h
    rw [show u.1 - v.1 = -(v.1 - u.1) by omega]
    exact Int.dvd_neg.mpr h
theorem fc_one {bs : Bs2} {i a a' : Nat} (h : FC bs i a) (h' : FC bs i a') : a = a' := by
  have one : ∀ {a a' : Nat}, FC bs i a → FC bs i a' → ¬ a < a' := fun {a a'} h h' q => by
    have ha : a < bs.length := Nat.lt_trans h.lt h.le
    exact h.cl _ _ (List.getElem?_eq_getElem ha) (List.getElem?_eq_getElem h.le) (h'.no a _ _ q (List.getElem?_eq_getElem ha) (List.getElem?_eq_getElem h.le))
  have h1 := one h h'
  have h2 := one h' h
  omega
/-- all go together, or there is a first that does not -/
theorem clean_or {kvs : Kvs} (hg : ∀ p ∈ kvs, 0 < p.2.2) : Clean kvs kvs.length ∨ ∃ j a x y u v, Trb kvs j a x y u v := by
  by_cases hc : Clean kvs kvs.length
  · exact .inl hc
  · obtain ⟨j, j1, j2, j3⟩ := least_of (fun j => ¬ PW kvs j) kvs.length (by
      apply Classical.byContradiction
      intro no
      exact hc fun k hk => Classical.byContradiction fun z => no ⟨k, hk, z⟩)
    have cj : Clean kvs j := fun k hk => Classical.not_not.mp (j3 k hk)
    have gj : kvs[j]? = some kvs[j] := List.getElem?_eq_getElem j1
    generalize kvs[j] = p at gj
    obtain ⟨y, v⟩ := p
    obtain ⟨a, a1, ⟨x, u, a2, a3⟩, a4⟩ := least_of (fun a => ∃ x u, kvs[a]? = some (x, u) ∧ ¬ gcI u.2 v.2 ∣ u.1 - v.1) j (by
      apply Classical.byContradiction
      intro no
      refine j2 fun i x y' u v' hi hx hy => ?_
      rw [gj] at hy
      cases hy
      exact Classical.byContradiction fun z => no ⟨i, hi, x, u, hx, z⟩)
    exact .inr ⟨j, a, x, y, u, v, cj, a2, gj, a1, a3, fun i z w hi hw => Classical.byContradiction fun q => a4 i hi ⟨z, w, hw, q⟩⟩
def R_l_all_ring (K : PySem.W.Frag) : RM := fun ds μ P X => ∃ (T d dx r c : Addr) (kvs : Kvs) (m : Int) (n : Nat) (pl : Bool), ds = [.obj (.ref T), .obj (.ref r), .obj (.ref c), .int m, .bl pl] ∧ Tw K μ T d dx kvs ∧ μ r = some (.lst (kvs.map rowD)) ∧ μ c = some (.lst [.int (n : Int)]) ∧ r ≠ c ∧ n ≤ kvs.length ∧ Clean kvs n ∧ KOk kvs ∧ (pl = true → m = 0) ∧
  ∀ (j : Nat) (μ' : Mu), j ≤ kvs.length → Clean kvs j → Chg μ μ' [c] → μ' c = some (.lst [.int (j : Int)]) → P (.bl true) μ'
theorem len_l_all_ring {K : PySem.W.Frag} : ∀ ds μ P X, R_l_all_ring K ds μ P X → ds.length = 5 := by
  rintro ds μ P X ⟨_, _, _, _, _, _, _, _, _, rfl, _⟩
  rfl

/-- two lists that are alike, held -/
def HOk (x : D) : Prop := ∃ es : List D, x = .tup [.lst es, .lst es] ∧ (D.lst es).q 3
def R_l_some_ring (K : PySem.W.Frag) : RM := fun ds μ P X => ∃ (T d dx r h : Addr) (kvs : Kvs) (m : Int) (pl em : Bool) (hs : List D), ds = [.obj (.ref T), .obj (.ref r), .int m, .bl pl, .obj (.ref h), .bl em] ∧ Tw K μ T d dx kvs ∧ μ r = some (.lst (kvs.map rowD)) ∧ μ h = some (.lst hs) ∧ hs.length ≤ 1000 ∧ KOk kvs ∧ (pl = true → m = 0) ∧
  ∀ (hs' : List D) (μ' : Mu), hs'.length ≤ 1 → (∀ x ∈ hs', HOk x) → Chg μ μ' [h] → μ' h = some (.lst (hs ++ hs')) → P (.bl true) μ'
theorem len_l_some_ring {K : PySem.W.Frag} : ∀ ds μ P X, R_l_some_ring K ds μ P X → ds.length = 6 := by
  rintro ds μ P X ⟨_, _, _, _, _, _, _, _, _, _, rfl, _⟩
  rfl

def R_l_bells (K : PySem.W.Frag) : RM := fun ds μ P X => ∃ (T d dx r h : Addr) (kvs : Kvs) (em : Bool) (hs : List D), ds = [.obj (.ref T), .obj (.ref r), .obj (.ref h), .bl em] ∧ Tw K μ T d dx kvs ∧ μ r = some (.lst (kvs.map rowD)) ∧ μ h = some (.lst hs) ∧ hs.length ≤ 1000 ∧ KOk kvs ∧
  ∀ (hs' : List D) (μ' : Mu), hs'.length ≤ 1 → (∀ x ∈ hs', HOk x) → Chg μ μ' [h] → μ' h = some (.lst (hs ++ hs')) → P (.bl true) μ'
theorem len_l_bells {K : PySem.W.Frag} : ∀ ds μ P X, R_l_bells K ds μ P X → ds.length = 4 := by
  rintro ds μ P X ⟨_, _, _, _, _, _, _, _, rfl, _⟩
  rfl

/-- a tower and what the law holds beside it -/
structure TI (K : PySem.W.Frag) (μ : Mu) (T d dx r c : Addr) (kvs : Kvs) (n : Nat) : Prop where
  tw : Tw K μ T d dx kvs
  row : μ r = some (.lst (kvs.map rowD))
  cl : μ c = some (.lst [.int (n : Int)])
  rc : r ≠ c
  le : n ≤ kvs.length
  cn : Clean kvs n
  ok : KOk kvs
theorem pw_of {kvs kvs' : Kvs} {i i' : Nat} (h : PW kvs i') (hi : ∀ q, kvs'[i]? = some q → kvs[i']? = some q) (hj : ∀ j q, j < i → kvs'[j]? = some q → ∃ j', j' < i' ∧ kvs[j']? = some q) : PW kvs' i := fun j x y u v hji hx hy => by
  obtain ⟨j', h1, h2⟩ := hj j _ hji hx
  exact h j' x y u v h1 h2 (hi _ hy)
theorem clean_app {kvs l : Kvs} {n : Nat} (h : Clean kvs n) (hn : n ≤ kvs.length) : Clean (kvs ++ l) n := fun i hi => pw_of (h i hi) (fun q hq => by
  rwa [List.getElem?_append_left (by omega)] at hq) fun j q hj hq => ⟨j, hj, by rwa [List.getElem?_append_left (by omega)] at hq⟩
theorem clean_drop {kvs : Kvs} {n k : Nat} (h : Clean kvs n) : Clean (kvs.eraseIdx k) (if k < n then n - 1 else n) := fun i hi => by
  by_cases hk : i < k
  · refine pw_of (i' := i) (h i (by split at hi <;> omega)) (fun q hq => ?_) fun j q hj hq => ⟨j, hj, ?_⟩
    · rwa [List.getElem?_eraseIdx, if_pos hk] at hq
    · rwa [List.getElem?_eraseIdx, if_pos (by omega)] at hq
  · refine pw_of (i' := i + 1) (h (i + 1) (by split at hi <;> omega)) (fun q hq => ?_) fun j q hj hq => ?_
    · rwa [List.getElem?_eraseIdx, if_neg hk] at hq
    · rw [List.getElem?_eraseIdx] at hq
      split at hq
      · exact ⟨j, by omega, hq⟩
      · exact ⟨j + 1, by omega, hq⟩
section
variable {K : PySem.W.Frag} {μ μ' : Mu} {T d dx r c : Addr} {kvs : Kvs} {n : Nat}
/-- after a bell was taken down -/
theorem ok_drop (ok : KOk kvs) (s : Str) : KOk (dropF kvs s) := ⟨knd_drop s ok.nd, fun p hp => ok.g p (List.mem_filter.mp hp).1, fun p hp => ok.o p (List.mem_filter.mp hp).1, Nat.le_trans (List.length_filter_le _ _) ok.n⟩
theorem drop_facts (ok : KOk kvs) (cn : Clean kvs n) (le : n ≤ kvs.length) (s : Str) : takeN kvs s n ≤ (dropF kvs s).length ∧ Clean (dropF kvs s) (takeN kvs s n) := by
  by_cases hs : s ∈ kvs.map (·.1)
  · have : ∃ u, valD kvs s = some u := by
      have h := valD_mem s kvs
      rw [decide_eq_true hs] at h
      exact Option.isSome_iff_exists.mp h
    obtain ⟨u, hu⟩ := this
    obtain ⟨k, A⟩ := at1_of ok.nd hu
    have hk : k < kvs.length := (List.getElem?_eq_some_iff.mp A.g).1
    rw [← A.d]
    have e : takeN kvs s n = if k < n then n - 1 else n := by
      unfold takeN
      rw [A.p]
    rw [e]
    refine ⟨?_, clean_drop cn⟩
    rw [List.length_eraseIdx, if_pos hk]
    split <;> omega
  · rw [dropF_no hs]
    have e : takeN kvs s n = n := by
      unfold takeN
      rw [posF_no hs, if_neg (by omega)]
    rw [e]
    exact ⟨le, cn⟩
theorem hang_facts (ok : KOk kvs) (cn : Clean kvs n) (le : n ≤ kvs.length) (hl : kvs.length ≤ 12) {s : Str} (hs : SOk s) {f w : Int} (hw : w < 2147483648) : n ≤ (hangF kvs s f w).length ∧ (hangF kvs s f w).length ≤ kvs.length + 1 ∧ Clean (hangF kvs s f w) n ∧ KOk (hangF kvs s f w) := by
  unfold hangF
  split
  · exact ⟨le, by omega, cn, ok⟩
  · rename_i h
    have h1 : s ∉ kvs.map (·.1) := fun q => h (.inl q)
    have h2 : 0 < w := by
      apply Classical.byContradiction
      intro q
      exact h (.inr (by omega))
    have hm : ∀ p ∈ kvs ++ [(s, (f % w, w))], p ∈ kvs ∨ p = (s, (f % w, w)) := fun p hp => by
      rcases List.mem_append.mp hp with q | q
      · exact .inl q
      · exact .inr (List.mem_singleton.mp q)
    refine ⟨by rw [List.length_append]; omega, by rw [List.length_append] <;> exact Nat.le_refl _, clean_app cn le, knd_snoc ok.nd h1, fun p hp => ?_, fun p hp => ?_, by rw [List.length_append]; show kvs.length + 1 ≤ 13; omega⟩
    · rcases hm p hp with q | rfl
      · exact ok.g p q
      · exact ⟨h2, (by show w.natAbs < 2147483648; omega), Int.emod_nonneg _ (Int.ne_of_gt h2), Int.emod_lt_of_pos _ h2⟩
    · rcases hm p hp with q | rfl
      · exact ok.o p q
      · exact hs
theorem TI.chg {S : List Addr} (h : TI K μ T d dx r c kvs n) (hc : Chg μ μ' S) (h1 : T ∉ S) (h2 : d ∉ S) (h3 : r ∉ S) (h4 : c ∉ S) : TI K μ' T d dx r c kvs n := ⟨⟨hc _ _ h1 h.tw.1, hc _ _ h2 h.tw.2⟩, hc _ _ h3 h.row, hc _ _ h4 h.cl, h.rc, h.le, h.cn, h.ok⟩
end
theorem out1 {a x : Addr} (h : a ≠ x) : a ∉ [x] := fun q => h (List.mem_singleton.mp q)
theorem out2 {a x y : Addr} (h : a ≠ x) (h2 : a ≠ y) : a ∉ [x, y] := fun q => by
  rcases List.mem_cons.mp q with e | q
  · exact h e
  · exact out1 h2 q
theorem out3 {a x y z : Addr} (h : a ≠ x) (h2 : a ≠ y) (h3 : a ≠ z) : a ∉ [x, y, z] := fun q => by
  rcases List.mem_cons.mp q with e | q
  · exact h e
  · exact out2 h2 h3 q
theorem out4 {a x y z w : Addr} (h : a ≠ x) (h2 : a ≠ y) (h3 : a ≠ z) (h4 : a ≠ w) : a ∉ [x, y, z, w] := fun q => by
  rcases List.mem_cons.mp q with e | q
  · exact h e
  · exact out3 h2 h3 h4 q
/-- the held list beside a tower -/
structure HI (μ : Mu) (r c h : Addr) (hs : List D) : Prop where
  hh : μ h = some (.lst hs)
  hr : h ≠ r
  hc : h ≠ c
def R_l_done (K : PySem.W.Frag) : RM := fun ds μ P X => ∃ (T d dx r c h : Addr) (kvs : Kvs) (n : Nat) (cell : Int) (ns : List Int) (ss : List Str) (hs : List D), ds = [.obj (.ref T), .obj (.ref r), .obj (.ref c), .lst (ss.map D.str), .int cell, .fro (ns.map D.int), .obj (.ref h)] ∧ TI K μ T d dx r c kvs n ∧ kvs.length ≤ 12 ∧ HI μ r c h hs ∧ hs.length ≤ 1000 ∧ 0 < ss.length ∧ ss.length ≤ 1000 ∧ (∀ s ∈ ss, SOk s) ∧
  ∀ (kvs' : Kvs) (n' : Nat) (hs' : List D) (μ' : Mu), TI K μ' T d dx r c kvs' n' → kvs'.length ≤ 12 → hs'.length ≤ 1 → (∀ x ∈ hs', HOk x) → Chg μ μ' [d, r, c, h] → μ' h = some (.lst (hs ++ hs')) → P (.bl true) μ'
theorem len_l_done {K : PySem.W.Frag} : ∀ ds μ P X, R_l_done K ds μ P X → ds.length = 7 := by
  rintro ds μ P X ⟨_, _, _, _, _, _, _, _, _, _, _, _, rfl, _⟩
  rfl

def R_l_made_good (K : PySem.W.Frag) : RM := fun ds μ P X => ∃ (T d dx r c h : Addr) (kvs : Kvs) (n : Nat) (m cc : Int) (hs : List D), ds = [.obj (.ref T), .obj (.ref r), .obj (.ref c), .lst ((namesF cc).map D.str), .int m, .obj (.ref h)] ∧ TI K μ T d dx r c kvs n ∧ kvs.length ≤ 12 ∧ HI μ r c h hs ∧ hs.length ≤ 900 ∧
  ∀ (hs' : List D) (μ' : Mu), hs'.length ≤ 2 → (∀ x ∈ hs', HOk x) → Chg μ μ' [d, r, c, h] → μ' h = some (.lst (hs ++ hs')) → P (.bl true) μ'
theorem len_l_made_good {K : PySem.W.Frag} : ∀ ds μ P X, R_l_made_good K ds μ P X → ds.length = 6 := by
  rintro ds μ P X ⟨_, _, _, _, _, _, _, _, _, _, _, rfl, _⟩
  rfl

def R_l_clash_made (K : PySem.W.Frag) : RM := fun ds μ P X => ∃ (ss : List Str) (x y : Str) (n : Int), ds = [.lst (ss.map D.str), .int n] ∧ ss[0]? = some x ∧ ss[1]? = some y ∧ SOk x ∧ SOk y ∧ ∀ μ', Chg μ μ' [] → P (.bl true) μ'
theorem len_l_clash_made {K : PySem.W.Frag} : ∀ ds μ P X, R_l_clash_made K ds μ P X → ds.length = 2 := by
  rintro ds μ P X ⟨_, _, _, _, rfl, _⟩
  rfl
theorem only_q (n : Int) : (onlyD n).q 1 := fun d hd => by
  rcases List.mem_cons.mp hd with e | hd
  · rw [e]
    exact True.intro
  · obtain ⟨i, _, e⟩ := List.mem_map.mp hd
    subst e
    exact True.intro

def R_law (K : PySem.W.Frag) : RM := fun ds μ P X => ∃ ns : List Int, ds = [.fro (ns.map D.int)] ∧ ns.length ≤ 63 ∧ ∀ μ', P (.bl true) μ'
theorem len_law {K : PySem.W.Frag} : ∀ ds μ P X, R_law K ds μ P X → ds.length = 1 := by
  rintro ds μ P X ⟨_, rfl, _⟩
  rfl
theorem law_holds {K : PySem.W.Frag} : ∀ ns : List Int, ns.length ≤ 63 → R_law K [.fro (ns.map D.int)] (fun _ => none) (fun d _ => d = .bl true) (fun _ _ _ => False) := fun ns h => ⟨ns, rfl, h, fun _ => rfl⟩

def t_C_init (K : PySem.W.Frag) (E : XK) : TS :=
  (tSeq (tOst K "first" (tVar 0) (tVar 1))
  (tSeq (tOst K "second" (tVar 0) (tVar 2))
  (tOst K "divisor" (tVar 0) (tVar 3))))
def t_beat (K : PySem.W.Frag) (E : XK) : TS :=
  (tSeq (tIfS (tTest (tOp rLtI (tVar 1) (tC (.int 1)))) (tRaiseC (fun c d _ H => E c d H) (.ref (He.ga K "NoBeat"))) tNext)
  (tRet (tTup (tCons (tOp rModI (tVar 0) (tVar 1)) (tCons (tVar 1) tNil)))))
def t_rings (K : PySem.W.Frag) (E : XK) : TS :=
  (tRet (tOp (rEqA K) (tOp rModI (tVar 1) (tOp (rIx K) (tVar 0) (tC (.int 1)))) (tOp (rIx K) (tVar 0) (tC (.int 0)))))
def t_next_from (K : PySem.W.Frag) (E : XK) : TS :=
  (tRet (tOp rAddA (tVar 1) (tOp rModI (tOp rSubI (tOp (rIx K) (tVar 0) (tC (.int 0))) (tVar 1)) (tOp (rIx K) (tVar 0) (tC (.int 1))))))
def t_weights (K : PySem.W.Frag) (E : XK) : TS :=
  (tSeq (tAsg (tVar 0) (gName 2))
  (tSeq (tAsg (tC (.int 1)) (gName 3))
  (tSeq (tAsg (tC (.int 0)) (gName 4))
  (tSeq (tAsg (tVar 1) (gName 5))
  (tSeq (tAsg (tC (.int 0)) (gName 6))
  (tSeq (tAsg (tC (.int 1)) (gName 7))
  (tSeq (tWhile (tTest (tOp (rNeA K) (tVar 5) (tC (.int 0)))) (tSeq (tAsg (tOp rDivI (tVar 2) (tVar 5)) (gName 8))
  (tSeq (tPar 2 5 (tCons (tVar 5) (tCons (tOp rSubI (tVar 2) (tOp rMulI (tVar 8) (tVar 5))) tNil)))
  (tSeq (tPar 3 6 (tCons (tVar 6) (tCons (tOp rSubI (tVar 3) (tOp rMulI (tVar 8) (tVar 6))) tNil)))
  (tPar 4 7 (tCons (tVar 7) (tCons (tOp rSubI (tVar 4) (tOp rMulI (tVar 8) (tVar 7))) tNil)))))))
  (tSeq (tIfS (tTest (tOp rLtI (tVar 2) (tC (.int 0)))) (tRet (tTup (tCons (tOp rSubI (tC (.int 0)) (tVar 2)) (tCons (tOp rSubI (tC (.int 0)) (tVar 3)) (tCons (tOp rSubI (tC (.int 0)) (tVar 4)) tNil))))) tNext)
  (tRet (tTup (tCons (tVar 2) (tCons (tVar 3) (tCons (tVar 4) tNil)))))))))))))
def t_clash (K : PySem.W.Frag) (E : XK) : TS :=
  (tSeq (tAsg (tOp (rIx K) (tCall (spD K R_weights) [] E0 (tCons (tOp (rIx K) (tVar 0) (tC (.int 1))) (tCons (tOp (rIx K) (tVar 1) (tC (.int 1))) tNil))) (tC (.int 0))) (gName 2))
  (tSeq (tIfS (tTest (tOp (rEqA K) (tOp rModI (tOp rSubI (tOp (rIx K) (tVar 1) (tC (.int 0))) (tOp (rIx K) (tVar 0) (tC (.int 0)))) (tVar 2)) (tC (.int 0)))) (tRet (tC .non)) tNext)
  (tRet (tVar 2))))
def t_met (K : PySem.W.Frag) (E : XK) : TS :=
  (tSeq (tIfS (tB (tNotN (tCall (spD K R_clash) [] E0 (tCons (tVar 0) (tCons (tVar 1) tNil))))) (tRet (tC .non)) tNext)
  (tSeq (tAsg (tCall (spD K R_weights) [] E0 (tCons (tOp (rIx K) (tVar 0) (tC (.int 1))) (tCons (tOp (rIx K) (tVar 1) (tC (.int 1))) tNil))) (gTup K 3 (gCons (gName 2) (gCons (gName 3) (gCons (gName 4) gNil)))))
  (tSeq (tAsg (tOp rAddA (tOp (rIx K) (tVar 0) (tC (.int 0))) (tOp rMulI (tOp rMulI (tOp rDivI (tOp rSubI (tOp (rIx K) (tVar 1) (tC (.int 0))) (tOp (rIx K) (tVar 0) (tC (.int 0)))) (tVar 2)) (tVar 3)) (tOp (rIx K) (tVar 0) (tC (.int 1))))) (gName 5))
  (tRet (tCall (spD K (R_beat K)) [] E0 (tCons (tVar 5) (tCons (tOp rMulI (tOp rDivI (tOp (rIx K) (tVar 0) (tC (.int 1))) (tVar 2)) (tOp (rIx K) (tVar 1) (tC (.int 1)))) tNil)))))))
def t_smaller (K : PySem.W.Frag) (E : XK) : TS :=
  (tSeq (tAsg (tLc (iZip K (tCons (tVar 0) (tCons (tVar 1) tNil))) (gTup K 2 (gCons (gName 5) (gCons (gName 6) gNil))) tYes (tOp rModI (tVar 5) (tOp (rIx K) (tVar 6) (tC (.int 1)))) [5, 6]) (gName 3))
  (tSeq (tAsg (tCB (rSum K) (tCons (tLc (iZip K (tCons (tVar 3) (tCons (tVar 1) tNil))) (gTup K 2 (gCons (gName 5) (gCons (gName 6) gNil))) tYes (tOp rMulI (tVar 5) (tOp rDivI (tVar 2) (tOp (rIx K) (tVar 6) (tC (.int 1))))) [5, 6]) tNil)) (gName 4))
  (tSeq (tAsg (tOp rSubI (tOp (rIx K) (tVar 3) (tC (.int 0))) (tOp rMulI (tOp rDivI (tOp rSubI (tVar 4) (tC (.int 1))) (tVar 2)) (tOp (rIx K) (tOp (rIx K) (tVar 1) (tC (.int 0))) (tC (.int 1))))) (gSub (tVar 3) (tC (.int 0)) rSetL))
  (tRet (tVar 3)))))
def t_first_clash (K : PySem.W.Frag) (E : XK) : TS :=
  (tSeq (tAsg (tC (.int 0)) (gName 2))
  (tSeq (tWhile (tB (tIsN (tCall (spD K R_clash) [] E0 (tCons (tOp (rIx K) (tVar 0) (tVar 2)) (tCons (tOp (rIx K) (tVar 0) (tVar 1)) tNil))))) (tAsg (tOp rAddA (tVar 2) (tC (.int 1))) (gName 2)))
  (tRet (tTup (tCons (tC (.str "clash")) (tCons (tVar 2) (tCons (tVar 1) (tCons (tCall (spD K R_clash) [] E0 (tCons (tOp (rIx K) (tVar 0) (tVar 2)) (tCons (tOp (rIx K) (tVar 0) (tVar 1)) tNil))) tNil))))))))
def t_together (K : PySem.W.Frag) (E : XK) : TS :=
  (tSeq (tAsg (tTup (tCons (tC (.int 0)) (tCons (tC (.int 1)) tNil))) (gName 1))
  (tSeq (tAsg (tLst tNil) (gName 2))
  (tSeq (tFor (iEnum K (tCons (tVar 0) tNil)) (gTup K 2 (gCons (gName 3) (gCons (gName 4) gNil))) (tSeq (tAsg (tCall (spD K R_met) [] E0 (tCons (tVar 1) (tCons (tVar 4) tNil))) (gName 5))
  (tSeq (tIfS (tB (tIsN (tVar 5))) (tRet (tCall (spD K R_first_clash) [] E0 (tCons (tVar 0) (tCons (tVar 3) tNil)))) tNext)
  (tSeq (tAsg (tCall (spD K R_weights) [] E0 (tCons (tOp (rIx K) (tVar 1) (tC (.int 1))) (tCons (tOp (rIx K) (tVar 4) (tC (.int 1))) tNil))) (gTup K 3 (gCons (gName 6) (gCons (gName 7) (gCons (gName 8) gNil)))))
  (tSeq (tIfS (tTest (tOp (rEqA K) (tVar 3) (tC (.int 0)))) (tAsg (tLst (tCons (tC (.int 1)) tNil)) (gName 2)) (tAsg (tCall (spD K R_smaller) [] E0 (tCons (tOp rAddA (tLc (iSeq K (tVar 2)) (gName 9) tYes (tOp rMulI (tVar 9) (tVar 8)) [9]) (tLst (tCons (tVar 7) tNil))) (tCons (tVar 0) (tCons (tOp (rIx K) (tVar 5) (tC (.int 1))) tNil)))) (gName 2)))
  (tAsg (tVar 5) (gName 1)))))))
  (tRet (tTup (tCons (tC (.str "beat")) (tCons (tVar 1) (tCons (tVar 2) tNil))))))))
def t_T_init (K : PySem.W.Frag) (E : XK) : TS :=
  (sFld K (tVar 0) tDNewK "hung")
def t_T_hang (K : PySem.W.Frag) (E : XK) : TS :=
  (tSeq (tIfS (tB (tDIn (tVar 1) (tFld K (tVar 0) "hung"))) (tRaiseC (fun c d _ H => E c d H) (.ref (He.ga K "Twice"))) tNext)
  (sDPut (tFld K (tVar 0) "hung") (tVar 1) (tCall (spD K (R_beat K)) [] E (tCons (tVar 2) (tCons (tVar 3) tNil)))))
def t_T_take (K : PySem.W.Frag) (E : XK) : TS :=
  (tSeq (tIfS (tB (tDNotIn (tVar 1) (tFld K (tVar 0) "hung"))) (tRaiseC (fun c d _ H => E c d H) (.ref (He.ga K "NoName"))) tNext)
  (tRet (tDPop1 (tFld K (tVar 0) "hung") (tVar 1))))
def t_T_bells (K : PySem.W.Frag) (E : XK) : TS :=
  (tRet (tLockE (tLc (iItems (tFld K (tVar 0) "hung")) (gTup K 2 (gCons (gName 1) (gCons (gName 2) gNil))) tYes (tTup (tCons (tVar 1) (tCons (tVar 2) tNil))) [1, 2])))
def t_T_next_together (K : PySem.W.Frag) (E : XK) : TS :=
  (tSeq (tAsg (tLc (iSeq K (tMethE (He.ga K "Tower") "bells" (spM K (R_T_bells K)) [] (fun _ => E0) (tVar 0) tNil)) (gTup K 2 (gCons (gName 4) (gCons (gName 5) gNil))) tYes (tVar 4) [4, 5]) (gName 2))
  (tSeq (tAsg (tCall (spD K R_together) [] E0 (tCons (tLc (iSeq K (tMethE (He.ga K "Tower") "bells" (spM K (R_T_bells K)) [] (fun _ => E0) (tVar 0) tNil)) (gTup K 2 (gCons (gName 4) (gCons (gName 5) gNil))) tYes (tVar 5) [4, 5]) tNil)) (gName 3))
  (tSeq (tIfS (tTest (tOp (rEqA K) (tOp (rIx K) (tVar 3) (tC (.int 0))) (tC (.str "clash")))) (tRaiseO (fun c d _ H => E c d H) (tMkO (He.ga K "Clash") (spM K (R_C_init K)) [] (tCons (tOp (rIx K) (tVar 2) (tOp (rIx K) (tVar 3) (tC (.int 1)))) (tCons (tOp (rIx K) (tVar 2) (tOp (rIx K) (tVar 3) (tC (.int 2)))) (tCons (tOp (rIx K) (tVar 3) (tC (.int 3))) tNil))))) tNext)
  (tRet (tCall (spD K R_next_from) [] E0 (tCons (tOp (rIx K) (tVar 3) (tC (.int 1))) (tCons (tVar 1) tNil)))))))
def t_T_next_any (K : PySem.W.Frag) (E : XK) : TS :=
  (tSeq (tIfS (tTest (tOp (rEqA K) (tCB (rLenD) (tCons (tFld K (tVar 0) "hung") tNil)) (tC (.int 0)))) (tRaiseC (fun c d _ H => E c d H) (.ref (He.ga K "NoBell"))) tNext)
  (tSeq (tAsg (tCB (rMin K) (tCons (tLc (iSeq K (tMethE (He.ga K "Tower") "bells" (spM K (R_T_bells K)) [] (fun _ => E0) (tVar 0) tNil)) (gTup K 2 (gCons (gName 3) (gCons (gName 4) gNil))) tYes (tCall (spD K R_next_from) [] E0 (tCons (tVar 4) (tCons (tVar 1) tNil))) [3, 4]) tNil)) (gName 2))
  (tRet (tTup (tCons (tVar 2) (tCons (tLc (iSeq K (tMethE (He.ga K "Tower") "bells" (spM K (R_T_bells K)) [] (fun _ => E0) (tVar 0) tNil)) (gTup K 2 (gCons (gName 3) (gCons (gName 4) gNil))) (tB (tCall (spD K R_rings) [] E0 (tCons (tVar 4) (tCons (tVar 2) tNil)))) (tVar 3) [3, 4]) tNil))))))
def t_l_cell_at (K : PySem.W.Frag) (E : XK) : TS :=
  (tSeq (tIfS (tTest (tOp rLtI (tVar 1) (tCB (rLen K) (tCons (tVar 0) tNil)))) (tRet (tOp (rIx K) (tVar 0) (tVar 1))) tNext)
  (tRet (tC (.int 0))))
def t_l_whole (K : PySem.W.Frag) (E : XK) : TS :=
  (tRet (tAndV (tCB (rIsi K) (tCons (tVar 0) (tCons (tC (.ty "int")) tNil))) (tNotV (tCB (rIsi K) (tCons (tVar 0) (tCons (tC (.ty "bool")) tNil))))))
def t_l_divisor (K : PySem.W.Frag) (E : XK) : TS :=
  (tSeq (tWhile (tTest (tOp (rNeA K) (tVar 1) (tC (.int 0)))) (tPar 0 1 (tCons (tVar 1) (tCons (tOp rModI (tVar 0) (tVar 1)) tNil))))
  (tRet (tVar 0)))
def t_l_names (K : PySem.W.Frag) (E : XK) : TS :=
  (tSeq (tAsg (tC (.str "abcdefghijklmnopqrstuvwxyz")) (gName 1))
  (tSeq (tAsg (tC (.str "")) (gName 2))
  (tSeq (tFor (iRng1 (tCons (tOp rAddA (tC (.int 1)) (tOp rModI (tVar 0) (tC (.int 19)))) tNil)) (gName 3) (tAsg (tOp rAddA (tVar 2) (tOp (rIx K) (tVar 1) (tOp rModI (tOp rAddA (tOp rDivI (tVar 0) (tC (.int 361))) (tOp rMulI (tOp rMulI (tVar 3) (tVar 3)) (tOp rAddA (tC (.int 1)) (tOp rModI (tOp rDivI (tVar 0) (tC (.int 7))) (tC (.int 5)))))) (tC (.int 26))))) (gName 2)))
  (tSeq (tAsg (tOp rModI (tOp rDivI (tVar 0) (tC (.int 19))) (tCB (rLen K) (tCons (tVar 2) tNil))) (gName 4))
  (tSeq (tAsg (tLc (iStr (tVar 1)) (gName 9) tYes (tOp rAddA (tOp rAddA (tSl rSlS (tVar 2) tNoPart (tPart (tVar 4))) (tVar 9)) (tSl rSlS (tVar 2) (tPart (tOp rAddA (tVar 4) (tC (.int 1)))) tNoPart)) [9]) (gName 5))
  (tSeq (tAsg (tOp (rIx K) (tVar 1) (tOp rModI (tOp rDivI (tVar 0) (tC (.int 361))) (tC (.int 26)))) (gName 6))
  (tSeq (tFor (iSeq K (tSl (rSlL K) (tVar 5) tNoPart (tPart (tC (.int 3))))) (gName 7) (tFor (iSeq K (tLst (tCons (tOp rAddA (tVar 7) (tVar 6)) (tCons (tOp rAddA (tVar 6) (tVar 7)) tNil)))) (gName 8) (tIfS (tTest (tOp (rIn K true) (tVar 8) (tVar 5))) (tAsg (tOp rAddA (tVar 5) (tLst (tCons (tVar 8) tNil))) (gName 5)) tNext)))
  (tRet (tVar 5)))))))))
def t_l_name (K : PySem.W.Frag) (E : XK) : TS :=
  (tSeq (tIfS (tOr (tTest (tOp rGeI (tOp rModI (tVar 2) (tC (.int 4))) (tVar 3))) (tTest (tOp (rEqA K) (tCB (rLen K) (tCons (tVar 0) tNil)) (tC (.int 0))))) (tRet (tOp (rIx K) (tVar 1) (tOp rModI (tOp rDivI (tVar 2) (tC (.int 4))) (tCB (rLen K) (tCons (tVar 1) tNil))))) tNext)
  (tRet (tOp (rIx K) (tOp (rIx K) (tVar 0) (tOp rModI (tOp rDivI (tVar 2) (tC (.int 4))) (tCB (rLen K) (tCons (tVar 0) tNil)))) (tC (.int 0)))))
def t_l_new_name (K : PySem.W.Frag) (E : XK) : TS :=
  (tSeq (tAsg (tLc (iSeq K (tVar 0)) (gName 3) tYes (tOp (rIx K) (tVar 3) (tC (.int 0))) [3]) (gName 2))
  (tRet (tOp (rIx K) (tLc (iSeq K (tVar 1)) (gName 4) (tTest (tOp (rIn K true) (tVar 4) (tVar 2))) (tVar 4) [4]) (tC (.int 0)))))
def t_l_gap (K : PySem.W.Frag) (E : XK) : TS :=
  (tSeq (tAsg (tOp rDivI (tVar 0) (tC (.int 6))) (gName 1))
  (tSeq (tAsg (tLst (tCons (tOp rAddA (tC (.int 1)) (tOp rModI (tVar 1) (tC (.int 12)))) (tCons (tOp rMulI (tOp (rIx K) (tLst (tCons (tC (.int 2)) (tCons (tC (.int 4)) (tCons (tC (.int 8)) (tCons (tC (.int 3)) tNil))))) (tOp rModI (tVar 1) (tC (.int 4)))) (tOp (rIx K) (tLst (tCons (tC (.int 1)) (tCons (tC (.int 3)) (tCons (tC (.int 9)) (tCons (tC (.int 5)) tNil))))) (tOp rModI (tOp rDivI (tVar 1) (tC (.int 4))) (tC (.int 4))))) (tCons (tOp rAddA (tC (.int 1)) (tOp rModI (tVar 1) (tOp rPowI (tC (.int 10)) (tC (.int 9))))) tNil)))) (gName 2))
  (tSeq (tAsg (tOp rAddA (tVar 2) (tLst (tCons (tOp rMulI (tC (.int 12)) (tOp rAddA (tC (.int 1)) (tOp rModI (tVar 1) (tC (.int 1000))))) (tCons (tC (.int 24)) (tCons (tOp rSubI (tC (.int 0)) (tOp rModI (tVar 1) (tOp rPowI (tC (.int 10)) (tC (.int 9))))) tNil))))) (gName 2))
  (tRet (tOp (rIx K) (tVar 2) (tOp rModI (tVar 0) (tC (.int 6))))))))
def t_l_kinds (K : PySem.W.Frag) (a : Addr) (cls : Value) (d : Option Addr) (E : XK) : TS :=
  (tSeq (tAsg (tLst (tCons (tCB (rIsY K a cls d) (tCons (tVar 0) (tCons (tC (.ty "ValueError")) tNil))) (tCons (tCB (rIsY K a cls d) (tCons (tVar 0) (tCons (tC (.ref (He.ga K "NoBeat"))) tNil))) (tCons (tCB (rIsY K a cls d) (tCons (tVar 0) (tCons (tC (.ref (He.ga K "NoBell"))) tNil))) (tCons (tCB (rIsY K a cls d) (tCons (tVar 0) (tCons (tC (.ref (He.ga K "TooMany"))) tNil))) tNil))))) (gName 1))
  (tRet (tOp rAddA (tVar 1) (tLst (tCons (tCB (rIsY K a cls d) (tCons (tVar 0) (tCons (tC (.ref (He.ga K "Twice"))) tNil))) (tCons (tCB (rIsY K a cls d) (tCons (tVar 0) (tCons (tC (.ref (He.ga K "NoName"))) tNil))) (tCons (tCB (rIsY K a cls d) (tCons (tVar 0) (tCons (tC (.ref (He.ga K "Clash"))) tNil))) tNil)))))))
def t_l_kindsT (K : PySem.W.Frag) (E : XK) : TS :=
  (tSeq (tAsg (tLst (tCons (tCB (rIsT K) (tCons (tVar 0) (tCons (tC (.ty "ValueError")) tNil))) (tCons (tCB (rIsT K) (tCons (tVar 0) (tCons (tC (.ref (He.ga K "NoBeat"))) tNil))) (tCons (tCB (rIsT K) (tCons (tVar 0) (tCons (tC (.ref (He.ga K "NoBell"))) tNil))) (tCons (tCB (rIsT K) (tCons (tVar 0) (tCons (tC (.ref (He.ga K "TooMany"))) tNil))) tNil))))) (gName 1))
  (tRet (tOp rAddA (tVar 1) (tLst (tCons (tCB (rIsT K) (tCons (tVar 0) (tCons (tC (.ref (He.ga K "Twice"))) tNil))) (tCons (tCB (rIsT K) (tCons (tVar 0) (tCons (tC (.ref (He.ga K "NoName"))) tNil))) (tCons (tCB (rIsT K) (tCons (tVar 0) (tCons (tC (.ref (He.ga K "Clash"))) tNil))) tNil)))))))
def t_l_only (K : PySem.W.Frag) (E : XK) : TS :=
  (tRet (tOp rAddA (tLst (tCons (tC (.bl true)) tNil)) (tLc (iRng1 (tCons (tC (.int 6)) tNil)) (gName 1) tYes (tOp (rEqA K) (tVar 1) (tVar 0)) [1])))
def t_l_fields (K : PySem.W.Frag) (a : Addr) (cls : Value) (d : Option Addr) (E : XK) : TS :=
  (tSeq (tIfS (tB (tCB (rIsY K a cls d) (tCons (tVar 0) (tCons (tC (.ref (He.ga K "Clash"))) tNil)))) (tRet (tLst (tCons (tXf a cls d (He.ga K "Clash") "first" (tVar 0)) (tCons (tXf a cls d (He.ga K "Clash") "second" (tVar 0)) (tCons (tXf a cls d (He.ga K "Clash") "divisor" (tVar 0)) tNil))))) tNext)
  (tRet (tLst tNil)))
def t_l_fieldsT (K : PySem.W.Frag) (E : XK) : TS :=
  (tSeq (tIfS (tB (tCB (rIsT K) (tCons (tVar 0) (tCons (tC (.ref (He.ga K "Clash"))) tNil)))) (tRet (tLst (tCons (tXfT K "first" (tVar 0)) (tCons (tXfT K "second" (tVar 0)) (tCons (tXfT K "divisor" (tVar 0)) tNil))))) tNext)
  (tRet (tLst tNil)))
def t_l_hang (K : PySem.W.Frag) (E : XK) : TS :=
  (tSeq (tAsg (tLst tNil) (gName 6))
  (tSeq (tAsg (tC .non) (gName 7))
  (tSeq (tTryAs K (.ref (He.ga K "KnellError")) 8 (fun W => (tIfS (tB (tVar 5)) (tAsg (tMethE (He.ga K "Tower") "hang" (spM K (R_T_hang K)) [.int 24] (WE W) (tVar 0) (tCons (tVar 2) (tCons (tVar 3) tNil))) (gName 7)) (tIfS (tTest (tOp (rEqA K) (tOp rModI (tVar 4) (tC (.int 3))) (tC (.int 0)))) (tAsg (tMethKE (He.ga K "Tower") "hang" 2 1 (spM K (R_T_hang K)) (fun vs zs => vs ++ zs) (WE W) (tVar 0) (tCons (tVar 2) (tCons (tVar 3) tNil)) (tCons (tVar 4) tNil)) (gName 7)) (tAsg (tMethE (He.ga K "Tower") "hang" (spM K (R_T_hang K)) [] (WE W) (tVar 0) (tCons (tVar 2) (tCons (tVar 3) (tCons (tVar 4) tNil)))) (gName 7))))) (fun a cls d => (tAsg (tCall (spM K (R_l_kinds K a cls d)) [] E0 (tCons (tVar 8) tNil)) (gName 6))))
  (tSeq (tIfS (tB (tNotN (tVar 7))) (tRet (tC (.bl false))) tNext)
  (tSeq (tIfS (tTest (tOp (rIn K false) (tVar 2) (tLc (iSeq K (tVar 1)) (gName 9) tYes (tOp (rIx K) (tVar 9) (tC (.int 0))) [9]))) (tRet (tOp (rEqA K) (tVar 6) (tCall (spD K R_l_only) [] E0 (tCons (tC (.int 3)) tNil)))) tNext)
  (tSeq (tIfS (tTest (tOp rLtI (tVar 4) (tC (.int 1)))) (tRet (tOp (rEqA K) (tVar 6) (tCall (spD K R_l_only) [] E0 (tCons (tC (.int 0)) tNil)))) tNext)
  (tSeq (tDrop (tBM K "list" rAppend (tVar 1) (tCons (tTup (tCons (tVar 2) (tCons (tTup (tCons (tOp rModI (tVar 3) (tVar 4)) (tCons (tVar 4) tNil))) tNil))) tNil)))
  (tRet (tOp (rEqA K) (tVar 6) (tLst tNil))))))))))
def t_l_is_beat (K : PySem.W.Frag) (E : XK) : TS :=
  (tSeq (tIfS (tOr (tNot (tB (tCB (rIsi K) (tCons (tVar 0) (tCons (tC (.ty "tuple")) tNil))))) (tTest (tOp (rNeA K) (tCB (rLen K) (tCons (tVar 0) tNil)) (tC (.int 2))))) (tRet (tC (.bl false))) tNext)
  (tRet (tAndV (tCall (spD K R_l_whole) [] E0 (tCons (tOp (rIx K) (tVar 0) (tC (.int 0))) tNil)) (tAndV (tCall (spD K R_l_whole) [] E0 (tCons (tOp (rIx K) (tVar 0) (tC (.int 1))) tNil)) (tOp (rEqA K) (tVar 0) (tVar 1))))))
def t_l_take (K : PySem.W.Frag) (E : XK) : TS :=
  (tSeq (tAsg (tLst tNil) (gName 4))
  (tSeq (tAsg (tC .non) (gName 5))
  (tSeq (tTryAs K (.ref (He.ga K "KnellError")) 6 (fun W => (tAsg (tMethE (He.ga K "Tower") "take" (spM K (R_T_take K)) [] (WE W) (tVar 0) (tCons (tVar 3) tNil)) (gName 5))) (fun a cls d => (tAsg (tCall (spM K (R_l_kinds K a cls d)) [] E0 (tCons (tVar 6) tNil)) (gName 4))))
  (tSeq (tAsg (tLc (iRng1 (tCons (tCB (rLen K) (tCons (tVar 1) tNil)) tNil)) (gName 9) (tTest (tOp (rEqA K) (tOp (rIx K) (tOp (rIx K) (tVar 1) (tVar 9)) (tC (.int 0))) (tVar 3))) (tVar 9) [9]) (gName 7))
  (tSeq (tIfS (tTest (tOp (rEqA K) (tCB (rLen K) (tCons (tVar 7) tNil)) (tC (.int 0)))) (tRet (tAndV (tIsN (tVar 5)) (tOp (rEqA K) (tVar 4) (tCall (spD K R_l_only) [] E0 (tCons (tC (.int 4)) tNil))))) tNext)
  (tSeq (tAsg (tOp (rIx K) (tBM K "list" rPopAt (tVar 1) (tCons (tOp (rIx K) (tVar 7) (tC (.int 0))) tNil)) (tC (.int 1))) (gName 8))
  (tSeq (tIfS (tTest (tOp rLtI (tOp (rIx K) (tVar 7) (tC (.int 0))) (tOp (rIx K) (tVar 2) (tC (.int 0))))) (tAsg (tOp rSubI (tOp (rIx K) (tVar 2) (tC (.int 0))) (tC (.int 1))) (gSub (tVar 2) (tC (.int 0)) rSetL)) tNext)
  (tRet (tAndV (tOp (rEqA K) (tVar 4) (tLst tNil)) (tCall (spD K R_l_is_beat) [] E0 (tCons (tVar 5) (tCons (tVar 8) tNil))))))))))))
def t_l_trouble (K : PySem.W.Frag) (E : XK) : TS :=
  (tSeq (tWhile (tTest (tOp rLtI (tOp (rIx K) (tVar 1) (tC (.int 0))) (tCB (rLen K) (tCons (tVar 0) tNil)))) (tSeq (tAsg (tOp (rIx K) (tVar 0) (tOp (rIx K) (tVar 1) (tC (.int 0)))) (gTup K 2 (gCons (gName 2) (gCons (gName 3) gNil))))
  (tSeq (tFor (iRng1 (tCons (tOp (rIx K) (tVar 1) (tC (.int 0))) tNil)) (gName 4) (tSeq (tAsg (tCall (spD K R_l_divisor) [] E0 (tCons (tOp (rIx K) (tOp (rIx K) (tOp (rIx K) (tVar 0) (tVar 4)) (tC (.int 1))) (tC (.int 1))) (tCons (tOp (rIx K) (tVar 3) (tC (.int 1))) tNil))) (gName 5))
  (tIfS (tTest (tOp (rNeA K) (tOp rModI (tOp rSubI (tOp (rIx K) (tOp (rIx K) (tOp (rIx K) (tVar 0) (tVar 4)) (tC (.int 1))) (tC (.int 0))) (tOp (rIx K) (tVar 3) (tC (.int 0)))) (tVar 5)) (tC (.int 0)))) (tRet (tLst (tCons (tOp (rIx K) (tOp (rIx K) (tVar 0) (tVar 4)) (tC (.int 0))) (tCons (tVar 2) (tCons (tVar 5) tNil))))) tNext)))
  (tAsg (tOp rAddA (tOp (rIx K) (tVar 1) (tC (.int 0))) (tC (.int 1))) (gSub (tVar 1) (tC (.int 0)) rSetL)))))
  (tRet (tLst tNil)))
def t_l_asked (K : PySem.W.Frag) (E : XK) : TS :=
  (tSeq (tIfS (tAnd (tB (tVar 3)) (tB (tVar 2))) (tRet (tMethE (He.ga K "Tower") "next_together" (spM K (R_T_next_together K)) [.int 0] (fun _ => E) (tVar 0) tNil)) tNext)
  (tSeq (tIfS (tAnd (tB (tVar 3)) (tTest (tOp (rEqA K) (tOp rModI (tVar 1) (tC (.int 3))) (tC (.int 0))))) (tRet (tMethKE (He.ga K "Tower") "next_together" 0 1 (spM K (R_T_next_together K)) (fun vs zs => vs ++ zs) (fun _ => E) (tVar 0) tNil (tCons (tVar 1) tNil))) tNext)
  (tSeq (tIfS (tB (tVar 3)) (tRet (tMethE (He.ga K "Tower") "next_together" (spM K (R_T_next_together K)) [] (fun _ => E) (tVar 0) (tCons (tVar 1) tNil))) tNext)
  (tSeq (tIfS (tB (tVar 2)) (tRet (tMethE (He.ga K "Tower") "next_any" (spM K (R_T_next_any K)) [.int 0] (fun _ => E) (tVar 0) tNil)) tNext)
  (tSeq (tIfS (tTest (tOp (rEqA K) (tOp rModI (tVar 1) (tC (.int 3))) (tC (.int 0)))) (tRet (tMethKE (He.ga K "Tower") "next_any" 0 1 (spM K (R_T_next_any K)) (fun vs zs => vs ++ zs) (fun _ => E) (tVar 0) tNil (tCons (tVar 1) tNil))) tNext)
  (tRet (tMethE (He.ga K "Tower") "next_any" (spM K (R_T_next_any K)) [] (fun _ => E) (tVar 0) (tCons (tVar 1) tNil))))))))
def t_l_all_ring (K : PySem.W.Frag) (E : XK) : TS :=
  (tSeq (tAsg (tLst tNil) (gName 5))
  (tSeq (tAsg (tLst tNil) (gName 6))
  (tSeq (tAsg (tC .non) (gName 7))
  (tSeq (tTryAs K (.ref (He.ga K "KnellError")) 8 (fun W => (tAsg (tCallS (spM K (R_l_asked K)) (WE W) (tCons (tVar 0) (tCons (tVar 3) (tCons (tVar 4) (tCons (tC (.bl true)) tNil))))) (gName 7))) (fun a cls d => (tSeq (tAsg (tCall (spM K (R_l_kinds K a cls d)) [] E0 (tCons (tVar 8) tNil)) (gName 5))
  (tAsg (tCall (spM K (R_l_fields K a cls d)) [] E0 (tCons (tVar 8) tNil)) (gName 6)))))
  (tSeq (tAsg (tCall (spM K (R_l_trouble K)) [] E0 (tCons (tVar 1) (tCons (tVar 2) tNil))) (gName 9))
  (tSeq (tIfS (tTest (tOp rGtI (tCB (rLen K) (tCons (tVar 9) tNil)) (tC (.int 0)))) (tSeq (tIfS (tOr (tB (tNotN (tVar 7))) (tOr (tTest (tOp (rNeA K) (tVar 5) (tCall (spD K R_l_only) [] E0 (tCons (tC (.int 5)) tNil)))) (tNot (tB (tCall (spD K R_l_whole) [] E0 (tCons (tOp (rIx K) (tVar 6) (tC (.int 2))) tNil)))))) (tRet (tC (.bl false))) tNext)
  (tRet (tAndV (tCB (rIsi K) (tCons (tOp (rIx K) (tVar 6) (tC (.int 0))) (tCons (tC (.ty "str")) tNil))) (tAndV (tCB (rIsi K) (tCons (tOp (rIx K) (tVar 6) (tC (.int 1))) (tCons (tC (.ty "str")) tNil))) (tOp (rEqA K) (tVar 6) (tVar 9)))))) tNext)
  (tSeq (tIfS (tOr (tTest (tOp (rNeA K) (tVar 5) (tLst tNil))) (tOr (tNot (tB (tCall (spD K R_l_whole) [] E0 (tCons (tVar 7) tNil)))) (tTest (tOp rLtI (tVar 7) (tVar 3))))) (tRet (tC (.bl false))) tNext)
  (tSeq (tAsg (tC (.int 1)) (gName 10))
  (tSeq (tFor (iSeq K (tVar 1)) (gTup K 2 (gCons (gName 11) (gCons (gName 12) gNil))) (tSeq (tIfS (tTest (tOp (rNeA K) (tOp rModI (tOp rSubI (tVar 7) (tOp (rIx K) (tVar 12) (tC (.int 0)))) (tOp (rIx K) (tVar 12) (tC (.int 1)))) (tC (.int 0)))) (tRet (tC (.bl false))) tNext)
  (tAsg (tOp rMulI (tOp rDivI (tVar 10) (tCall (spD K R_l_divisor) [] E0 (tCons (tVar 10) (tCons (tOp (rIx K) (tVar 12) (tC (.int 1))) tNil)))) (tOp (rIx K) (tVar 12) (tC (.int 1)))) (gName 10))))
  (tRet (tOp rLtI (tOp rSubI (tVar 7) (tVar 10)) (tVar 3))))))))))))
def t_l_some_ring (K : PySem.W.Frag) (E : XK) : TS :=
  (tSeq (tAsg (tLst tNil) (gName 6))
  (tSeq (tAsg (tC .non) (gName 7))
  (tSeq (tTryAs K (.ref (He.ga K "KnellError")) 8 (fun W => (tAsg (tCallS (spM K (R_l_asked K)) (WE W) (tCons (tVar 0) (tCons (tVar 2) (tCons (tVar 3) (tCons (tC (.bl false)) tNil))))) (gName 7))) (fun a cls d => (tAsg (tCall (spM K (R_l_kinds K a cls d)) [] E0 (tCons (tVar 8) tNil)) (gName 6))))
  (tSeq (tIfS (tTest (tOp (rEqA K) (tCB (rLen K) (tCons (tVar 1) tNil)) (tC (.int 0)))) (tRet (tAndV (tIsN (tVar 7)) (tOp (rEqA K) (tVar 6) (tCall (spD K R_l_only) [] E0 (tCons (tC (.int 1)) tNil))))) tNext)
  (tSeq (tIfS (tOr (tTest (tOp (rNeA K) (tVar 6) (tLst tNil))) (tOr (tNot (tB (tCB (rIsi K) (tCons (tVar 7) (tCons (tC (.ty "tuple")) tNil))))) (tTest (tOp (rNeA K) (tCB (rLen K) (tCons (tVar 7) tNil)) (tC (.int 2)))))) (tRet (tC (.bl false))) tNext)
  (tSeq (tIfS (tOr (tNot (tB (tCall (spD K R_l_whole) [] E0 (tCons (tOp (rIx K) (tVar 7) (tC (.int 0))) tNil)))) (tOr (tTest (tOp rLtI (tOp (rIx K) (tVar 7) (tC (.int 0))) (tVar 2))) (tNot (tB (tCB (rIsi K) (tCons (tOp (rIx K) (tVar 7) (tC (.int 1))) (tCons (tC (.ty "list")) tNil))))))) (tRet (tC (.bl false))) tNext)
  (tSeq (tFor (iSeq K (tVar 1)) (gTup K 2 (gCons (gName 9) (gCons (gName 10) gNil))) (tIfS (tTest (tOp rLtI (tOp rAddA (tVar 2) (tOp rModI (tOp rSubI (tOp (rIx K) (tVar 10) (tC (.int 0))) (tVar 2)) (tOp (rIx K) (tVar 10) (tC (.int 1))))) (tOp (rIx K) (tVar 7) (tC (.int 0))))) (tRet (tC (.bl false))) tNext))
  (tSeq (tAsg (tLc (iSeq K (tVar 1)) (gTup K 2 (gCons (gName 9) (gCons (gName 10) gNil))) (tTest (tOp (rEqA K) (tOp rModI (tOp rSubI (tOp (rIx K) (tVar 7) (tC (.int 0))) (tOp (rIx K) (tVar 10) (tC (.int 0)))) (tOp (rIx K) (tVar 10) (tC (.int 1)))) (tC (.int 0)))) (tVar 9) [9, 10]) (gName 11))
  (tSeq (tIfS (tOr (tTest (tOp (rEqA K) (tCB (rLen K) (tCons (tVar 11) tNil)) (tC (.int 0)))) (tOr (tTest (tOp (rNeA K) (tOp (rIx K) (tVar 7) (tC (.int 1))) (tVar 11))) (tTest (tOp rGtI (tCB (rLen K) (tCons (tLc (iSeq K (tOp (rIx K) (tVar 7) (tC (.int 1)))) (gName 9) (tNot (tB (tCB (rIsi K) (tCons (tVar 9) (tCons (tC (.ty "str")) tNil))))) (tVar 9) [9]) tNil)) (tC (.int 0)))))) (tRet (tC (.bl false))) tNext)
  (tSeq (tIfS (tB (tVar 5)) (tSeq (tDrop (tBM0 K "list" rClear (tOp (rIx K) (tVar 7) (tC (.int 1)))))
  (tAsg (tLst tNil) (gName 11))) tNext)
  (tSeq (tDrop (tBM K "list" rAppend (tVar 4) (tCons (tTup (tCons (tOp (rIx K) (tVar 7) (tC (.int 1))) (tCons (tVar 11) tNil))) tNil)))
  (tRet (tC (.bl true))))))))))))))
def t_l_bells (K : PySem.W.Frag) (E : XK) : TS :=
  (tSeq (tAsg (tMethE (He.ga K "Tower") "bells" (spM K (R_T_bells K)) [] (fun _ => E0) (tVar 0) tNil) (gName 4))
  (tSeq (tIfS (tOr (tNot (tB (tCB (rIsi K) (tCons (tVar 4) (tCons (tC (.ty "list")) tNil))))) (tTest (tOp (rNeA K) (tCB (rLen K) (tCons (tVar 4) tNil)) (tCB (rLen K) (tCons (tVar 1) tNil))))) (tRet (tC (.bl false))) tNext)
  (tSeq (tFor (iRng1 (tCons (tCB (rLen K) (tCons (tVar 1) tNil)) tNil)) (gName 5) (tSeq (tIfS (tOr (tNot (tB (tCB (rIsi K) (tCons (tOp (rIx K) (tVar 4) (tVar 5)) (tCons (tC (.ty "tuple")) tNil))))) (tOr (tTest (tOp (rNeA K) (tCB (rLen K) (tCons (tOp (rIx K) (tVar 4) (tVar 5)) tNil)) (tC (.int 2)))) (tNot (tB (tCB (rIsi K) (tCons (tOp (rIx K) (tOp (rIx K) (tVar 4) (tVar 5)) (tC (.int 0))) (tCons (tC (.ty "str")) tNil))))))) (tRet (tC (.bl false))) tNext)
  (tIfS (tOr (tTest (tOp (rNeA K) (tOp (rIx K) (tOp (rIx K) (tVar 4) (tVar 5)) (tC (.int 0))) (tOp (rIx K) (tOp (rIx K) (tVar 1) (tVar 5)) (tC (.int 0))))) (tNot (tB (tCall (spD K R_l_is_beat) [] E0 (tCons (tOp (rIx K) (tOp (rIx K) (tVar 4) (tVar 5)) (tC (.int 1))) (tCons (tOp (rIx K) (tOp (rIx K) (tVar 1) (tVar 5)) (tC (.int 1))) tNil)))))) (tRet (tC (.bl false))) tNext)))
  (tSeq (tAsg (tCB (rListOf K) (tCons (tVar 1) tNil)) (gName 6))
  (tSeq (tIfS (tB (tVar 3)) (tSeq (tDrop (tBM0 K "list" rClear (tVar 4)))
  (tAsg (tLst tNil) (gName 6))) tNext)
  (tSeq (tDrop (tBM K "list" rAppend (tVar 2) (tCons (tTup (tCons (tVar 4) (tCons (tVar 6) tNil))) tNil)))
  (tRet (tC (.bl true)))))))))
def t_l_done (K : PySem.W.Frag) (E : XK) : TS :=
  (tSeq (tAsg (tOp rModI (tVar 4) (tC (.int 10))) (gName 7))
  (tSeq (tAsg (tOp rDivI (tVar 4) (tC (.int 10))) (gName 8))
  (tSeq (tAsg (tOp rSubI (tOp rModI (tOp rMulI (tOp rDivI (tVar 8) (tC (.int 3))) (tC (.int 48271))) (tOp rAddA (tOp rMulI (tC (.int 2)) (tOp rPowI (tC (.int 10)) (tC (.int 18)))) (tC (.int 1)))) (tOp rPowI (tC (.int 10)) (tC (.int 18)))) (gName 9))
  (tSeq (tIfS (tTest (tOp (rEqA K) (tOp rModI (tVar 8) (tC (.int 3))) (tC (.int 0)))) (tAsg (tOp rSubI (tOp rModI (tOp rDivI (tVar 8) (tC (.int 3))) (tC (.int 2001))) (tC (.int 1000))) (gName 9)) tNext)
  (tSeq (tAsg (tOp (rIn K false) (tVar 7) (tTup (tCons (tC (.int 2)) (tCons (tC (.int 6)) (tCons (tC (.int 7)) tNil))))) (gName 10))
  (tSeq (tIfS (tB (tVar 10)) (tAsg (tC (.int 0)) (gName 9)) tNext)
  (tSeq (tIfS (tOr (tTest (tOp (rEqA K) (tVar 7) (tC (.int 3)))) (tAnd (tTest (tOp rLtI (tVar 7) (tC (.int 3)))) (tTest (tOp rGeI (tCB (rLen K) (tCons (tVar 1) tNil)) (tC (.int 12)))))) (tRet (tCall (spM K (R_l_take K)) [] E0 (tCons (tVar 0) (tCons (tVar 1) (tCons (tVar 2) (tCons (tCall (spD K R_l_name) [] E0 (tCons (tVar 1) (tCons (tVar 3) (tCons (tVar 8) (tCons (tC (.int 3)) tNil))))) tNil)))))) tNext)
  (tSeq (tIfS (tTest (tOp rLtI (tVar 7) (tC (.int 3)))) (tSeq (tAsg (tCall (spD K R_l_gap) [] E0 (tCons (tOp rModI (tOp rMulI (tVar 4) (tC (.int 48271))) (tOp rAddA (tOp rPowI (tC (.int 10)) (tC (.int 12))) (tC (.int 39)))) tNil)) (gName 11))
  (tSeq (tIfS (tB (tVar 10)) (tAsg (tC (.int 24)) (gName 11)) tNext)
  (tSeq (tAsg (tOp rModI (tOp rMulI (tVar 8) (tC (.int 69621))) (tC (.int 2147483629))) (gName 12))
  (tSeq (tAsg (tOp rAddA (tOp rSubI (tOp rModI (tCall (spD K R_l_cell_at) [] E0 (tCons (tVar 5) (tCons (tC (.int 1)) tNil))) (tOp rAddA (tOp rMulI (tC (.int 2)) (tOp rPowI (tC (.int 10)) (tC (.int 18)))) (tC (.int 1)))) (tOp rPowI (tC (.int 10)) (tC (.int 18)))) (tOp rMulI (tVar 11) (tOp rSubI (tVar 12) (tOp rPowI (tC (.int 10)) (tC (.int 9)))))) (gName 13))
  (tSeq (tIfS (tAnd (tTest (tOp (rEqA K) (tOp rModI (tCall (spD K R_l_cell_at) [] E0 (tCons (tVar 5) (tCons (tC (.int 2)) tNil))) (tC (.int 2))) (tC (.int 1)))) (tTest (tOp (rEqA K) (tOp rModI (tOp rDivI (tVar 12) (tC (.int 32))) (tC (.int 4))) (tC (.int 0))))) (tAsg (tOp rAddA (tOp rAddA (tVar 13) (tC (.int 1))) (tOp rModI (tOp rDivI (tVar 12) (tC (.int 128))) (tC (.int 5)))) (gName 13)) tNext)
  (tRet (tCall (spM K (R_l_hang K)) [] E0 (tCons (tVar 0) (tCons (tVar 1) (tCons (tCall (spD K R_l_name) [] E0 (tCons (tVar 1) (tCons (tVar 3) (tCons (tVar 8) (tCons (tC (.int 1)) tNil))))) (tCons (tVar 13) (tCons (tVar 11) (tCons (tVar 10) tNil))))))))))))) tNext)
  (tSeq (tIfS (tOr (tTest (tOp (rEqA K) (tVar 7) (tC (.int 4)))) (tTest (tOp (rEqA K) (tVar 7) (tC (.int 6))))) (tRet (tCall (spM K (R_l_all_ring K)) [] E0 (tCons (tVar 0) (tCons (tVar 1) (tCons (tVar 2) (tCons (tVar 9) (tCons (tVar 10) tNil))))))) tNext)
  (tSeq (tIfS (tOr (tTest (tOp (rEqA K) (tVar 7) (tC (.int 5)))) (tTest (tOp (rEqA K) (tVar 7) (tC (.int 7))))) (tRet (tCall (spM K (R_l_some_ring K)) [] E0 (tCons (tVar 0) (tCons (tVar 1) (tCons (tVar 9) (tCons (tVar 10) (tCons (tVar 6) (tCons (tOp (rEqA K) (tOp rModI (tOp rDivI (tVar 8) (tC (.int 3))) (tC (.int 3))) (tC (.int 0))) tNil)))))))) tNext)
  (tRet (tCall (spM K (R_l_bells K)) [] E0 (tCons (tVar 0) (tCons (tVar 1) (tCons (tVar 6) (tCons (tOp (rEqA K) (tOp rModI (tOp rDivI (tVar 8) (tC (.int 3))) (tC (.int 3))) (tC (.int 0))) tNil))))))))))))))))
def t_l_made_good (K : PySem.W.Frag) (E : XK) : TS :=
  (tSeq (tFor (iRng1 (tCons (tC (.int 3)) tNil)) (gName 6) (tSeq (tAsg (tCall (spM K (R_l_trouble K)) [] E0 (tCons (tVar 1) (tCons (tVar 2) tNil))) (gName 7))
  (tSeq (tIfS (tNot (tB (tCall (spM K (R_l_all_ring K)) [] E0 (tCons (tVar 0) (tCons (tVar 1) (tCons (tVar 2) (tCons (tVar 4) (tCons (tC (.bl false)) tNil)))))))) (tRet (tC (.bl false))) tNext)
  (tIfS (tAnd (tTest (tOp rGtI (tCB (rLen K) (tCons (tVar 7) tNil)) (tC (.int 0)))) (tNot (tB (tCall (spM K (R_l_take K)) [] E0 (tCons (tVar 0) (tCons (tVar 1) (tCons (tVar 2) (tCons (tOp (rIx K) (tVar 7) (tC (.int 1))) tNil)))))))) (tRet (tC (.bl false))) tNext))))
  (tSeq (tAsg (tCall (spD K R_l_new_name) [] E0 (tCons (tVar 1) (tCons (tVar 3) tNil))) (gName 8))
  (tSeq (tIfS (tOr (tNot (tB (tCall (spM K (R_l_take K)) [] E0 (tCons (tVar 0) (tCons (tVar 1) (tCons (tVar 2) (tCons (tVar 8) tNil))))))) (tNot (tB (tCall (spM K (R_l_hang K)) [] E0 (tCons (tVar 0) (tCons (tVar 1) (tCons (tVar 8) (tCons (tVar 4) (tCons (tC (.int 24)) (tCons (tC (.bl true)) tNil)))))))))) (tRet (tC (.bl false))) tNext)
  (tSeq (tIfS (tOr (tNot (tB (tCall (spM K (R_l_some_ring K)) [] E0 (tCons (tVar 0) (tCons (tVar 1) (tCons (tVar 4) (tCons (tC (.bl false)) (tCons (tVar 5) (tCons (tC (.bl false)) tNil))))))))) (tNot (tB (tCall (spM K (R_l_take K)) [] E0 (tCons (tVar 0) (tCons (tVar 1) (tCons (tVar 2) (tCons (tVar 8) tNil)))))))) (tRet (tC (.bl false))) tNext)
  (tRet (tCall (spM K (R_l_bells K)) [] E0 (tCons (tVar 0) (tCons (tVar 1) (tCons (tVar 5) (tCons (tC (.bl false)) tNil))))))))))
def t_l_clash_made (K : PySem.W.Frag) (E : XK) : TS :=
  (tSeq (tAsg (tMkV (He.ga K "Clash") (tMkO (He.ga K "Clash") (spM K (R_C_init K)) [] (tCons (tOp (rIx K) (tVar 0) (tC (.int 0))) (tCons (tOp (rIx K) (tVar 0) (tC (.int 1))) (tCons (tOp rAddA (tC (.int 2)) (tOp rModI (tVar 1) (tOp rPowI (tC (.int 10)) (tC (.int 18))))) tNil))))) (gName 2))
  (tRet (tAndV (tOp (rEqA K) (tCall (spM K (R_l_fieldsT K)) [] E0 (tCons (tVar 2) tNil)) (tLst (tCons (tOp (rIx K) (tVar 0) (tC (.int 0))) (tCons (tOp (rIx K) (tVar 0) (tC (.int 1))) (tCons (tOp rAddA (tC (.int 2)) (tOp rModI (tVar 1) (tOp rPowI (tC (.int 10)) (tC (.int 18))))) tNil))))) (tOp (rEqA K) (tCall (spM K (R_l_kindsT K)) [] E0 (tCons (tVar 2) tNil)) (tCall (spD K R_l_only) [] E0 (tCons (tC (.int 5)) tNil))))))
def t_law (K : PySem.W.Frag) (E : XK) : TS :=
  (tSeq (tAsg (tCall (spD K R_l_names) [] E0 (tCons (tCall (spD K R_l_cell_at) [] E0 (tCons (tVar 0) (tCons (tC (.int 0)) tNil))) tNil)) (gName 1))
  (tSeq (tIfS (tNot (tB (tCall (spM K (R_l_clash_made K)) [] E0 (tCons (tVar 1) (tCons (tCall (spD K R_l_cell_at) [] E0 (tCons (tVar 0) (tCons (tC (.int 1)) tNil))) tNil))))) (tRet (tC (.bl false))) tNext)
  (tSeq (tAsg (tLst (tCons (tMake (He.ga K "Tower") (spM K (R_T_init K)) [] E0 tNil) (tCons (tMake (He.ga K "Tower") (spM K (R_T_init K)) [] E0 tNil) tNil))) (gName 2))
  (tSeq (tAsg (tLst (tCons (tLst tNil) (tCons (tLst tNil) tNil))) (gName 3))
  (tSeq (tAsg (tLst (tCons (tLst (tCons (tC (.int 0)) tNil)) (tCons (tLst (tCons (tC (.int 0)) tNil)) tNil))) (gName 4))
  (tSeq (tAsg (tLst tNil) (gName 5))
  (tSeq (tFor (iSeq K (tSl (rSlL K) (tVar 0) (tPart (tC (.int 3))) (tPart (tC (.int 63))))) (gName 6) (tSeq (tAsg (tCB (rInt1) (tCons (tOp (rEqA K) (tOp rModI (tOp rDivI (tOp rModI (tOp rMulI (tVar 6) (tC (.int 40692))) (tC (.int 2147483399))) (tC (.int 1024))) (tC (.int 4))) (tC (.int 0))) tNil)) (gName 7))
  (tIfS (tNot (tB (tCall (spM K (R_l_done K)) [] E0 (tCons (tOp (rIx K) (tVar 2) (tVar 7)) (tCons (tOp (rIx K) (tVar 3) (tVar 7)) (tCons (tOp (rIx K) (tVar 4) (tVar 7)) (tCons (tVar 1) (tCons (tVar 6) (tCons (tVar 0) (tCons (tVar 5) tNil)))))))))) (tRet (tC (.bl false))) tNext)))
  (tSeq (tAsg (tOp rSubI (tOp rModI (tOp rDivI (tCall (spD K R_l_cell_at) [] E0 (tCons (tVar 0) (tCons (tC (.int 2)) tNil))) (tC (.int 2))) (tOp rAddA (tOp rMulI (tC (.int 2)) (tOp rPowI (tC (.int 10)) (tC (.int 18)))) (tC (.int 1)))) (tOp rPowI (tC (.int 10)) (tC (.int 18)))) (gName 8))
  (tSeq (tFor (iRng1 (tCons (tC (.int 2)) tNil)) (gName 7) (tIfS (tNot (tB (tCall (spM K (R_l_made_good K)) [] E0 (tCons (tOp (rIx K) (tVar 2) (tVar 7)) (tCons (tOp (rIx K) (tVar 3) (tVar 7)) (tCons (tOp (rIx K) (tVar 4) (tVar 7)) (tCons (tVar 1) (tCons (tVar 8) (tCons (tVar 5) tNil))))))))) (tRet (tC (.bl false))) tNext))
  (tSeq (tFor (iSeq K (tVar 5)) (gTup K 2 (gCons (gName 9) (gCons (gName 10) gNil))) (tIfS (tTest (tOp (rNeA K) (tVar 9) (tVar 10))) (tRet (tC (.bl false))) tNext))
  (tRet (tC (.bl true)))))))))))))

theorem body_C_init {K : PySem.W.Frag} (xx : exK K = true) : BodyM K 4 (t_C_init K) (R_C_init K) := by
  rintro ds μ P X b E rfl ⟨a, x, y, n, rfl, ha, hP⟩ _
  obtain ⟨n1, n2, n3⟩ := exK_cf xx
  have o := (exK_cl xx).o
  refine stM_seq (stM_ostNew (d := .non) (v := .str x) rfl ha o n1 (fun σ Hv H Q A q => ?_) fun dd hdd hne => ?_)
  · obtain ⟨w, ev, rv⟩ := A.dat 1 _ rfl
    exact ⟨w, ev, rv.str_inv ▸ q⟩
  refine stM_seq (stM_ostOld (dd := dd) (v := .str y) rfl updM_same (by rw [updM_ne hne, updM_same]) o n2 (by simp only [List.length_cons, List.length_nil]; decide) (fun σ Hv H Q A q => ?_) ?_)
  · obtain ⟨w, ev, rv⟩ := A.dat 2 _ rfl
    exact ⟨w, ev, rv.str_inv ▸ q⟩
  refine stM_ostOld (dd := dd) (v := .int n) rfl (by rw [updM_ne hne.symm, updM_same]) updM_same o n3 (by simp only [List.length_cons, List.length_nil]; decide) (fun σ Hv H Q A q => ?_) ?_
  · obtain ⟨w, ev, rv⟩ := A.dat 3 _ rfl
    exact ⟨w, ev, rv.int_inv ▸ q⟩
  exact hP _ _ ⟨rfl, dd, hdd, hne, upd_last hne⟩

theorem body_beat {K : PySem.W.Frag} : BodyD K 2 (t_beat K) (R_beat K) := by
  rintro ds o b E ⟨f, g, rfl, h⟩ hx
  refine st_seq (st_if (c := decide (g < 1)) ?_ (fun h1 => ?_) fun h1 => ?_)
  · wtm_at "ev"
  · rcases h with ⟨h, rfl⟩ | ⟨h, rfl⟩
    · exact absurd (of_decide_eq_true h1) (by omega)
    · exact st_raise (hx _ rfl)
  · have h2 := of_decide_eq_false h1
    rcases h with ⟨h, rfl⟩ | ⟨h, rfl⟩
    · refine st_next (st_ret (d := .tup [.int (f % g), .int g]) ?_ rfl)
      wtm_at "ev"
    · exact absurd h h2

theorem body_rings {K : PySem.W.Frag} : BodyD K 2 (t_rings K) R_rings := by
  rintro ds o b E ⟨r, g, m, rfl, h, rfl⟩ _
  refine st_ret (d := .bl (decide (m % g = r))) ?_ rfl
  wtm_at "ev"

theorem body_next_from {K : PySem.W.Frag} : BodyD K 2 (t_next_from K) R_next_from := by
  rintro ds o b E ⟨r, g, m, rfl, h, rfl⟩ _
  refine st_ret (d := .int (m + (r - m) % g)) ?_ rfl
  wtm_at "ev"

theorem body_weights {K : PySem.W.Frag} : BodyD K 9 (t_weights K) R_weights := by
  rintro ds o b E ⟨a, c, rfl, ha, hc, rfl⟩ _
  have hB : ∀ {x : Int}, x.natAbs ≤ a.natAbs + 2 * c.natAbs + 1 → Sm 8002 x := fun h => sm_sum ha hc h
  refine st_seq (st_set (d := .int a) (evd_var rfl) ?_)
  refine st_seq (st_set evd_int ?_)
  refine st_seq (st_set evd_int ?_)
  refine st_seq (st_set (d := .int c) (evd_var rfl) ?_)
  refine st_seq (st_set evd_int ?_)
  refine st_seq (st_set evd_int ?_)
  refine st_seq (st_while (fun m r => ∃ (here u v there ou ov : Int) (y : Option SD), r = [some (.dat (.int a)), some (.dat (.int c)), some (.dat (.int here)), some (.dat (.int u)), some (.dat (.int v)), some (.dat (.int there)), some (.dat (.int ou)), some (.dat (.int ov)), y] ∧
    WJ a c (a.natAbs + 2 * c.natAbs + 1) here u v there ou ov ∧ m = there.natAbs ∧ wl here u v there ou ov = wl a 1 0 c 0 1) c.natAbs ⟨a, 1, 0, c, 0, 1, none, rfl, wj_start a c, rfl, rfl⟩ ?_)
  rintro m r ⟨here, u, v, there, ou, ov, y, rfl, J, rfl, hw⟩
  refine ⟨!decide (there = 0), ?_, fun h => ?_, fun h => ?_⟩
  · wtm_at "ev"
  · have ht : there ≠ 0 := by simpa using h
    have st : Sm 8002 there := hB (by have := J.bt; omega)
    have sby : Sm 8002 (here.fdiv there) := (hB J.bh).le (Int.natAbs_fdiv_le_natAbs here there)
    refine st_seq (st_set (d := .int (here.fdiv there)) (evd_op (d := .int here) (e := .int there) (evd_var rfl) (evd_var rfl) (rd_div ⟨ht, divOk st (by decide)⟩)) ?_)
    refine st_seq (st_par (d := .int there) (e := .int (here - here.fdiv there * there)) ?_ ?_)
    · wtm_at "ev"
      exact mulOk sby st (by decide)
    refine st_seq (st_par (d := .int ou) (e := .int (u - here.fdiv there * ou)) ?_ ?_)
    · wtm_at "ev"
      exact mulOk sby (hB J.bou) (by decide)
    refine st_par (d := .int ov) (e := .int (v - here.fdiv there * ov)) ?_ ?_
    · wtm_at "ev"
      exact mulOk sby (hB J.bov) (by decide)
    exact ⟨_, rest_lt ht, there, ou, ov, _, _, _, _, rfl, wj_step (Nat.le_refl _) J ht, rfl, by rw [← hw, wl_step ht]⟩
  · have ht : there = 0 := by simpa using h
    subst ht
    rw [wl_zero] at hw
    have h1 : (wl a 1 0 c 0 1).1 = here := by rw [← hw]
    have h2 : (wl a 1 0 c 0 1).2.1 = u := by rw [← hw]
    have h3 : (wl a 1 0 c 0 1).2.2 = v := by rw [← hw]
    have e := wRes_eq a c
    unfold wRes at e
    rw [h1, h2, h3] at e
    refine st_seq (st_if (c := decide (here < 0)) ?_ (fun h => ?_) fun h => ?_)
    · wtm_at "ev"
    · have hn : here < 0 := of_decide_eq_true h
      rw [if_pos hn] at e
      injection e with q1 q2
      injection q2 with q2 q3
      refine st_ret (d := .tup [.int (0 - here), .int (0 - u), .int (0 - v)]) ?_ ?_
      · wtm_at "ev"
      · show Out.ret _ = Out.ret _
        rw [q1, q2, q3]
    · have hn : ¬ here < 0 := of_decide_eq_false h
      rw [if_neg hn] at e
      refine st_next (st_ret (d := .tup [.int here, .int u, .int v]) ?_ ?_)
      · wtm_at "ev"
      · show Out.ret _ = Out.ret _
        have q : (here, u, v) = ((Int.gcd a c : Int), wU a c, wV a c) := by rw [hw]; exact e
        injection q with q1 q2
        injection q2 with q2 q3
        rw [q1, q2, q3]

theorem body_clash {K : PySem.W.Frag} : BodyD K 3 (t_clash K) R_clash := by
  rintro ds o b E ⟨r, g, s, h, rfl, hg, hh, sg, sh, rfl⟩ _
  have hp := gcI_pos (h := h) hg
  refine st_seq (st_set (d := .int (gcI g h)) (evd_op (d := .tup [.int (Int.gcd g h), .int (wU g h), .int (wV g h)]) ?_ evd_int (rd_ix rfl rfl)) ?_)
  · wtm_at "ev"
  unfold clD
  refine st_seq (st_if (c := decide ((s - r) % gcI g h = 0)) ?_ (fun q => ?_) fun q => st_next ?_)
  · wtm_at "ev"
  · rw [if_pos (of_decide_eq_true q)]
    exact st_ret evd_non rfl
  · rw [if_neg (of_decide_eq_false q)]
    exact st_ret (evd_var rfl) rfl

theorem body_met {K : PySem.W.Frag} : BodyD K 6 (t_met K) R_met := by
  rintro ds o b E ⟨r, g, s, h, rfl, hg, hh, sg, sh, sr, ss, rfl⟩ _
  have hp := gcI_pos (h := h) hg
  have ok : notObj (clD r g s h) = true := by unfold clD; split <;> rfl
  have hc := cmG_pos hg hh
  unfold metD
  refine st_seq (st_if (c := !decide ((s - r) % gcI g h = 0)) (evb_is (c := !isNon (clD r g s h)) (evb_B (evd_notN (d := clD r g s h) ?_ (rep_non ok))) ?_) (fun q => ?_) fun q => st_next ?_)
  · wtm_at "ev"
  · unfold clD
    by_cases q : (s - r) % gcI g h = 0
    · rw [if_pos q, decide_eq_true q] <;> rfl
    · rw [if_neg q, decide_eq_false q] <;> rfl
  · rw [if_neg (by simpa using q)]
    exact st_ret evd_non rfl
  · rw [if_pos (by simpa using q)]
    refine st_seq (st_asg (d := .tup [.int (gcI g h), .int (wU g h), .int (wV g h)]) ?_ gt_tup3 ?_)
    · wtm_at "ev"
    have sgc : Sm 8000 (gcI g h) := sm_gcd sg (by omega)
    have sd : Sm 8001 ((s - r) / gcI g h) := sm_div (ss.sub sr)
    have su := sm_wU sg sh
    refine st_seq (st_set (d := .int (cmF r g s h)) (evd_op (d := .int r) (e := .int ((s - r) / gcI g h * wU g h * g)) ?_ (evd_op (d := .int ((s - r) / gcI g h * wU g h)) (e := .int g) (evd_op (d := .int ((s - r) / gcI g h)) (e := .int (wU g h)) (evd_op (d := .int (s - r)) (e := .int (gcI g h)) ?_ (evd_var rfl) (rd_divP hp (divOk sgc (by decide)))) (evd_var rfl) (rd_mul (mulOk sd su (by decide)))) ?_ (rd_mul (mulOk (sd.mul su) sg (by decide)))) rd_add) ?_)
    · wtm_at "ev"
    · wtm_at "ev"
    · wtm_at "ev"
    refine st_ret (d := Bt (cmR r g s h) (cmG g h)) (evd_call (ds := [.int (cmF r g s h), .int (cmG g h)]) (eva_cons (evd_var rfl) (eva_cons (evd_op (d := .int (g / gcI g h)) (e := .int h) (evd_op (d := .int g) (e := .int (gcI g h)) ?_ (evd_var rfl) (rd_divP hp (divOk sgc (by decide)))) ?_ (rd_mul (mulOk (sm_div sg) sh (by decide)))) eva_nil)) (r_beat hc)) rfl
    · wtm_at "ev"
    · wtm_at "ev"

theorem body_smaller {K : PySem.W.Frag} : BodyD K 7 (t_smaller K) R_smaller := by
  rintro ds o b E ⟨P, bs, G, rfl, hP, hbs, hl, hn, hb, hG, sG, rfl⟩ _
  have ss := sm_small (P := P) hb
  have sl := small_len P bs
  have st := sm_total (G := G) hb ss (by omega) sG
  refine st_seq (st_own (ds := (smallS P bs).map D.int) ?_ ?_)
  · unfold smallS
    rw [List.map_map]
    refine evf_lcT0 zpD inj_zpD (js := [5, 6]) (f := tupF 5 6) _ (by rw [← zpD_map]; exact src_zip (d := .lst (P.map D.int)) (e := LB bs) (eva_cons (evd_var rfl) (eva_cons (evd_var rfl) eva_nil)) rfl rfl) (fun _ _ => gt_tup2) (fun _ q => q) (by rw [List.length_zip]; omega) fun p hp => ?_
    have hp2 := hb p.2 (List.of_mem_zip hp).2
    exact evd_op (d := .int p.1) (e := .int p.2.2) (evd_var rfl) (evd_op (d := Bt p.2.1 p.2.2) (evd_var rfl) evd_int (rd_ix rfl rfl)) (rd_mod hp2.1)
  refine st_seq (st_set (d := .int (wsum (smallS P bs) bs G)) (evd_peek (i := 3) rfl fun b' => ?_) ?_)
  · refine evd_cb (ds := [.lst ((((smallS P bs).zip bs).map fun p => p.1 * (G / p.2.2)).map D.int)]) (eva_cons (evd_f ?_) eva_nil) (cd_sum rfl)
    rw [List.map_map]
    refine evf_lcT0 zpD inj_zpD (js := [5, 6]) (f := tupF 5 6) _ (by rw [← zpD_map]; exact src_zip (d := .lst ((smallS P bs).map D.int)) (e := LB bs) (eva_cons (evd_var rfl) (eva_cons (evd_var rfl) eva_nil)) rfl rfl) (fun _ _ => gt_tup2) (fun _ q => q) (by rw [List.length_zip]; omega) fun p hp => ?_
    have hp2 := hb p.2 (List.of_mem_zip hp).2
    exact evd_op (d := .int p.1) (e := .int (G / p.2.2)) (evd_var rfl) (evd_op (d := .int G) (e := .int p.2.2) (evd_var rfl) (evd_op (d := Bt p.2.1 p.2.2) (evd_var rfl) evd_int (rd_ix rfl rfl)) (rd_divP hp2.1 (divOk hp2.2 (by decide)))) (rd_mul (mulOk (ss p.1 (List.of_mem_zip hp).1) (sm_div sG) (by decide)))
  match P, bs, hP, hbs, hl with
  | p :: P, d :: bs, _, _, hl =>
    obtain ⟨d1, d2⟩ := hb d List.mem_cons_self
    have e : smallS (p :: P) (d :: bs) = p % d.2 :: smallS P bs := rfl
    have sone : Sm 7400 (1 : Int) := Sm.lit (by decide +kernel)
    refine st_seq (st_setItem (i := 3) (j := 0) (n := 0) (d := .int (p % d.2 - (wsum (smallS (p :: P) (d :: bs)) (d :: bs) G - 1) / G * d.2)) rfl (evd_peek (i := 3) rfl fun b' => ?_) evd_int (by rw [e]; exact ixN_zero _) ?_)
    · refine evd_op (d := .int (p % d.2)) (e := .int ((wsum (smallS (p :: P) (d :: bs)) (d :: bs) G - 1) / G * d.2)) (evd_op (d := .lst ((smallS (p :: P) (d :: bs)).map D.int)) (evd_var rfl) evd_int (rd_ix rfl (int_at (i := 0) rfl))) (evd_op (d := .int ((wsum (smallS (p :: P) (d :: bs)) (d :: bs) G - 1) / G)) (e := .int d.2) (evd_op (evd_op (evd_var rfl) evd_int rd_sub) (evd_var rfl) (rd_divP hG (divOk sG (by decide))))
        (evd_op (d := Bt d.1 d.2) (evd_op (d := LB (d :: bs)) (evd_var rfl) evd_int (rd_ix rfl (lb_at (i := 0) rfl))) evd_int (rd_ix rfl rfl)) (rd_mul (mulOk (sm_div (st.sub sone)) d2 (by decide)))) rd_sub
    refine st_pub (i := 3) rfl (st_ret (evd_var rfl) rfl)

theorem body_first_clash {K : PySem.W.Frag} : BodyD K 3 (t_first_clash K) R_first_clash := by
  rintro ds o b E ⟨bs, c, i, a, rfl, W, F, rfl⟩ _
  have hcs : c * bs.length ≤ 7000 := W.s
  have c8 : ∀ {x : Int}, Sm c x → Sm 8000 x := fun q => q.mono (by have := W.c; omega)
  have iL := F.le
  have hi : bs[i]? = some bs[i] := List.getElem?_eq_getElem F.le
  obtain ⟨i1, i2, i3, i4⟩ := W.p bs[i] (List.getElem_mem F.le)
  generalize hd : bs[i]'F.le = d at hi i1 i2 i3 i4
  have at_ : ∀ j : Nat, j ≤ a → ∃ u, bs[j]? = some u ∧ 0 < u.2 ∧ Sm 8000 u.2 := fun j hj => by
    have hj2 : j < bs.length := by have := F.lt; have := F.le; omega
    obtain ⟨q1, q2, _⟩ := W.p bs[j] (List.getElem_mem hj2)
    exact ⟨_, List.getElem?_eq_getElem hj2, q1, c8 q2⟩
  have call : ∀ {ρ : Rho} {j : Nat} {u : Int × Int} (bb : Bs), bs[j]? = some u → 0 < u.2 → Sm 8000 u.2 → EvD K bb (tVar 0) ρ (LB bs) → EvD K bb (tVar 2) ρ (.int (j : Nat)) → EvD K bb (tVar 1) ρ (.int (i : Nat)) →
      EvD K bb (tCall (spD K R_clash) [] E0 (tCons (tOp (rIx K) (tVar 0) (tVar 2)) (tCons (tOp (rIx K) (tVar 0) (tVar 1)) tNil))) ρ (clD u.1 u.2 d.1 d.2) := fun bb h1 h2 h3 e0 e2 e1 =>
    evd_call (ds := [Bt _ _, Bt d.1 d.2]) (eva_cons (evd_op e0 e2 (rd_ix rfl (lb_at h1))) (eva_cons (evd_op e0 e1 (rd_ix rfl (lb_at hi))) eva_nil)) (r_clash h2 i1 h3 (c8 i2))
  have ok : ∀ r g s h, notObj (clD r g s h) = true := fun r g s h => by unfold clD; split <;> rfl
  refine st_seq (st_set (d := .int ((0 : Nat) : Int)) evd_int ?_)
  refine st_seq (st_while (fun m r => ∃ j : Nat, r = [some (.dat (LB bs)), some (.dat (.int (i : Nat))), some (.dat (.int (j : Nat)))] ∧ j ≤ a ∧ m = a - j) a ⟨0, rfl, Nat.zero_le _, rfl⟩ ?_)
  rintro m r ⟨j, rfl, hj, rfl⟩
  obtain ⟨u, hu, u1, u2⟩ := at_ j hj
  refine ⟨isNon (clD u.1 u.2 d.1 d.2), evb_B (evd_isN (call b hu u1 u2 (evd_var rfl) (evd_var rfl) (evd_var rfl)) (rep_non (ok _ _ _ _))), fun h => ?_, fun h => ?_⟩
  · have hlt : j < a := by
      rcases Nat.lt_or_ge j a with z | z
      · exact z
      · have : j = a := by omega
        subst this
        have := F.cl u d hu hi
        unfold clD at h
        rw [if_neg this] at h
        cases h
    refine st_set (d := .int ((j : Nat) + 1 : Int)) ?_ ⟨a - (j + 1), by omega, j + 1, rfl, by omega, rfl⟩
    wtm_at "ev"
  · have hja : j = a := by
      apply Classical.byContradiction
      intro z
      have := F.no j u d (by omega) hu hi
      unfold clD at h
      rw [if_pos this] at h
      cases h
    subst hja
    have e : clD u.1 u.2 d.1 d.2 = .int (gcI u.2 d.2) := by
      unfold clD
      rw [if_neg (F.cl u d hu hi)]
    refine st_ret (d := clT bs j i) (evd_is (d := .tup [.str "clash", .int (j : Nat), .int (i : Nat), clD u.1 u.2 d.1 d.2]) (evd_tup (eva_cons evd_str (eva_cons (evd_var rfl) (eva_cons (evd_var rfl) (eva_cons (call b hu u1 u2 (evd_var rfl) (evd_var rfl) (evd_var rfl)) eva_nil)))) (by show 4 ≤ 100000; decide)) ?_) rfl
    unfold clT
    rw [e, List.getD_eq_getElem?_getD, List.getD_eq_getElem?_getD, hu, hi] <;> rfl

theorem body_together {K : PySem.W.Frag} : BodyD K 10 (t_together K) R_together := by
  rintro ds o b E ⟨bs, c, rfl, W, ho⟩ _
  have c8 : ∀ {x : Int}, Sm c x → Sm 8000 x := fun q => q.mono (by have := W.c; omega)
  have W' : ∀ b ∈ bs, 0 < b.2 ∧ Sm 200 b.2 := fun b hb => ⟨(W.p b hb).1, (W.p b hb).2.1.mono W.c⟩
  refine st_seq (st_set (d := Bt 0 1) (evd_tup (eva_cons evd_int (eva_cons evd_int eva_nil)) (by show 2 ≤ 100000; decide)) ?_)
  refine st_seq (st_set (d := .lst []) (evd_lst eva_nil (by decide)) ?_)
  refine st_seq (st_forT (xs := (List.range bs.length).map fun i => (((i : Nat) : Int), (bs[i]?).getD (0, 1))) zpD (js := [3, 4]) (f := tupF 3 4) (by rw [← enD_map]; exact src_enum (d := LB bs) (eva_cons (evd_var rfl) eva_nil) rfl) (fun _ _ => gt_tup2)
    (fun i rr => (∀ k, k < i → NC bs k) ∧ ∃ y3 y4 y5 y6 y7 y8 y9, rr = [some (.dat (LB bs)), some (.dat (Bt (wholeS (bs.take i)).1 (wholeS (bs.take i)).2)), some (.dat (.lst ((partsS bs i).map D.int))), y3, y4, y5, y6, y7, y8, y9]) ⟨fun k hk => absurd hk (Nat.not_lt_zero _), _, _, _, _, _, _, _, rfl⟩ ?_ ?_)
  · rintro b2 i x rr hx ⟨hc, y3, y4, y5, y6, y7, y8, y9, rfl⟩
    have hi := (List.getElem?_eq_some_iff.mp hx).1
    rw [List.length_map, List.length_range] at hi
    have hxi : bs[i]? = some bs[i] := List.getElem?_eq_getElem hi
    rw [List.getElem?_map, List.getElem?_range hi] at hx
    have ex : x = (((i : Nat) : Int), bs[i]) := by
      have : some (((i : Nat) : Int), (bs[i]?).getD (0, 1)) = some x := hx
      rw [hxi] at this
      injection this with this
      exact this.symm
    subst ex
    obtain ⟨p1, p2, p3, p4⟩ := W.p bs[i] (List.getElem_mem hi)
    have J := wj2 W i (by omega) hc
    have PI := pj W i (by omega) hc
    have hcs : c * (i + 1) ≤ c * bs.length := Nat.mul_le_mul_left c hi
    have sG : Sm 8000 (wholeS (bs.take i)).2 := J.sg.mono (by have := W.s; rw [Nat.mul_add] at hcs; omega)
    have sR : Sm 8000 (wholeS (bs.take i)).1 := sG.le (by have := J.r0; have := J.r1; omega)
    have sg := c8 p2
    have sr : Sm 8000 (bs[i]).1 := sg.le (by omega)
    have hnc : (bs[i].1 - (wholeS (bs.take i)).1) % gcI (wholeS (bs.take i)).2 bs[i].2 = 0 ↔ NC bs i := by
      rw [mod0]
      constructor
      · intro h d hd
        rw [hxi] at hd
        cases hd
        exact h
      · intro h
        exact h _ hxi
    have eW : wholeS (bs.take (i + 1)) = (cmR (wholeS (bs.take i)).1 (wholeS (bs.take i)).2 bs[i].1 bs[i].2, cmG (wholeS (bs.take i)).2 bs[i].2) := by
      rw [take_snoc hxi, wholeS_snoc] <;> rfl
    have gd : bs.getD i (0, 1) = bs[i] := by rw [List.getD_eq_getElem?_getD, hxi] <;> rfl
    have PJ2 := fun h => pj W (i + 1) hi h
    have J2 := fun h => wj2 W (i + 1) hi h
    have eP := partsS_succ bs i
    rw [gd] at eP
    generalize hdd : bs[i] = d at *
    refine st_seq (st_set (d := metD (wholeS (bs.take i)).1 (wholeS (bs.take i)).2 d.1 d.2) (evd_call (ds := [Bt (wholeS (bs.take i)).1 (wholeS (bs.take i)).2, Bt d.1 d.2]) (eva_cons (evd_var rfl) (eva_cons (evd_var rfl) eva_nil)) (r_met J.g0 p1 sG sg sR sr)) ?_)
    have ok : notObj (metD (wholeS (bs.take i)).1 (wholeS (bs.take i)).2 d.1 d.2) = true := by unfold metD; split <;> rfl
    refine st_seq (st_if (c := isNon (metD (wholeS (bs.take i)).1 (wholeS (bs.take i)).2 d.1 d.2)) (evb_B (evd_isN (evd_var rfl) (rep_non ok))) (fun h => ?_) fun h => st_next ?_)
    · have nn : ¬ NC bs i := fun z => by
        unfold metD at h
        rw [if_pos (hnc.mpr z)] at h
        cases h
      rcases ho with ⟨ha, _⟩ | ⟨i0, a, h1, h2, F, rfl⟩
      · exact absurd (ha i hi) nn
      · have e : i0 = i := by
          rcases Nat.lt_trichotomy i0 i with z | z | z
          · exact absurd (hc i0 z) h2
          · exact z
          · exact absurd (h1 i z) nn
        subst e
        exact st_ret (evd_call (ds := [LB bs, .int (i0 : Nat)]) (eva_cons (evd_var rfl) (eva_cons (evd_var rfl) eva_nil)) (r_first_clash W F)) rfl
    have nc : NC bs i := hnc.mp (by
      apply Classical.byContradiction
      intro z
      unfold metD at h
      rw [if_neg z] at h
      cases h)
    have hc2 : ∀ k, k < i + 1 → NC bs k := fun k hk => by
      rcases Nat.lt_or_ge k i with z | z
      · exact hc k z
      · have : k = i := by omega
        subst this
        exact nc
    have em : metD (wholeS (bs.take i)).1 (wholeS (bs.take i)).2 d.1 d.2 = Bt (wholeS (bs.take (i + 1))).1 (wholeS (bs.take (i + 1))).2 := by
      unfold metD
      rw [if_pos (hnc.mpr nc), eW]
    rw [em]
    have PJ' := PJ2 hc2
    have J' := J2 hc2
    have sG' : Sm 7100 (wholeS (bs.take (i + 1))).2 := J'.sg.mono (by have := W.s; omega)
    refine st_seq (st_asg (d := .tup [.int (gcI (wholeS (bs.take i)).2 d.2), .int (wU (wholeS (bs.take i)).2 d.2), .int (wV (wholeS (bs.take i)).2 d.2)]) (evd_call (ds := [.int (wholeS (bs.take i)).2, .int d.2]) (eva_cons (evd_op (d := Bt (wholeS (bs.take i)).1 (wholeS (bs.take i)).2) (evd_var rfl) evd_int (rd_ix rfl rfl)) (eva_cons (evd_op (d := Bt d.1 d.2) (evd_var rfl) evd_int (rd_ix rfl rfl)) eva_nil)) (r_weights sG sg)) gt_tup3 ?_)
    refine st_join (fun r => r = [some (.dat (LB bs)), some (.dat (Bt (wholeS (bs.take i)).1 (wholeS (bs.take i)).2)), some (.dat (.lst ((partsS bs (i + 1)).map D.int))), some (.dat (.int (i : Nat))), some (.dat (bD d)), some (.dat (Bt (wholeS (bs.take (i + 1))).1 (wholeS (bs.take (i + 1))).2)), some (.dat (.int (gcI (wholeS (bs.take i)).2 d.2))), some (.dat (.int (wU (wholeS (bs.take i)).2 d.2))), some (.dat (.int (wV (wholeS (bs.take i)).2 d.2))), y9]) (st_if (c := decide (((i : Nat) : Int) = 0)) ?_ (fun z => ?_) fun z => ?_) ?_
    · wtm_at "ev"
    · have z' : i = 0 := by have := of_decide_eq_true z; omega
      refine st_set (d := .lst [.int 1]) (evd_lst (eva_cons evd_int eva_nil) (by show 1 ≤ 100000; decide)) ?_
      rw [eP, if_pos z'] <;> rfl
    · have z' : i ≠ 0 := by have := of_decide_eq_false z; omega
      rw [if_neg z'] at eP
      have sv := sm_wV sG sg
      refine st_set (d := .lst ((partsS bs (i + 1)).map D.int)) (evd_is (d := .lst ((fitS ((partsS bs i).map (· * wV (wholeS (bs.take i)).2 d.2) ++ [wU (wholeS (bs.take i)).2 d.2]) bs (wholeS (bs.take (i + 1))).2).map D.int)) (evd_call (ds := [.lst (((partsS bs i).map (· * wV (wholeS (bs.take i)).2 d.2) ++ [wU (wholeS (bs.take i)).2 d.2]).map D.int), LB bs, .int (wholeS (bs.take (i + 1))).2]) (eva_cons ?_ (eva_cons (evd_var rfl) (eva_cons (evd_op (d := Bt (wholeS (bs.take (i + 1))).1 (wholeS (bs.take (i + 1))).2) (evd_var rfl) evd_int (rd_ix rfl rfl)) eva_nil)))
        (r_smaller (by simp) (fun z2 => by rw [z2] at hi; exact absurd hi (Nat.not_lt_zero _)) (by rw [List.length_append, List.length_map, PI.len]; exact hi) W.n W' J'.g0 sG')) (by rw [eP])) rfl
      rw [List.map_append, List.map_map]
      refine evd_op (d := .lst ((partsS bs i).map (D.int ∘ (· * wV (wholeS (bs.take i)).2 d.2)))) (e := .lst [.int (wU (wholeS (bs.take i)).2 d.2)]) (evd_f ?_) (evd_lst (eva_cons (evd_var rfl) eva_nil) (by show 1 ≤ 100000; decide)) (rd_addL (by rw [List.length_map, PI.len]; show i + 1 ≤ 100000; have := W.n; omega))
      exact evf_lcT0 D.int inj_int (js := [9]) (f := fun x r => r.set 9 (some (.dat x))) _ (src_seqL (evd_var rfl) rfl) (fun _ _ => gt_name) (fun _ q => q) (by rw [PI.len]; have := W.n; omega) fun p hp => evd_op (evd_var rfl) (evd_var rfl) (rd_mul (mulOk (PI.sm p hp) sv (by decide)))
    rintro _ rfl
    exact st_set (evd_var rfl) ⟨hc2, _, _, _, _, _, _, _, rfl⟩
  · rintro rr ⟨hc, y3, y4, y5, y6, y7, y8, y9, rfl⟩
    rw [List.length_map, List.length_range] at *
    rw [List.take_length]
    rcases ho with ⟨_, rfl⟩ | ⟨i, a, _, h2, F, _⟩
    · exact st_ret (evd_tup (eva_cons evd_str (eva_cons (evd_var rfl) (eva_cons (evd_var rfl) eva_nil))) (by show 3 ≤ 100000; decide)) rfl
    · exact absurd (hc i F.le) h2

theorem body_T_init {K : PySem.W.Frag} (xx : exK K = true) : BodyM K 1 (t_T_init K) (R_T_init K) := by
  rintro ds μ P X b E rfl ⟨x, dx, rfl, hx, hP⟩ _
  obtain ⟨c, n⟩ := exK_tw xx
  exact stM_fldNew rfl hx c n fun p hp hne => hP p hp hne

theorem body_T_hang {K : PySem.W.Frag} (xx : exK K = true) : BodyM K 4 (t_T_hang K) (R_T_hang K) := by
  rintro ds μ P X b E rfl ⟨T, d, dx, kvs, s, m, g, rfl, ⟨hT, hd⟩, hz, h1, h2, h3⟩ hX
  obtain ⟨c, n⟩ := exK_tw xx
  have hf : EvP K b (tFld K (tVar 0) "hung") (rho0 4 [.obj (.ref T), .str s, .int m, .int g]) b.m (.obj (.ref d)) := evp_fld (evp_of fun _ => evd_var rfl) hT c n rfl
  refine stM_seq (stM_if (evpb_din (s := s) (evp_of fun _ => evd_var rfl) hf hd) (fun z => ?_) fun z => stM_next ?_)
  · exact stM_raise fun Hv' H' l => hX _ _ _ _ _ l (h1 z)
  have hn : valD kvs s = none := by
    cases e : valD kvs s with
    | none => rfl
    | some v => rw [e] at z; cases z
  by_cases hg : g < 1
  · exact stM_dputX (evm_callX (ds := [.int m, .int g]) (evpa_cons (evp_of fun _ => evd_var rfl) (evpa_cons (evp_of fun _ => evd_var rfl) evpa_nil)) (r_beatX hg) fun Hv' H' l => hX _ _ _ _ _ l (h2 hn hg))
  · exact stM_dput (bb := (m % g, g)) (evp_callD (ds := [.int m, .int g]) (evpa_cons (evp_of fun _ => evd_var rfl) (evpa_cons (evp_of fun _ => evd_var rfl) evpa_nil)) (r_beat (by omega))) hf (evp_of fun _ => evd_var rfl) hd hn (by omega) (h3 hn (by omega))

theorem body_T_take {K : PySem.W.Frag} (xx : exK K = true) : BodyM K 2 (t_T_take K) (R_T_take K) := by
  rintro ds μ P X b E rfl ⟨T, d, dx, kvs, s, rfl, ⟨hT, hd⟩, h1, h2⟩ hX
  obtain ⟨c, n⟩ := exK_tw xx
  have hf : EvP K b (tFld K (tVar 0) "hung") (rho0 2 [.obj (.ref T), .str s]) b.m (.obj (.ref d)) := evp_fld (evp_of fun _ => evd_var rfl) hT c n rfl
  refine stM_seq (stM_if (evpb_dnotin (s := s) (evp_of fun _ => evd_var rfl) hf hd) (fun z => ?_) fun z => stM_next ?_)
  · have hn : valD kvs s = none := by
      cases e : valD kvs s with
      | none => rfl
      | some v => rw [e] at z; cases z
    exact stM_raise fun Hv' H' l => hX _ _ _ _ _ l (h1 hn)
  cases e : valD kvs s with
  | none => rw [e] at z; cases z
  | some bb =>
    refine stM_ret (evm_dpop hf (evp_of fun _ => evd_var rfl) hd e) fun d' μ' ⟨e1, e2⟩ => ?_
    subst e1 e2
    exact h2 bb e

theorem body_T_bells {K : PySem.W.Frag} (xx : exK K = true) : BodyM K 3 (t_T_bells K) (R_T_bells K) := by
  rintro ds μ P X b E rfl ⟨T, d, dx, kvs, rfl, ⟨hT, hd⟩, hz, h1⟩ hX
  obtain ⟨c, n⟩ := exK_tw xx
  refine stM_ret (evm_items (i0 := 0) (i := 1) (j := 2) (T := T) (x := d) rfl hT c n rfl hd (by decide) (Nat.lt_of_sub_eq_succ rfl) (Nat.lt_of_sub_eq_succ rfl) (by omega)) fun d' μ' ⟨p, hp, e1, e2⟩ => ?_
  subst e1 e2
  exact h1 p hp

theorem evm_bells {K : PySem.W.Frag} {b : BM} {ρ : Rho} {μ : Mu} {T d dx : Addr} {kvs : Kvs} (h0 : ρ[0]? = some (some (.dat (.obj (.ref T))))) (h : Tw K μ T d dx kvs) (hz : kvs.length ≤ 1000) : EvM K b (tMethE (He.ga K "Tower") "bells" (spM K (R_T_bells K)) [] (fun _ => E0) (tVar 0) tNil) ρ μ (fun d μ' => ∃ q, μ q = none ∧ d = .obj (.ref q) ∧ μ' = updM μ q (.lst (kvs.map rowD))) :=
  evm_methE (R := R_T_bells K) (X := fun _ _ _ => False) (ds := []) (dvs := []) (es := []) (evp_var h0) h.1 rfl evpa_nil (fun H => .nil) ⟨T, d, dx, kvs, rfl, h, hz, fun p hp => ⟨p, hp, rfl, rfl⟩⟩ fun _ _ _ _ _ _ z => z.elim
theorem Tw.chg {K : PySem.W.Frag} {μ μ' : Mu} {T d dx : Addr} {kvs : Kvs} (h : Tw K μ T d dx kvs) (c : Chg μ μ' []) : Tw K μ' T d dx kvs := ⟨c.at h.1, c.at h.2⟩
theorem flt_all {α : Type} (xs : List α) : xs.filter (fun _ => true) = xs := List.filter_eq_self.mpr fun _ _ => rfl
theorem lf_strs (kvs : Kvs) : lfAll (kvs.map fun p : Str × (Int × Int) => D.str p.1) = true := by
  induction kvs with
  | nil => rfl
  | cons p kvs ih =>
    show ((D.str p.1).lf && lfAll (kvs.map fun p : Str × (Int × Int) => D.str p.1)) = true
    rw [ih] <;> rfl
theorem lf_bts (kvs : Kvs) : lfAll (kvs.map fun p : Str × (Int × Int) => bD p.2) = true := by
  induction kvs with
  | nil => rfl
  | cons p kvs ih =>
    show ((bD p.2).lf && lfAll (kvs.map fun p : Str × (Int × Int) => bD p.2)) = true
    rw [ih] <;> rfl
theorem body_T_next_together {K : PySem.W.Frag} (xx : exK K = true) : BodyM K 6 (t_T_next_together K) (R_T_next_together K) := by
  rintro ds μ P X b E rfl ⟨T, d, dx, kvs, m, c, rfl, hT, W, h1, h2⟩ hX
  have hz : kvs.length ≤ 1000 := by
    have := W.n
    rw [List.length_map] at this
    omega
  have L1 := fun (ρ : Rho) (μ : Mu) (h0 : ρ[0]? = some (some (.dat (.obj (.ref T))))) (hl : ρ.length = 6) (h : Tw K μ T d dx kvs) => evm_lcOver (K := K) (b := b) (ρ := ρ) (te := tVar 4) (tt := tYes) (vs := [4, 5]) (g := gTup K 2 (gCons (gName 4) (gCons (gName 5) gNil))) (xs := kvs) rowD inj_rowD (js := [4, 5]) (f := tupF 4 5) (fun _ => true) (fun p => .str p.1) (evm_bells h0 h hz) (fun _ _ => gt_tup2) (fun _ q => q) (by omega) (fun _ _ _ => evb_yes) (fun _ x _ _ => evd_var (d := .str x.1) (by
    show (((wipeD ρ [4, 5]).set 4 (some (.dat (.str x.1)))).set 5 (some (.dat (bD x.2))))[4]? = _
    rw [List.getElem?_set_ne (by decide), List.getElem?_set_self]
    show 4 < ((ρ.set 5 none).set 4 none).length
    rw [List.length_set, List.length_set, hl]
    decide)) (by rw [flt_all]; exact lf_strs kvs)
  have L2 := fun (ρ : Rho) (μ : Mu) (h0 : ρ[0]? = some (some (.dat (.obj (.ref T))))) (hl : ρ.length = 6) (h : Tw K μ T d dx kvs) => evm_lcOver (K := K) (b := b) (ρ := ρ) (te := tVar 5) (tt := tYes) (vs := [4, 5]) (g := gTup K 2 (gCons (gName 4) (gCons (gName 5) gNil))) (xs := kvs) rowD inj_rowD (js := [4, 5]) (f := tupF 4 5) (fun _ => true) (fun p => bD p.2) (evm_bells h0 h hz) (fun _ _ => gt_tup2) (fun _ q => q) (by omega) (fun _ _ _ => evb_yes) (fun _ x _ _ => evd_var (d := bD x.2) (by
    show (((wipeD ρ [4, 5]).set 4 (some (.dat (.str x.1)))).set 5 (some (.dat (bD x.2))))[5]? = _
    rw [List.getElem?_set_self]
    show 5 < (((ρ.set 5 none).set 4 none).set 4 _).length
    rw [List.length_set, List.length_set, List.length_set, hl]
    decide)) (by rw [flt_all]; exact lf_bts kvs)
  rw [flt_all] at L1 L2
  refine stM_seq (stM_set (L1 _ _ rfl rfl hT) ?_)
  rintro _ _ ⟨q, hq, rfl, rfl⟩
  have c1 : Chg b.m (updM b.m q (.lst (kvs.map rowD))) [] := Chg.new hq
  generalize updM b.m q (.lst (kvs.map rowD)) = μ1 at c1
  have elb : D.lst (kvs.map fun p : Str × (Int × Int) => bD p.2) = LB (bsF' kvs) := by
    show D.lst _ = D.lst ((kvs.map (·.2)).map bD)
    rw [List.map_map] <;> rfl
  have run : ∀ told : D, R_together [LB (bsF' kvs)] (.ret told) → EvM K b (tCall (spD K R_together) [] E0 (tCons (tLc (iSeq K (tMethE (He.ga K "Tower") "bells" (spM K (R_T_bells K)) [] (fun _ => E0) (tVar 0) tNil)) (gTup K 2 (gCons (gName 4) (gCons (gName 5) gNil))) tYes (tVar 5) [4, 5]) tNil)) [some (.dat (.obj (.ref T))), some (.dat (.int m)), some (.dat (.lst (kvs.map fun p : Str × (Int × Int) => D.str p.1))), none, none, none] μ1 (fun z μ' => z = told ∧ Chg b.m μ' []) := fun told ht => by
    refine evm_callA (PA := fun ds μ' => ds = [LB (bsF' kvs)] ∧ Chg b.m μ' []) (evma_cons (L2 _ _ rfl rfl (hT.chg c1)) ?_) ?_
    · rintro _ _ ⟨q2, hq2, rfl, rfl⟩
      exact evma_nil ⟨by rw [elb], c1.trans (Chg.new hq2)⟩
    · rintro _ μ' ⟨rfl, c2⟩
      exact ⟨told, ht, rfl, c2⟩
  by_cases hc : ∀ k, k < (bsF' kvs).length → NC (bsF' kvs) k
  · have J := wj2 W (bsF' kvs).length (Nat.le_refl _) hc
    have j1 := J.g0
    rw [List.take_length] at j1
    refine stM_seq (stM_set (run _ ⟨bsF' kvs, c, rfl, W, .inl ⟨hc, rfl⟩⟩) ?_)
    rintro _ μ2 ⟨rfl, c2⟩
    refine stM_seq (stM_if (c := false) (evpb_is (evpb_of fun b' => evb_test (evd_op (evd_op (d := .tup [.str "beat", _, _]) (evd_var rfl) evd_int (rd_ix rfl rfl)) evd_str rd_eqS)) (by decide)) (fun z => nomatch z) fun _ => stM_next ?_)
    exact stM_retP (evp_callD (ds := [Bt (wholeS (bsF' kvs)).1 (wholeS (bsF' kvs)).2, .int m]) (evpa_of fun b' => eva_cons (evd_op (d := .tup [_, Bt _ _, _]) (evd_var rfl) evd_int (rd_ix rfl rfl)) (eva_cons (evd_var rfl) eva_nil)) (r_next_from j1)) (h1 hc μ2 c2)
  · obtain ⟨i, i1, i2, i3⟩ : ∃ i, i < (bsF' kvs).length ∧ ¬ NC (bsF' kvs) i ∧ ∀ j, j < i → ¬ ¬ NC (bsF' kvs) j := least_of (fun j => ¬ NC (bsF' kvs) j) (bsF' kvs).length (by
      apply Classical.byContradiction
      intro no
      exact hc fun k hk => Classical.byContradiction fun z => no ⟨k, hk, z⟩)
    have hb : ∀ k, k < i → NC (bsF' kvs) k := fun k hk => Classical.not_not.mp (i3 k hk)
    obtain ⟨a, F⟩ := fc_of W i1 hb i2
    have hi : i < kvs.length := by rwa [List.length_map] at i1
    have ha : a < kvs.length := Nat.lt_trans F.lt hi
    have xi : kvs[i]? = some kvs[i] := List.getElem?_eq_getElem hi
    have xa : kvs[a]? = some kvs[a] := List.getElem?_eq_getElem ha
    have gi : (bsF' kvs).getD i (0, 1) = kvs[i].2 := by rw [List.getD_eq_getElem?_getD, List.getElem?_map, xi] <;> rfl
    have ga : (bsF' kvs).getD a (0, 1) = kvs[a].2 := by rw [List.getD_eq_getElem?_getD, List.getElem?_map, xa] <;> rfl
    have eT : clT (bsF' kvs) a i = .tup [.str "clash", .int (a : Nat), .int (i : Nat), .int (gcI kvs[a].2.2 kvs[i].2.2)] := by
      unfold clT
      rw [gi, ga]
    refine stM_seq (stM_set (run _ ⟨bsF' kvs, c, rfl, W, .inr ⟨i, a, hb, i2, F, rfl⟩⟩) ?_)
    rintro _ μ2 ⟨rfl, c2⟩
    rw [eT]
    refine stM_seq (stM_if (c := true) (evpb_is (evpb_of fun b' => evb_test (evd_op (evd_op (d := .tup [.str "clash", _, _, _]) (evd_var rfl) evd_int (rd_ix rfl rfl)) evd_str rd_eqS)) (by decide)) (fun _ => ?_) fun z => nomatch z)
    have nm : ∀ (j : Nat) (hj : j < kvs.length) (ρ : Rho) (b' : Bs) {te : TE}, ρ[2]? = some (some (.dat (.lst (kvs.map fun p : Str × (Int × Int) => D.str p.1)))) → EvD K b' te ρ (.int (j : Nat)) → EvD K b' (tOp (rIx K) (tVar 2) te) ρ (.str kvs[j].1) := fun j hj ρ b' te h0 hx =>
      evd_op (evd_var h0) hx (rd_ix rfl (atI_nat (by rw [List.getElem?_map, List.getElem?_eq_getElem hj] <;> rfl)))
    refine stM_raiseO (fs := clF kvs[a].1 kvs[i].1 (gcI kvs[a].2.2 kvs[i].2.2)) (ds := [.str kvs[a].1, .str kvs[i].1, .int (gcI kvs[a].2.2 kvs[i].2.2)]) (evpa_of fun b' => eva_cons (nm a ha _ b' rfl (evd_op (d := .tup [_, .int _, _, _]) (evd_var rfl) evd_int (rd_ix rfl rfl))) (eva_cons (nm i hi _ b' rfl (evd_op (d := .tup [_, _, .int _, _]) (evd_var rfl) evd_int (rd_ix rfl rfl))) (eva_cons (evd_op (d := .tup [_, _, _, .int _]) (evd_var rfl) evd_int (rd_ix rfl rfl)) eva_nil))) (by show 3 ≤ 1000; decide) (fun x hx => ⟨x, _, _, _, rfl, updM_same, fun d μ' h => h⟩) fun dd Hv' H' hdd l => hX _ _ _ _ _ l (h2 i a _ _ _ _ hb i2 F xa xi dd _ (c2.trans (Chg.new hdd)) updM_same)

theorem lf_ints (f : Str × (Int × Int) → Int) (kvs : Kvs) : lfAll (kvs.map fun p : Str × (Int × Int) => D.int (f p)) = true := by
  induction kvs with
  | nil => rfl
  | cons p kvs ih =>
    show ((D.int (f p)).lf && lfAll (kvs.map fun p : Str × (Int × Int) => D.int (f p))) = true
    rw [ih] <;> rfl
theorem body_T_next_any {K : PySem.W.Frag} (xx : exK K = true) : BodyM K 5 (t_T_next_any K) (R_T_next_any K) := by
  rintro ds μ P X b E rfl ⟨T, d, dx, kvs, m, rfl, hT, hz, hp, h1, h2⟩ hX
  obtain ⟨c, n⟩ := exK_tw xx
  have hf : EvP K b (tFld K (tVar 0) "hung") (rho0 5 [.obj (.ref T), .int m]) b.m (.obj (.ref d)) := evp_fld (evp_var rfl) hT.1 c n rfl
  refine stM_seq (stM_if (evpb_test (evp_op (evp_lenD hf hT.2) evp_int rd_eqI)) (fun z => ?_) fun z => stM_next ?_)
  · have e : kvs = [] := List.length_eq_zero_iff.mp (by have := of_decide_eq_true z; omega)
    exact stM_raise fun Hv' H' l => hX _ _ _ _ _ l (h1 e)
  have ne : kvs ≠ [] := fun e => by
    subst e
    exact absurd rfl (of_decide_eq_false z)
  obtain ⟨s, hs, hl⟩ := min_ex (kvs.map fun p => nxF p.2 m) (by simpa using ne)
  have tup : ∀ (x : Str × (Int × Int)) {x2 x3 x4 : Option SD}, tupF 3 4 (rowD x) (wipeD [some (.dat (.obj (.ref T))), some (.dat (.int m)), x2, x3, x4] [3, 4]) = [some (.dat (.obj (.ref T))), some (.dat (.int m)), x2, some (.dat (.str x.1)), some (.dat (bD x.2))] := fun x {_ _ _} => rfl
  have L1 := evm_lcOver (K := K) (b := b) (ρ := rho0 5 [.obj (.ref T), .int m]) (te := tCall (spD K R_next_from) [] E0 (tCons (tVar 4) (tCons (tVar 1) tNil))) (tt := tYes) (vs := [3, 4]) (g := gTup K 2 (gCons (gName 3) (gCons (gName 4) gNil))) (xs := kvs) rowD inj_rowD (js := [3, 4]) (f := tupF 3 4) (fun _ => true) (fun p => .int (nxF p.2 m)) (evm_bells rfl hT hz) (fun _ _ => gt_tup2) (fun _ q => q) (by omega) (fun _ _ _ => evb_yes) (fun b' x hx _ => evd_call (ds := [Bt x.2.1 x.2.2, .int m]) (eva_cons (evd_var rfl) (eva_cons (evd_var rfl) eva_nil)) (r_next_from (hp x hx))) (by rw [flt_all]; exact lf_ints _ kvs)
  rw [flt_all] at L1
  refine stM_seq (stM_set (P := fun d μ' => d = .int s ∧ Chg b.m μ' []) (evm_cbA (PA := fun ds μ' => ds = [.lst (kvs.map fun p => D.int (nxF p.2 m))] ∧ Chg b.m μ' []) (evma_cons L1 ?_) ?_) ?_)
  · rintro _ _ ⟨q, hq, rfl, rfl⟩
    exact evma_nil ⟨rfl, Chg.new hq⟩
  · rintro _ μ' ⟨rfl, c1⟩
    exact ⟨.int s, cd_min (ns := kvs.map fun p => nxF p.2 m) (by rw [List.map_map] <;> rfl) hs hl, rfl, c1⟩
  rintro _ μ1 ⟨rfl, c1⟩
  obtain ⟨p0, hp0, e0⟩ := List.mem_map.mp hs
  have lows : ∀ p ∈ kvs, s ≤ nxF p.2 m := fun p h => hl _ (List.mem_map.mpr ⟨p, h, rfl⟩)
  refine stM_ret (P := fun d μ' => ∃ p', b.m p' = none ∧ Chg b.m μ' [] ∧ μ' p' = some (.lst ((kvs.filter fun q => decide (s % q.2.2 = q.2.1)).map fun q => .str q.1)) ∧ d = .tup [.int s, .obj (.ref p')]) (evm_tupA (PA := fun ds μ' => ∃ p', b.m p' = none ∧ Chg b.m μ' [] ∧ μ' p' = some (.lst ((kvs.filter fun q => decide (s % q.2.2 = q.2.1)).map fun q => .str q.1)) ∧ ds = [.int s, .obj (.ref p')]) (evma_cons (P1 := fun d μ' => d = .int s ∧ μ' = μ1) (evp_var rfl) ?_) ?_) ?_
  · rintro _ μ0 ⟨rfl, e⟩
    rw [e]
    have L2 := evm_lcOverN (K := K) (b := b) (μ := μ1) (ρ := [some (.dat (.obj (.ref T))), some (.dat (.int m)), some (.dat (.int s)), none, none]) (te := tVar 3) (tt := tB (tCall (spD K R_rings) [] E0 (tCons (tVar 4) (tCons (tVar 2) tNil)))) (vs := [3, 4]) (g := gTup K 2 (gCons (gName 3) (gCons (gName 4) gNil))) (xs := kvs) rowD inj_rowD (js := [3, 4]) (f := tupF 3 4) (fun q => decide (s % q.2.2 = q.2.1)) (fun p => .str p.1) (evm_bells rfl (hT.chg c1) hz) (fun _ _ => gt_tup2) (fun _ q => q) (by omega) (fun b' x hx => evb_B (evd_call (ds := [Bt x.2.1 x.2.2, .int s]) (eva_cons (evd_var rfl) (eva_cons (evd_var rfl) eva_nil)) (r_rings (hp x hx)))) (fun b' x hx _ => evd_var rfl) (lf_strs _)
    refine evma_cons L2 ?_
    rintro _ _ ⟨q, p', hq, hp', rfl, rfl⟩
    have c2 : Chg b.m (updM (updM μ1 q (.lst (kvs.map rowD))) p' (.lst ((kvs.filter fun q => decide (s % q.2.2 = q.2.1)).map fun q => .str q.1))) [] := (c1.trans (Chg.new hq)).trans (Chg.new hp')
    exact evma_nil ⟨p', (c1.trans (Chg.new hq)).none_of hp', c2, updM_same, rfl⟩
  · rintro _ μ' ⟨p', a1, a2, a3, rfl⟩
    exact ⟨by show 2 ≤ 100000; decide, p', a1, a2, a3, rfl⟩
  · rintro _ μ' ⟨p', a1, a2, a3, rfl⟩
    exact h2 s ⟨p0, hp0, e0.symm⟩ lows p' μ' a2 a1 a3

theorem body_l_cell_at {K : PySem.W.Frag} : BodyD K 2 (t_l_cell_at K) R_l_cell_at := by
  rintro ds o b E ⟨ns, k, rfl, hk, rfl⟩ _
  refine st_seq (st_if (c := decide (k < ((ns.map D.int).length : Nat))) ?_ (fun h => ?_) fun h => ?_)
  · wtm_at "ev"
  · have h1 : k < (ns.length : Nat) := by
      have := of_decide_eq_true h
      rw [List.length_map] at this
      exact this
    have h2 : k.toNat < ns.length := by omega
    refine st_ret (d := .int (cellZ ns k)) (evd_op (evd_var rfl) (evd_var rfl) (rd_ix rfl ?_)) rfl
    have e : k = (k.toNat : Int) := by omega
    rw [e]
    refine atI_nat ?_
    rw [List.getElem?_map, List.getElem?_eq_getElem h2]
    show some (D.int ns[k.toNat]) = some (D.int (cellZ ns (k.toNat : Int)))
    unfold cellZ
    rw [Int.toNat_natCast, List.getElem?_eq_getElem h2] <;> rfl
  · have h1 : ¬ k < (ns.length : Nat) := by
      have := of_decide_eq_false h
      rw [List.length_map] at this
      exact this
    refine st_next (st_ret evd_int ?_)
    show Out.ret _ = Out.ret _
    unfold cellZ
    rw [List.getElem?_eq_none (by omega)] <;> rfl

theorem body_l_whole {K : PySem.W.Frag} : BodyD K 1 (t_l_whole K) R_l_whole := by
  rintro ds o b E ⟨i, rfl, rfl⟩ _
  refine st_ret (d := .bl (true && !false)) ?_ rfl
  wtm_at "ev"

theorem gcI_zero {a : Int} (h : 0 ≤ a) : gcI a 0 = a := by
  show (Int.gcd a 0 : Int) = a
  rw [Int.gcd_zero_right]
  omega
theorem gcI_step {a c : Int} (h : 0 ≤ a) (h2 : 0 ≤ c) : gcI c (a % c) = gcI a c := by
  obtain ⟨n, rfl⟩ := Int.eq_ofNat_of_zero_le h
  obtain ⟨m, rfl⟩ := Int.eq_ofNat_of_zero_le h2
  show ((Int.gcd (m : Int) ((n : Int) % (m : Int)) : Nat) : Int) = ((Int.gcd (n : Int) (m : Int) : Nat) : Int)
  rw [← Int.natCast_emod, Int.gcd_natCast_natCast, Int.gcd_natCast_natCast, Nat.gcd_comm n m, Nat.gcd_rec m n, Nat.gcd_comm]
theorem body_l_divisor {K : PySem.W.Frag} : BodyD K 2 (t_l_divisor K) R_l_divisor := by
  rintro ds o b E ⟨a, c, rfl, ha, hc, rfl⟩ _
  refine st_seq (st_while (fun m r => ∃ x y : Int, r = [some (.dat (.int x)), some (.dat (.int y))] ∧ 0 ≤ x ∧ 0 ≤ y ∧ m = y.toNat ∧ gcI x y = gcI a c) c.toNat ⟨a, c, rfl, ha, hc, rfl, rfl⟩ ?_)
  rintro m r ⟨x, y, rfl, hx, hy, rfl, e⟩
  refine ⟨!decide (y = 0), ?_, fun h => ?_, fun h => ?_⟩
  · wtm_at "ev"
  · have hp : 0 < y := by
      have : y ≠ 0 := by simpa using h
      omega
    refine st_par (d := .int y) (e := .int (x % y)) ?_ ?_
    · wtm_at "ev"
    · have h1 := Int.emod_nonneg x (show y ≠ 0 by omega)
      have h2 := Int.emod_lt_of_pos x hp
      exact ⟨_, by omega, y, x % y, rfl, hy, h1, rfl, by rw [gcI_step hx hy, e]⟩
  · have hp : y = 0 := by simpa using h
    subst hp
    rw [← e, gcI_zero hx]
    exact st_ret (evd_var rfl) rfl

theorem cut_toS (bs : List Str) (a : Nat) : cutD (bs.map D.str) none (some (a : Int)) = (bs.take a).map D.str := by
  unfold cutD
  rw [HT.sIx_nat, List.length_map]
  show List.take (min a bs.length - 0) (List.drop 0 (bs.map D.str)) = _
  rw [List.drop_zero, Nat.sub_zero, List.map_take]
  rcases Nat.le_total a bs.length with h | h
  · rw [Nat.min_eq_left h]
  · rw [Nat.min_eq_right h, List.take_of_length_le (by rw [List.length_map]; omega), List.take_of_length_le (by rw [List.length_map]; omega)]
def foldN (c : Int) (xs : List Str) : List Str := xs.foldl (fun ss x => addF (addF ss (x ++ moreF c)) (moreF c ++ x)) (altsF c)
theorem foldN_succ {c : Int} {xs : List Str} {i : Nat} {x : Str} (h : xs[i]? = some x) : foldN c (xs.take (i + 1)) = addF (addF (foldN c (xs.take i)) (x ++ moreF c)) (moreF c ++ x) := by
  rw [List.take_add_one, h]
  unfold foldN
  rw [List.foldl_append] <;> rfl
theorem addF_len (ss : List Str) (x : Str) : (addF ss x).length ≤ ss.length + 1 := by
  unfold addF
  split
  · omega
  · rw [List.length_append, List.length_singleton]
    exact Nat.le_refl _
theorem foldN_len (c : Int) : ∀ (xs ss : List Str), (xs.foldl (fun ss x => addF (addF ss (x ++ moreF c)) (moreF c ++ x)) ss).length ≤ ss.length + 2 * xs.length
  | [], ss => Nat.le_refl _
  | x :: xs, ss => by
    have h := foldN_len c xs (addF (addF ss (x ++ moreF c)) (moreF c ++ x))
    have h1 := addF_len (addF ss (x ++ moreF c)) (moreF c ++ x)
    have h2 := addF_len ss (x ++ moreF c)
    rw [List.length_cons]
    exact Nat.le_trans h (by omega)
theorem inj_natI : ∀ x y : Nat, D.int (x : Int) = D.int (y : Int) → x = y := fun x y h => by
  injection h with h
  omega
theorem inj_sgn : ∀ x y : Nat, sgn x = sgn y → x = y := fun x y h => by
  injection h with h
  injection h with h
  injection h with h
  injection h
theorem body_l_names {K : PySem.W.Frag} : BodyD K 10 (t_l_names K) R_l_names := by
  rintro ds o b E ⟨c, rfl, rfl⟩ _
  have hb := bsN_b c
  refine st_seq (st_set (d := .str LT) evd_str ?_)
  refine st_seq (st_set (d := .str "") evd_str ?_)
  refine st_seq (st_forT (xs := List.range (bsN c)) (fun i : Nat => D.int (i : Int)) (js := [3]) (f := fun x r => r.set 3 (some (.dat x))) (src_rng1 (n := 1 + c % 19) (eva_cons (by wtm_at "ev") eva_nil) (by omega) (by omega)) (fun _ _ => gt_name)
    (fun i rr => ∃ y3, rr = [some (.dat (.int c)), some (.dat (.str LT)), some (.dat (.str (baseF c i))), y3, none, none, none, none, none, none]) ⟨_, rfl⟩ ?_ ?_)
  · rintro b2 i x rr hx ⟨y3, rfl⟩
    obtain ⟨hi, e⟩ := List.getElem?_eq_some_iff.mp hx
    rw [List.getElem_range] at e
    subst e
    rw [List.length_range] at hi
    have hl := baseF_len c i
    have hm : IntMulOk (i : Int) (i : Int) := mul_s (.inl (by omega))
    refine st_set (d := .str (baseF c i ++ ltS ((c / 361 + (i : Int) * (i : Int) * (1 + c / 7 % 5)) % 26))) (evd_op (e := .str (ltS ((c / 361 + (i : Int) * (i : Int) * (1 + c / 7 % 5)) % 26))) (evd_var rfl) (evd_op (d := .str LT) (e := .int ((c / 361 + (i : Int) * (i : Int) * (1 + c / 7 % 5)) % 26)) (evd_var rfl) (evd_op (d := .int (c / 361 + (i : Int) * (i : Int) * (1 + c / 7 % 5))) (evd_op (d := .int (c / 361)) (e := .int ((i : Int) * (i : Int) * (1 + c / 7 % 5))) (by wtm_at "ev") (evd_op (d := .int ((i : Int) * (i : Int))) (e := .int (1 + c / 7 % 5)) (evd_op (evd_var rfl) (evd_var rfl) (rd_mul hm)) (by wtm_at "ev") (rd_mul (mul_s (.inr (by omega))))) rd_add) evd_int (rd_mod (by decide))) (rd_ixS (by decide +kernel) (lt_at (by omega) (by omega)))) (rd_addS (by rw [hl, ltS_len]; omega))) ⟨_, rfl⟩
  rintro rr ⟨y3, rfl⟩
  rw [List.length_range]
  have hl : (baseF c (bsN c)).length = bsN c := baseF_len c _
  have ha := bsA_lt c
  have e4 : c / 19 % (bsN c : Int) = (bsA c : Int) := (Int.toNat_of_nonneg (Int.emod_nonneg _ (by omega))).symm
  have c4 : CD K (rLen K) [.str (baseF c (bsN c))] (.int (bsN c : Int)) := by
    have h := cd_lenS (K := K) (x := baseF c (bsN c)) (by omega)
    rw [hl] at h
    exact h
  refine st_seq (st_set (d := .int (bsA c : Int)) (by rw [← e4]; exact evd_op (e := .int (bsN c : Int)) (by wtm_at "ev") (evd_cb (eva_cons (evd_var rfl) eva_nil) c4) (rd_mod (by omega))) ?_)
  have h := evf_lcT (K := K) (b := b) (ρ := [some (.dat (.int c)), some (.dat (.str LT)), some (.dat (.str (bsF c))), y3, some (.dat (.int (bsA c : Int))), none, none, none, none, none]) (te := tOp rAddA (tOp rAddA (tSl rSlS (tVar 2) tNoPart (tPart (tVar 4))) (tVar 9)) (tSl rSlS (tVar 2) (tPart (tOp rAddA (tVar 4) (tC (.int 1)))) tNoPart)) (tt := tYes) (wi := iStr (tVar 1)) (g := gName 9) (xs := LT.cps.toList) (vs := [9]) sgn inj_sgn (js := [9]) (f := fun x r => r.set 9 (some (.dat x))) (fun _ => true) (fun x => .str (altS c x)) (src_str (evd_var rfl)) (fun _ _ => gt_name) (fun _ q => q) (by rw [LT_len]; decide) (fun j hj => evb_yes) (fun j hj z => by
      have hl2 : (bsF c).length = bsN c := hl
      have q1 : (cutS (bsF c) none (some (bsA c : Int))).length ≤ bsN c := by rw [← hl2]; exact cutS_le _ _ _
      have q2 : (cutS (bsF c) (some ((bsA c : Int) + 1)) none).length ≤ bsN c := by rw [← hl2]; exact cutS_le _ _ _
      refine evd_op (d := .str (cutS (bsF c) none (some (bsA c : Int)) ++ (⟨#[j]⟩ : Str))) (e := .str (cutS (bsF c) (some ((bsA c : Int) + 1)) none)) (evd_op (d := .str (cutS (bsF c) none (some (bsA c : Int)))) (e := .str ⟨#[j]⟩) (evd_slS (evd_var rfl) (by omega) evo_none (evo_some (evd_var rfl))) (evd_var rfl) (rd_addS ?_)) (evd_slS (evd_var rfl) (by omega) (evo_some (evd_op (evd_var rfl) evd_int rd_add)) evo_none) (rd_addS ?_)
      · rw [show (⟨#[j]⟩ : Str).length = 1 from rfl]; omega
      · rw [str_lenApp, show (⟨#[j]⟩ : Str).length = 1 from rfl]; omega)
  rw [List.filter_eq_self.mpr (fun _ _ => rfl)] at h
  have e5 : LT.cps.toList.map (fun x => D.str (altS c x)) = (altsF c).map D.str := by
    unfold altsF
    rw [List.map_map] <;> rfl
  rw [e5] at h
  refine st_seq (st_set (d := .lst ((altsF c).map D.str)) (evd_f h) ?_)
  refine st_seq (st_set (d := .str (moreF c)) (evd_op (d := .str LT) (e := .int (c / 361 % 26)) (evd_var rfl) (by wtm_at "ev") (rd_ixS (by decide +kernel) (lt_at (by omega) (by omega)))) ?_)
  have h3 : cutD ((altsF c).map D.str) none (some 3) = ((altsF c).take 3).map D.str := by
    exact cut_toS (altsF c) 3
  refine st_seq (st_forT (xs := (altsF c).take 3) D.str (js := [7]) (f := fun x r => r.set 7 (some (.dat x))) (by rw [← h3]; exact src_seqL (evd_f (evf_sl (evd_var rfl) rfl evo_none (evo_some evd_int))) rfl) (fun _ _ => gt_name)
    (fun i rr => ∃ y3 y7 y8, rr = [some (.dat (.int c)), some (.dat (.str LT)), some (.dat (.str (bsF c))), y3, some (.dat (.int (bsA c : Int))), some (.dat (.lst ((foldN c ((altsF c).take i)).map D.str))), some (.dat (.str (moreF c))), y7, y8, none]) ⟨_, _, _, rfl⟩ ?_ ?_)
  · rintro b2 i x rr hx ⟨z3, z7, z8, rfl⟩
    have hxm : x.length = bsN c := by
      have h6 := List.mem_of_getElem? hx
      obtain ⟨y, _, rfl⟩ := List.mem_map.mp (List.mem_of_mem_take h6)
      exact altS_len c y
    have hL : (foldN c (((altsF c).take 3).take i)).length ≤ 32 := by
      have h7 := foldN_len c (((altsF c).take 3).take i) (altsF c)
      have h8 : (((altsF c).take 3).take i).length ≤ 3 := by
        rw [List.length_take, List.length_take]
        omega
      have h9 := altsF_len c
      exact Nat.le_trans h7 (by omega)
    rw [List.take_take] at hL
    have m1 : (moreF c).length = 1 := rfl
    have hi : i < 3 := by
      have h6 := (List.getElem?_eq_some_iff.mp hx).1
      rw [List.length_take] at h6
      omega
    rw [show min i 3 = i by omega] at hL
    refine st_forT (xs := [x ++ moreF c, moreF c ++ x]) D.str (js := [8]) (f := fun x r => r.set 8 (some (.dat x))) (src_seqL (d := .lst [.str (x ++ moreF c), .str (moreF c ++ x)]) (evd_lst (eva_cons (evd_op (d := .str x) (e := .str (moreF c)) (evd_var rfl) (evd_var rfl) (rd_addS (by omega))) (eva_cons (evd_op (d := .str (moreF c)) (e := .str x) (evd_var rfl) (evd_var rfl) (rd_addS (by omega))) eva_nil)) (by simp only [List.length_cons, List.length_nil]; decide)) rfl) (fun _ _ => gt_name)
      (fun k rr => ∃ y8, rr = [some (.dat (.int c)), some (.dat (.str LT)), some (.dat (.str (bsF c))), z3, some (.dat (.int (bsA c : Int))), some (.dat (.lst (((([x ++ moreF c, moreF c ++ x].take k).foldl addF (foldN c ((altsF c).take i)))).map D.str))), some (.dat (.str (moreF c))), some (.dat (.str x)), y8, none]) ⟨_, rfl⟩ ?_ ?_
    · rintro b3 k y rr hy ⟨y8, rfl⟩
      have hk := (List.getElem?_eq_some_iff.mp hy).1
      have hk2 : k < 2 := hk
      have hS : (([x ++ moreF c, moreF c ++ x].take k).foldl addF (foldN c ((altsF c).take i))).length ≤ 40 := by
        have hk3 : k = 0 ∨ k = 1 := by omega
        rcases hk3 with rfl | rfl
        · show (foldN c ((altsF c).take i)).length ≤ 40
          omega
        · show (addF (foldN c ((altsF c).take i)) (x ++ moreF c)).length ≤ 40
          have := addF_len (foldN c ((altsF c).take i)) (x ++ moreF c)
          omega
      have hnx : ([x ++ moreF c, moreF c ++ x].take (k + 1)).foldl addF (foldN c ((altsF c).take i)) = addF (([x ++ moreF c, moreF c ++ x].take k).foldl addF (foldN c ((altsF c).take i))) y := by
        rw [List.take_add_one, hy, List.foldl_append] <;> rfl
      generalize ([x ++ moreF c, moreF c ++ x].take k).foldl addF (foldN c ((altsF c).take i)) = S at hS hnx ⊢
      refine st_if (c := !decide (y ∈ S)) (evb_test (evd_op (d := .str y) (e := .lst (S.map D.str)) (evd_var rfl) (evd_var rfl) (rd_notInStr rfl))) (fun z => ?_) fun z => ?_
      · have hm : y ∉ S := fun h => by rw [decide_eq_true h] at z; cases z
        refine st_set (d := .lst (S.map D.str ++ [.str y])) (evd_op (d := .lst (S.map D.str)) (e := .lst [.str y]) (evd_var rfl) (evd_lst (eva_cons (evd_var rfl) eva_nil) (by simp only [List.length_cons, List.length_nil]; decide)) (rd_addL (by rw [List.length_map]; simp only [List.length_cons, List.length_nil]; omega))) ⟨some (.dat (.str y)), ?_⟩
        rw [hnx]
        unfold addF
        rw [if_neg hm, List.map_append] <;> rfl
      · have hm : y ∈ S := by
          by_cases h : y ∈ S
          · exact h
          · rw [decide_eq_false h] at z; cases z
        refine st_next ⟨some (.dat (.str y)), ?_⟩
        rw [hnx]
        unfold addF
        rw [if_pos hm] <;> rfl
    · rintro rr ⟨y8, rfl⟩
      refine ⟨z3, some (.dat (.str x)), y8, ?_⟩
      have hx' : (altsF c)[i]? = some x := by
        rw [List.getElem?_take, if_pos hi] at hx
        exact hx
      rw [foldN_succ hx'] <;> rfl
  rintro rr ⟨z3, z7, z8, rfl⟩
  exact st_ret (d := .lst ((foldN c ((altsF c).take ((altsF c).take 3).length)).map D.str)) (evd_var rfl) (by rw [List.length_take, altsF_len] <;> rfl)

theorem body_l_name {K : PySem.W.Frag} : BodyD K 4 (t_l_name K) R_l_name := by
  rintro ds o b E ⟨d, kvs, ss, n, sh, z, rfl, hd, hk, s0, hs, hf, rfl⟩ _
  have hd' := seq_of_lst hd
  have ez : (((kvs.map rowD).length : Nat) : Int) = (kvs.length : Int) := by rw [List.length_map]
  have es : (((ss.map D.str).length : Nat) : Int) = (ss.length : Int) := by rw [List.length_map]
  have lenK : CD K (rLen K) [d] (.int (kvs.length : Int)) := by
    rw [← ez]
    exact cd_len hd'
  have lenS : CD K (rLen K) [D.lst (ss.map D.str)] (.int (ss.length : Int)) := by
    rw [← es]
    exact cd_len rfl
  refine st_seq (st_if (c := decide (sh ≤ n % 4) || decide ((kvs.length : Int) = 0)) (evb_or ?_ fun _ => evb_test (evd_op (evd_cb (eva_cons (evd_var rfl) eva_nil) lenK) evd_int rd_eqI)) (fun c => ?_) fun c => st_next ?_)
  · wtm_at "ev"
  · have hc : sh ≤ n % 4 ∨ kvs.length = 0 := by
      rcases Bool.or_eq_true_iff.mp c with h | h
      · exact .inl (of_decide_eq_true h)
      · exact .inr (by have := of_decide_eq_true h; omega)
    unfold nameF at hf
    rw [if_pos hc] at hf
    exact st_ret (evd_op (e := .int (n / 4 % (ss.length : Int))) (evd_var rfl) (evd_op (by wtm_at "ev") (evd_cb (eva_cons (evd_var rfl) eva_nil) lenS) (rd_mod (by omega))) (rd_ix rfl (lst_ok1 (Int.emod_nonneg _ (by omega)) hf))) rfl
  · obtain ⟨c1, c2⟩ := Bool.or_eq_false_iff.mp c
    have hc : ¬ (sh ≤ n % 4 ∨ kvs.length = 0) := by
      rintro (h | h)
      · exact absurd h (of_decide_eq_false c1)
      · exact absurd (by omega) (of_decide_eq_false c2)
    have c2' := of_decide_eq_false c2
    unfold nameF at hf
    rw [if_neg hc] at hf
    obtain ⟨p, hp, rfl⟩ := Option.map_eq_some_iff.mp hf
    exact st_ret (evd_op (d := rowD p) (evd_op (e := .int (n / 4 % (kvs.length : Int))) (evd_var rfl) (evd_op (by wtm_at "ev") (evd_cb (eva_cons (evd_var rfl) eva_nil) lenK) (rd_mod (by omega))) (rd_ix hd' (lst_ok1 (Int.emod_nonneg _ (by omega)) hp))) evd_int (rd_ix rfl rfl)) rfl

theorem inj_str10 : ∀ x y, D.str x = D.str y → x = y := fun x y h => by
  injection h
theorem body_l_new_name {K : PySem.W.Frag} : BodyD K 5 (t_l_new_name K) R_l_new_name := by
  rintro ds o b E ⟨d, kvs, ss, zs, z, rfl, hd, hk, hs, hf, rfl⟩ _
  have h := evf_lcT (K := K) (b := b) (ρ := [some (.dat d), some (.dat (.lst (ss.map D.str))), none, none, none]) (te := tOp (rIx K) (tVar 3) (tC (.int 0))) (tt := tYes) (wi := iSeq K (tVar 0)) (g := gName 3) (xs := kvs) (vs := [3]) rowD inj_rowD (js := [3]) (f := fun x r => r.set 3 (some (.dat x))) (fun _ => true) (fun p => .str p.1) (src_seqL (evd_var rfl) hd) (fun _ _ => gt_name) (fun _ q => q) (by omega) (fun j hj => evb_yes) (fun j hj z => evd_op (d := rowD j) (evd_var rfl) evd_int (rd_ix rfl rfl))
  rw [List.filter_eq_self.mpr (fun _ _ => rfl)] at h
  refine st_seq (st_set (d := .lst (kvs.map fun p : Str × (Int × Int) => D.str p.1)) (evd_f h) ?_)
  have hm : lstOf (D.lst (kvs.map fun p : Str × (Int × Int) => D.str p.1)) = some ((kvs.map (·.1)).map D.str) := by
    rw [List.map_map] <;> rfl
  have h2 := evf_lcT (K := K) (b := b) (ρ := [some (.dat d), some (.dat (.lst (ss.map D.str))), some (.dat (.lst (kvs.map fun p : Str × (Int × Int) => D.str p.1))), none, none]) (te := tVar 4) (tt := tTest (tOp (rIn K true) (tVar 4) (tVar 2))) (wi := iSeq K (tVar 1)) (g := gName 4) (xs := ss) (vs := [4]) D.str inj_str10 (js := [4]) (f := fun x r => r.set 4 (some (.dat x))) (fun s => !decide (s ∈ kvs.map (·.1))) (fun s => .str s) (src_seqL (evd_var rfl) rfl) (fun _ _ => gt_name) (fun _ q => q) (by omega) (fun j hj => evb_test (evd_op (evd_var rfl) (evd_var rfl) (rd_notInStr hm))) (fun j hj z => evd_var rfl)
  have e : (ss.filter fun s => !decide (s ∈ kvs.map (·.1))) = z :: zs := hf
  rw [e] at h2
  exact st_ret (evd_op (e := .int 0) (evd_f h2) evd_int (rd_ix rfl (lst_ok1 (xs := z :: zs) (f := fun s => D.str s) (i := 0) (x := z) (by decide) rfl))) rfl

theorem body_l_gap {K : PySem.W.Frag} : BodyD K 3 (t_l_gap K) R_l_gap := by
  rintro ds o b E ⟨c, rfl, rfl⟩ _
  have hw : RD K (rIx K) (.lst [.int 2, .int 4, .int 8, .int 3]) (.int (c / 6 % 4)) (.int (w4 (c / 6 % 4))) := by
    refine rd_ix rfl ?_
    unfold w4
    have h3 : c / 6 % 4 = 0 ∨ c / 6 % 4 = 1 ∨ c / 6 % 4 = 2 ∨ c / 6 % 4 = 3 := by omega
    rcases h3 with h | h | h | h <;> rw [h] <;> rfl
  have hv : RD K (rIx K) (.lst [.int 1, .int 3, .int 9, .int 5]) (.int (c / 6 / 4 % 4)) (.int (v4 (c / 6 / 4 % 4))) := by
    refine rd_ix rfl ?_
    unfold v4
    have h3 : c / 6 / 4 % 4 = 0 ∨ c / 6 / 4 % 4 = 1 ∨ c / 6 / 4 % 4 = 2 ∨ c / 6 / 4 % 4 = 3 := by omega
    rcases h3 with h | h | h | h <;> rw [h] <;> rfl
  have hm : IntMulOk (w4 (c / 6 % 4)) (v4 (c / 6 / 4 % 4)) := mul_s (.inl (by
    have h1 := w4_b (c / 6 % 4)
    omega))
  refine st_seq (st_set (d := .int (c / 6)) ?_ ?_)
  · wtm_at "ev"
  refine st_seq (st_set (d := .lst [.int (1 + c / 6 % 12), .int (w4 (c / 6 % 4) * v4 (c / 6 / 4 % 4)), .int (1 + c / 6 % 1000000000)]) (evd_lst (eva_cons ?_ (eva_cons (evd_op (evd_op ?_ ?_ hw) (evd_op ?_ ?_ hv) (rd_mul hm)) (eva_cons ?_ eva_nil))) (by simp only [List.length_cons, List.length_nil]; decide)) ?_)
  · wtm_at "ev"
  · wtm_at "ev"
  · wtm_at "ev"
  · wtm_at "ev"
  · wtm_at "ev"
  · exact evd_op evd_int (evd_op (e := .int (10 ^ (9 : Int).toNat)) (evd_var rfl) (by wtm_at "ev") (rd_mod (by decide))) rd_add
  refine st_seq (st_set (d := .lst [.int (1 + c / 6 % 12), .int (w4 (c / 6 % 4) * v4 (c / 6 / 4 % 4)), .int (1 + c / 6 % 1000000000), .int (12 * (1 + c / 6 % 1000)), .int 24, .int (0 - c / 6 % 1000000000)]) (evd_op (d := .lst [.int (1 + c / 6 % 12), .int (w4 (c / 6 % 4) * v4 (c / 6 / 4 % 4)), .int (1 + c / 6 % 1000000000)]) (e := .lst [.int (12 * (1 + c / 6 % 1000)), .int 24, .int (0 - c / 6 % 1000000000)]) (evd_var rfl) (evd_lst (eva_cons ?_ (eva_cons ?_ (eva_cons ?_ eva_nil))) (by simp only [List.length_cons, List.length_nil]; decide)) (rd_addL (by simp only [List.length_cons, List.length_nil]; decide))) ?_)
  · wtm_at "ev"
  · wtm_at "ev"
  · exact evd_op evd_int (evd_op (e := .int (10 ^ (9 : Int).toNat)) (evd_var rfl) (by wtm_at "ev") (rd_mod (by decide))) rd_sub
  refine st_ret (d := .int (gapT c)) (evd_op (d := .lst [.int (1 + c / 6 % 12), .int (w4 (c / 6 % 4) * v4 (c / 6 / 4 % 4)), .int (1 + c / 6 % 1000000000), .int (12 * (1 + c / 6 % 1000)), .int 24, .int (0 - c / 6 % 1000000000)]) (e := .int (c % 6)) (evd_var rfl) ?_ (rd_ix rfl ?_)) rfl
  · wtm_at "ev"
  · unfold gapT
    have h3 : c % 6 = 0 ∨ c % 6 = 1 ∨ c % 6 = 2 ∨ c % 6 = 3 ∨ c % 6 = 4 ∨ c % 6 = 5 := by omega
    rcases h3 with h | h | h | h | h | h <;> rw [h] <;> rfl

theorem body_l_kinds {K : PySem.W.Frag} {a : Addr} {cls : Value} {d : Option Addr} (xx : exK K = true) : BodyM K 2 (t_l_kinds K a cls d) (R_l_kinds K a cls d) := by
  rintro ds μ P X b E rfl ⟨D, n, rfl, rfl, I, hd, hP⟩ _
  have one : ∀ (ρ : Rho) (i : Nat) (y : Str), ρ[0]? = some (some (.dat (.obj (.ref a)))) → kys[i]? = some y → EvP K b (tCB (rIsY K a (.ref D) d) (tCons (tVar 0) (tCons (tC (.ref (He.ga K y))) tNil))) ρ b.m (.bl (decide ((i : Int) = n))) := fun ρ i y h0 hy =>
    evp_isY (evp_var h0) (evp_of fun _ => evd_obj) I.c (fun u hu => hu) (I.k i y hy) hd
  refine stM_seq (stM_setP (d := .lst [.bl true, .bl (decide (((0 : Nat) : Int) = n)), .bl (decide (((1 : Nat) : Int) = n)), .bl (decide (((2 : Nat) : Int) = n))]) (evp_lst (evpa_cons (evp_isY (evp_var rfl) (evp_of fun _ => evd_obj) I.c (fun u hu => hu) I.v hd) (evpa_cons (one _ 0 _ rfl rfl) (evpa_cons (one _ 1 _ rfl rfl) (evpa_cons (one _ 2 _ rfl rfl) evpa_nil)))) (by show 4 ≤ 100000; decide)) ?_)
  exact stM_retP (d := onlyD n) (evp_op (evp_var rfl) (evp_lst (ds := [.bl (decide (((3 : Nat) : Int) = n)), .bl (decide (((4 : Nat) : Int) = n)), .bl (decide (((5 : Nat) : Int) = n))]) (evpa_cons (one _ 3 _ rfl rfl) (evpa_cons (one _ 4 _ rfl rfl) (evpa_cons (one _ 5 _ rfl rfl) evpa_nil))) (by show 3 ≤ 100000; decide)) (rd_addL (by show 4 + 3 ≤ 100000; decide))) hP

theorem body_l_kindsT {K : PySem.W.Frag} (xx : exK K = true) : BodyM K 2 (t_l_kindsT K) (R_l_kindsT K) := by
  rintro ds μ P X b E rfl ⟨a, D, x, fs, n, rfl, I, ha, hx, hP⟩ _
  have one : ∀ (ρ : Rho) (i : Nat) (y : Str), ρ[0]? = some (some (.dat (.obj (.ref a)))) → kys[i]? = some y → EvP K b (tCB (rIsT K) (tCons (tVar 0) (tCons (tC (.ref (He.ga K y))) tNil))) ρ b.m (.bl (decide ((i : Int) = n))) := fun ρ i y h0 hy =>
    evp_isT (evp_var h0) (evp_of fun _ => evd_obj) I.c (fun u hu => hu) (I.k i y hy) ha hx
  refine stM_seq (stM_setP (d := .lst [.bl true, .bl (decide (((0 : Nat) : Int) = n)), .bl (decide (((1 : Nat) : Int) = n)), .bl (decide (((2 : Nat) : Int) = n))]) (evp_lst (evpa_cons (evp_isT (evp_var rfl) (evp_of fun _ => evd_obj) I.c (fun u hu => hu) I.v ha hx) (evpa_cons (one _ 0 _ rfl rfl) (evpa_cons (one _ 1 _ rfl rfl) (evpa_cons (one _ 2 _ rfl rfl) evpa_nil)))) (by show 4 ≤ 100000; decide)) ?_)
  exact stM_retP (d := onlyD n) (evp_op (evp_var rfl) (evp_lst (ds := [.bl (decide (((3 : Nat) : Int) = n)), .bl (decide (((4 : Nat) : Int) = n)), .bl (decide (((5 : Nat) : Int) = n))]) (evpa_cons (one _ 3 _ rfl rfl) (evpa_cons (one _ 4 _ rfl rfl) (evpa_cons (one _ 5 _ rfl rfl) evpa_nil))) (by show 3 ≤ 100000; decide)) (rd_addL (by show 4 + 3 ≤ 100000; decide))) hP

theorem body_l_only {K : PySem.W.Frag} : BodyD K 2 (t_l_only K) R_l_only := by
  rintro ds o b E ⟨n, rfl, rfl⟩ _
  have inj : ∀ x y : Nat, D.int (x : Int) = D.int (y : Int) → x = y := fun x y h => by
    injection h with h
    omega
  have h := evf_lcT (K := K) (b := b) (ρ := [some (.dat (.int n)), none]) (te := tOp (rEqA K) (tVar 1) (tVar 0)) (tt := tYes) (wi := iRng1 (tCons (tC (.int 6)) tNil)) (g := gName 1) (xs := List.range 6) (vs := [1]) (fun i : Nat => D.int (i : Int)) inj (js := [1]) (f := fun x r => r.set 1 (some (.dat x))) (fun _ => true) (fun i : Nat => .bl (decide ((i : Int) = n))) (src_rng1 (n := 6) (eva_cons evd_int eva_nil) (by decide) (by decide)) (fun _ _ => gt_name) (fun _ q => q) (by rw [List.length_range]; decide) (fun j hj => evb_yes) (fun j hj z => evd_op (evd_var rfl) (evd_var rfl) rd_eqI)
  rw [List.filter_eq_self.mpr (fun _ _ => rfl)] at h
  exact st_ret (evd_op (evd_lst (ds := [.bl true]) (eva_cons evd_bl eva_nil) (by decide)) (evd_f h) (rd_addL (by rw [List.length_map, List.length_range] <;> decide))) rfl

theorem body_l_fields {K : PySem.W.Frag} {a : Addr} {cls : Value} {d : Option Addr} (xx : exK K = true) : BodyM K 1 (t_l_fields K a cls d) (R_l_fields K a cls d) := by
  rintro ds μ P X b E rfl ⟨dd, x, y, n, rfl, rfl, rfl, hd, hP⟩ _
  have I := isK5 xx
  refine stM_seq (stM_if (c := decide (((5 : Nat) : Int) = 5)) (evpb_B (evp_isY (evp_var rfl) (evp_of fun _ => evd_obj) I.c (fun u hu => hu) (I.k 5 "Clash" rfl) (.inr ⟨dd, _, rfl, hd⟩))) (fun _ => ?_) fun z => nomatch z)
  exact stM_retP (evp_lst (ds := [.str x, .str y, .int n]) (evpa_cons (evp_xf (v := .str x) (evp_var rfl) hd rfl fun H => .str x) (evpa_cons (evp_xf (v := .str y) (evp_var rfl) hd rfl fun H => .str y) (evpa_cons (evp_xf (v := .int n) (evp_var rfl) hd rfl fun H => .int n) evpa_nil))) (by show 3 ≤ 100000; decide)) hP

theorem body_l_fieldsT {K : PySem.W.Frag} (xx : exK K = true) : BodyM K 1 (t_l_fieldsT K) (R_l_fieldsT K) := by
  rintro ds μ P X b E rfl ⟨a, dd, x, y, n, rfl, ha, hd, hP⟩ _
  have I := isK5 xx
  obtain ⟨n1, n2, n3⟩ := exK_cf xx
  have T := (exK_cl xx).x
  refine stM_seq (stM_if (c := decide (((5 : Nat) : Int) = 5)) (evpb_B (evp_isT (evp_var rfl) (evp_of fun _ => evd_obj) I.c (fun u hu => hu) (I.k 5 "Clash" rfl) ha hd)) (fun _ => ?_) fun z => nomatch z)
  exact stM_retP (evp_lst (ds := [.str x, .str y, .int n]) (evpa_cons (evp_xfT (v := .str x) (evp_var rfl) ha hd T n1 rfl fun H => .str x) (evpa_cons (evp_xfT (v := .str y) (evp_var rfl) ha hd T n2 rfl fun H => .str y) (evpa_cons (evp_xfT (v := .int n) (evp_var rfl) ha hd T n3 rfl fun H => .int n) evpa_nil))) (by show 3 ≤ 100000; decide)) hP

theorem Tw.ne {K : PySem.W.Frag} {μ : Mu} {T d dx : Addr} {kvs : Kvs} (h : Tw K μ T d dx kvs) : T ≠ d := fun e => by
  have h2 := h.2
  rw [← e, h.1] at h2
  cases h2
theorem ne_of_mu {μ : Mu} {a c : Addr} {x y : MC} (h1 : μ a = some x) (h2 : μ c = some y) (h : x ≠ y) : a ≠ c := fun e => by
  subst e
  rw [h1] at h2
  injection h2 with h2
  exact h h2
/-- one[0] for one in row, and a name looked up among them -/
theorem names_in {K : PySem.W.Frag} {b' : Bs} {ρ : Rho} {kvs : Kvs} {s : Str} {i j v : Nat} {d0 : D} (h1 : ρ[i]? = some (some (.dat d0))) (hd0 : lstOf d0 = some (kvs.map rowD)) (h2 : ρ[j]? = some (some (.dat (.str s)))) (hv : v < ρ.length) (hz : kvs.length ≤ 1000) : EvB K b' (tTest (tOp (rIn K false) (tVar j) (tLc (iSeq K (tVar i)) (gName v) tYes (tOp (rIx K) (tVar v) (tC (.int 0))) [v]))) ρ (decide (s ∈ kvs.map (·.1))) := by
  have h := evf_lcT (K := K) (b := b') (ρ := ρ) (te := tOp (rIx K) (tVar v) (tC (.int 0))) (tt := tYes) (wi := iSeq K (tVar i)) (g := gName v) (xs := kvs) (vs := [v]) rowD inj_rowD (js := [v]) (f := fun x r => r.set v (some (.dat x))) (fun _ => true) (fun p => .str p.1) (src_seqL (evd_var h1) hd0) (fun _ _ => gt_name) (fun _ q => q) (by omega) (fun j hj => evb_yes) (fun x hx z => evd_op (d := rowD x) (evd_var (by
    show ((ρ.set v none).set v (some (.dat (rowD x))))[v]? = _
    rw [List.getElem?_set_self (by rw [List.length_set]; exact hv)])) evd_int (rd_ix rfl rfl))
  rw [flt_all] at h
  have hm : lstOf (D.lst (kvs.map fun p : Str × (Int × Int) => D.str p.1)) = some ((kvs.map (·.1)).map D.str) := by
    rw [List.map_map] <;> rfl
  exact evb_test (evd_op (evd_var h2) (evd_f h) (rd_inStr hm))
theorem emp_q : (D.lst []).q 1 := fun d hd => by cases hd
theorem body_l_hang {K : PySem.W.Frag} (xx : exK K = true) : BodyM K 10 (t_l_hang K) (R_l_hang K) := by
  rintro ds μ P X b E rfl ⟨T, d, dx, r, kvs, s, f, w, pl, rfl, hT, hr, hz, hw, hP⟩ hX
  have nd : r ≠ d := ne_of_mu hr hT.2 (fun z => nomatch z)
  have nT : r ≠ T := ne_of_mu hr hT.1 (fun z => nomatch z)
  refine stM_seq (stM_setP (d := .lst []) (evp_lst evpa_nil (by decide)) ?_)
  refine stM_seq (stM_setP (d := .non) (evp_of fun _ => evd_non) ?_)
  -- what comes of the call
  let P1 : D → Mu → Prop := fun d' μ' => d' = .non ∧ s ∉ kvs.map (·.1) ∧ 0 < w ∧ μ' = updM b.m d (.dct (kvs ++ [(s, (f % w, w))]))
  let X1 : Value → Option Addr → Mu → Prop := fun c dd μ' => dd = none ∧ μ' = b.m ∧ ∃ n, c = .ref (He.ga K (if n = 3 then "Twice" else "NoBeat")) ∧ ((n = 3 ∧ s ∈ kvs.map (·.1)) ∨ (n = (0 : Int) ∧ s ∉ kvs.map (·.1) ∧ w < 1))
  have no : valD kvs s = none → s ∉ kvs.map (·.1) := fun z q => by
    have h := valD_mem s kvs
    rw [z, decide_eq_true q] at h
    cases h
  have hR : R_T_hang K [.obj (.ref T), .str s, .int f, .int w] b.m P1 X1 := ⟨T, d, dx, kvs, s, f, w, rfl, hT, hz, fun z => ⟨rfl, rfl, 3, rfl, .inl ⟨rfl, by rw [valD_mem] at z; exact of_decide_eq_true z⟩⟩, fun z z2 => ⟨rfl, rfl, 0, rfl, .inr ⟨rfl, no z, z2⟩⟩, fun z z2 => ⟨rfl, no z, z2, rfl⟩⟩
  let J : Rho → Mu → Prop := fun ρ μ' => ∃ kd, ρ = [some (.dat (.obj (.ref T))), some (.dat (.obj (.ref r))), some (.dat (.str s)), some (.dat (.int f)), some (.dat (.int w)), some (.dat (.bl pl)), some (.dat kd), some (.dat .non), none, none] ∧
    ((s ∈ kvs.map (·.1) ∧ kd = onlyD 3 ∧ μ' = b.m) ∨ (s ∉ kvs.map (·.1) ∧ w < 1 ∧ kd = onlyD 0 ∧ μ' = b.m) ∨ (s ∉ kvs.map (·.1) ∧ 0 < w ∧ kd = .lst [] ∧ μ' = updM b.m d (.dct (kvs ++ [(s, (f % w, w))]))))
  refine stM_join J (stM_try (fun ρ' c dd μ' => ρ' = [some (.dat (.obj (.ref T))), some (.dat (.obj (.ref r))), some (.dat (.str s)), some (.dat (.int f)), some (.dat (.int w)), some (.dat (.bl pl)), some (.dat (.lst [])), some (.dat .non), none, none] ∧ X1 c dd μ') (fun W hW => ?_) ?_) ?_
  · have fin : ∀ d' μ', P1 d' μ' → J ([some (.dat (.obj (.ref T))), some (.dat (.obj (.ref r))), some (.dat (.str s)), some (.dat (.int f)), some (.dat (.int w)), some (.dat (.bl pl)), some (.dat (.lst [])), some (.dat d'), none, none]) μ' := by
      rintro _ _ ⟨rfl, a1, a2, rfl⟩
      exact ⟨_, rfl, .inr (.inr ⟨a1, a2, rfl, rfl⟩)⟩
    refine stM_if (c := pl) (evpb_of fun b' => evb_B (evd_var rfl)) (fun z => ?_) fun z => ?_
    · have e := hw z
      rw [e] at hR
      have hR2 : R_T_hang K (.obj (.ref T) :: ([.str s, .int f] ++ [.int 24])) b.m P1 X1 := hR
      exact stM_set (evm_methE (R := R_T_hang K) (ds := [.str s, .int f]) (es := [.int 24]) (evp_var rfl) hT.1 rfl (evpa_cons (evp_var rfl) (evpa_cons (evp_var rfl) evpa_nil)) (fun H => .cons (.int 24) .nil) hR2 fun c dd μ' σ Hv' H' x A => hW σ Hv' H' _ c dd μ' A ⟨rfl, x⟩) fin
    · refine stM_if (c := decide (w % 3 = 0)) (evpb_of fun b' => evb_test (evd_op (evd_op (evd_var rfl) evd_int (rd_mod (by decide))) evd_int rd_eqI)) (fun z => ?_) fun z => ?_
      · exact stM_set (evm_methKE (R := R_T_hang K) (ds := [.str s, .int f]) (es := [.int w]) (evp_var rfl) hT.1 rfl (evpa_cons (evp_var rfl) (evpa_cons (evp_var rfl) evpa_nil)) (evpa_cons (evp_var rfl) evpa_nil) rfl rfl hR fun c dd μ' σ Hv' H' x A => hW σ Hv' H' _ c dd μ' A ⟨rfl, x⟩) fin
      · exact stM_set (evm_methE (R := R_T_hang K) (ds := [.str s, .int f, .int w]) (es := []) (evp_var rfl) hT.1 rfl (evpa_cons (evp_var rfl) (evpa_cons (evp_var rfl) (evpa_cons (evp_var rfl) evpa_nil))) (fun H => .nil) hR fun c dd μ' σ Hv' H' x A => hW σ Hv' H' _ c dd μ' A ⟨rfl, x⟩) fin
  · rintro _ c dd _ ⟨rfl, rfl, rfl, n, rfl, hn⟩
    have I : ExIs K (He.ga K (if n = 3 then "Twice" else "NoBeat")) n := by
      rcases hn with ⟨rfl, _⟩ | ⟨rfl, _⟩
      · exact isK3 xx
      · exact isK0 xx
    refine ⟨I.m, fun a => ?_⟩
    refine stM_setP (d := onlyD n) (evm_call (X := fun _ _ _ => False) (ds := [.obj (.ref a)]) (evpa_cons (evp_var rfl) evpa_nil) ⟨_, n, rfl, rfl, I, .inl rfl, rfl, rfl⟩ fun _ _ _ _ _ z => z.elim) ?_
    refine ⟨onlyD n, rfl, ?_⟩
    rcases hn with ⟨rfl, a1⟩ | ⟨rfl, a1, a2⟩
    · exact .inl ⟨a1, rfl, rfl⟩
    · exact .inr (.inl ⟨a1, a2, rfl, rfl⟩)
  rintro _ μ1 ⟨kd, rfl, hJ⟩
  have hr1 : μ1 r = some (.lst (kvs.map rowD)) := by
    rcases hJ with ⟨_, _, rfl⟩ | ⟨_, _, _, rfl⟩ | ⟨_, _, _, rfl⟩
    · exact hr
    · exact hr
    · rw [updM_ne nd]
      exact hr
  refine stM_seq (stM_if (c := !true) (evpb_of fun b' => evb_B (evd_notN (evd_var rfl) (rep_non rfl))) (fun z => nomatch z) fun _ => stM_next ?_)
  refine stM_seq (stM_if (c := decide (s ∈ kvs.map (·.1))) (evpb_look (.keep (.look hr1 (View.refl _ _))) fun b' => names_in rfl rfl rfl (by show 9 < 10; decide) (by omega)) (fun z => ?_) fun z => stM_next ?_)
  · have z' := of_decide_eq_true z
    rcases hJ with ⟨_, rfl, rfl⟩ | ⟨a1, _⟩ | ⟨a1, _⟩
    · have hg : hangF kvs s f w = kvs := if_pos (.inl z')
      rw [hg] at hP
      exact stM_retP (d := .bl true) (evp_of fun b' => evd_op (d := onlyD 3) (e := onlyD 3) (evd_var rfl) (evd_call (eva_cons evd_int eva_nil) r_l_only) (rd_same (only_q 3) (by decide) (only_q 3) (by decide) rfl)) (hP _ Chg.refl hT hr)
    · exact absurd z' a1
    · exact absurd z' a1
  have z' := of_decide_eq_false z
  refine stM_seq (stM_if (c := decide (w < 1)) (evpb_of fun b' => evb_test (evd_op (evd_var rfl) evd_int rd_lt)) (fun y => ?_) fun y => stM_next ?_)
  · have y' := of_decide_eq_true y
    rcases hJ with ⟨a1, _⟩ | ⟨_, _, rfl, rfl⟩ | ⟨_, a2, _⟩
    · exact absurd a1 z'
    · have hg : hangF kvs s f w = kvs := if_pos (.inr y')
      rw [hg] at hP
      exact stM_retP (d := .bl true) (evp_of fun b' => evd_op (d := onlyD 0) (e := onlyD 0) (evd_var rfl) (evd_call (eva_cons evd_int eva_nil) r_l_only) (rd_same (only_q 0) (by decide) (only_q 0) (by decide) rfl)) (hP _ Chg.refl hT hr)
    · omega
  have y' := of_decide_eq_false y
  rcases hJ with ⟨a1, _⟩ | ⟨_, a2, _⟩ | ⟨_, a2, rfl, rfl⟩
  · exact absurd a1 z'
  · exact absurd a2 y'
  have hg : hangF kvs s f w = kvs ++ [(s, (f % w, w))] := if_neg (fun q => q.elim z' y')
  rw [hg] at hP
  refine stM_seq (stM_append (p := r) (d := rowD (s, (f % w, w))) rfl hr1 (evp_of fun b' => evd_tup (eva_cons (evd_var rfl) (eva_cons (evd_tup (eva_cons (evd_op (evd_var rfl) (evd_var rfl) (rd_mod a2)) (eva_cons (evd_var rfl) eva_nil)) (by show 2 ≤ 100000; decide)) eva_nil)) (by show 2 ≤ 100000; decide)) (by rw [List.length_map]; omega) ?_)
  refine stM_retP (d := .bl true) (evp_of fun b' => evd_op (d := .lst []) (e := .lst []) (evd_var rfl) (evd_lst eva_nil (by decide)) (rd_same emp_q (by decide) emp_q (by decide) rfl)) (hP _ ((Chg.put (List.mem_cons_self ..)).trans (Chg.put (List.mem_cons_of_mem _ (List.mem_cons_self ..)))) ⟨?_, ?_⟩ ?_)
  · rw [updM_ne nT.symm, updM_ne hT.ne]
    exact hT.1
  · rw [updM_ne nd.symm, updM_same]
  · rw [updM_same, List.map_append] <;> rfl

theorem body_l_is_beat {K : PySem.W.Frag} : BodyD K 2 (t_l_is_beat K) R_l_is_beat := by
  rintro ds o b E ⟨r, g, rfl, rfl⟩ _
  refine st_seq (st_if (c := false) (evb_is (c := !true || !decide ((([D.int r, .int g] : List D).length : Int) = 2)) ?_ rfl) (fun h => nomatch h) fun _ => st_next ?_)
  · wtm_at "ev"
  refine st_ret (d := .bl true) (evd_is (d := .bl (true && (true && PyData.eqv (D.tup [.int r, .int g]).py (D.tup [.int r, .int g]).py))) (evd_andV ?_ fun _ => evd_andV ?_ fun _ => evd_op (evd_var rfl) (evd_var rfl) (rd_eqD rfl rfl)) (by rw [show PyData.eqv (D.tup [.int r, .int g]).py (D.tup [.int r, .int g]).py = true from (bt_eq r g r g).trans (by rw [decide_eq_true rfl, decide_eq_true rfl] <;> rfl)] <;> rfl)) rfl
  · wtm_at "ev"
  · wtm_at "ev"

theorem erase_map {α β : Type} (f : α → β) : ∀ (xs : List α) (k : Nat), (xs.map f).eraseIdx k = (xs.eraseIdx k).map f
  | [], _ => rfl
  | _ :: _, 0 => rfl
  | x :: xs, k + 1 => by
    show f x :: (xs.map f).eraseIdx k = f x :: (xs.eraseIdx k).map f
    rw [erase_map f xs k]
theorem nat_lo62 (n : Nat) : -(2 ^ 62 : Int) ≤ (n : Int) := Int.le_trans (by decide : -(2 ^ 62 : Int) ≤ 0) (Int.natCast_nonneg n)
theorem nat_hi62 {n : Nat} (h : n ≤ 1000) : (n : Int) < 2 ^ 62 := Int.lt_of_le_of_lt (show (n : Int) ≤ 1000 by omega) (by decide)
theorem nat_lo63 (n : Nat) : -(2 ^ 63 : Int) ≤ (n : Int) := Int.le_trans (by decide : -(2 ^ 63 : Int) ≤ 0) (Int.natCast_nonneg n)
theorem nat_hi63 {n : Nat} (h : n ≤ 1000) : (n : Int) < 2 ^ 63 := Int.lt_of_le_of_lt (show (n : Int) ≤ 1000 by omega) (by decide)
theorem bD_q (u : Int × Int) : (bD u).q 1 := fun d hd => by
  rcases List.mem_cons.mp hd with e | hd
  · rw [e]; exact True.intro
  · rw [List.mem_singleton] at hd
    rw [hd]
    exact True.intro
theorem lf_nats : ∀ ks : List Nat, lfAll (ks.map fun i => D.int (i : Nat)) = true
  | [] => rfl
  | k :: ks => by
    show ((D.int (k : Nat)).lf && lfAll (ks.map fun i => D.int (i : Nat))) = true
    rw [lf_nats ks] <;> rfl
theorem ix_one (n k : Nat) : n ≤ 100000 → n < k → seqIndex? (n : Int) k = some n := fun h h2 => by
  unfold seqIndex?
  simp
  omega
theorem body_l_take {K : PySem.W.Frag} (xx : exK K = true) : BodyM K 10 (t_l_take K) (R_l_take K) := by
  rintro ds μ P X b E rfl ⟨T, d, dx, r, c, kvs, s, n, rfl, hT, hr, hc, hrc, hz, hn, hk, hP⟩ hX
  have nd : r ≠ d := ne_of_mu hr hT.2 (fun z => nomatch z)
  have nT : r ≠ T := ne_of_mu hr hT.1 (fun z => nomatch z)
  have cd : c ≠ d := ne_of_mu hc hT.2 (fun z => nomatch z)
  have cT : c ≠ T := ne_of_mu hc hT.1 (fun z => nomatch z)
  refine stM_seq (stM_setP (d := .lst []) (evp_lst evpa_nil (by decide)) ?_)
  refine stM_seq (stM_setP (d := .non) (evp_of fun _ => evd_non) ?_)
  let P1 : D → Mu → Prop := fun d' μ' => ∃ u k, d' = bD u ∧ At1 kvs s u k ∧ μ' = updM b.m d (.dct (dropF kvs s))
  let X1 : Value → Option Addr → Mu → Prop := fun c dd μ' => dd = none ∧ μ' = b.m ∧ c = .ref (He.ga K "NoName") ∧ s ∉ kvs.map (·.1)
  have hR : R_T_take K [.obj (.ref T), .str s] b.m P1 X1 := ⟨T, d, dx, kvs, s, rfl, hT, fun z => ⟨rfl, rfl, rfl, fun q => by
    have h := valD_mem s kvs
    rw [z, decide_eq_true q] at h
    cases h⟩, fun u z => by
    obtain ⟨k, A⟩ := at1_of hk z
    exact ⟨u, k, rfl, A, rfl⟩⟩
  let J : Rho → Mu → Prop := fun ρ μ' => ∃ kd td, ρ = [some (.dat (.obj (.ref T))), some (.dat (.obj (.ref r))), some (.dat (.obj (.ref c))), some (.dat (.str s)), some (.dat kd), some (.dat td), none, none, none, none] ∧
    ((s ∉ kvs.map (·.1) ∧ kd = onlyD 4 ∧ td = .non ∧ μ' = b.m) ∨ (kd = .lst [] ∧ P1 td μ'))
  refine stM_join J (stM_try (fun ρ' c' dd μ' => ρ' = [some (.dat (.obj (.ref T))), some (.dat (.obj (.ref r))), some (.dat (.obj (.ref c))), some (.dat (.str s)), some (.dat (.lst [])), some (.dat .non), none, none, none, none] ∧ X1 c' dd μ') (fun W hW => ?_) ?_) ?_
  · exact stM_set (evm_methE (R := R_T_take K) (ds := [.str s]) (es := []) (evp_var rfl) hT.1 rfl (evpa_cons (evp_var rfl) evpa_nil) (fun H => .nil) hR fun c dd μ' σ Hv' H' x A => hW σ Hv' H' _ c dd μ' A ⟨rfl, x⟩) fun d' μ' h => ⟨_, d', rfl, .inr ⟨rfl, h⟩⟩
  · rintro _ c' dd _ ⟨rfl, rfl, rfl, rfl, hn⟩
    have I := isK4 xx
    refine ⟨I.m, fun a => ?_⟩
    refine stM_setP (d := onlyD 4) (evm_call (X := fun _ _ _ => False) (ds := [.obj (.ref a)]) (evpa_cons (evp_var rfl) evpa_nil) ⟨_, 4, rfl, rfl, I, .inl rfl, rfl, rfl⟩ fun _ _ _ _ _ z => z.elim) ?_
    exact ⟨onlyD 4, .non, rfl, .inl ⟨hn, rfl, rfl, rfl⟩⟩
  rintro _ μ1 ⟨kd, td, rfl, hJ⟩
  have hr1 : μ1 r = some (.lst (kvs.map rowD)) := by
    rcases hJ with ⟨_, _, _, rfl⟩ | ⟨_, u, k, _, _, rfl⟩
    · exact hr
    · rw [updM_ne nd]
      exact hr
  have hc1 : μ1 c = some (.lst [.int (n : Int)]) := by
    rcases hJ with ⟨_, _, _, rfl⟩ | ⟨_, u, k, _, _, rfl⟩
    · exact hc
    · rw [updM_ne cd]
      exact hc
  have hp := fun (x9 : Option SD) (b' : Bs) => evf_lcT (K := K) (b := b') (ρ := [some (.dat (.obj (.ref T))), some (.dat (.lsa r (kvs.map rowD))), some (.dat (.obj (.ref c))), some (.dat (.str s)), some (.dat kd), some (.dat td), none, none, none, none]) (te := tVar 9) (tt := tTest (tOp (rEqA K) (tOp (rIx K) (tOp (rIx K) (tVar 1) (tVar 9)) (tC (.int 0))) (tVar 3))) (wi := iRng1 (tCons (tCB (rLen K) (tCons (tVar 1) tNil)) tNil)) (g := gName 9) (xs := List.range kvs.length) (vs := [9]) (fun i : Nat => D.int (i : Int)) inj_nat (js := [9]) (f := fun x r => r.set 9 (some (.dat x))) (fun i => decide ((kvs.getD i ("", (0, 0))).1 = s)) (fun i : Nat => D.int (i : Int)) (by
      have h := src_rng1 (K := K) (b := b') (ρ := [some (.dat (.obj (.ref T))), some (.dat (.lsa r (kvs.map rowD))), some (.dat (.obj (.ref c))), some (.dat (.str s)), some (.dat kd), some (.dat td), none, none, none, none]) (tA := tCons (tCB (rLen K) (tCons (tVar 1) tNil)) tNil) (n := ((kvs.map rowD).length : Nat)) (eva_cons (evd_cb (eva_cons (evd_var rfl) eva_nil) (cd_len rfl)) eva_nil) (by rw [List.length_map]; exact nat_lo62 _) (by rw [List.length_map]; exact nat_hi62 hz)
      rw [List.length_map, Int.toNat_natCast] at h
      exact h) (fun _ _ => gt_name) (fun _ q => q) (by rw [List.length_range]; omega) (fun j hj => by
      have hj' : j < kvs.length := List.mem_range.mp hj
      rw [List.getD_eq_getElem?_getD, List.getElem?_eq_getElem hj']
      exact evb_test (evd_op (evd_op (d := rowD kvs[j]) (evd_op (d := .lsa r (kvs.map rowD)) (e := .int (j : Int)) (evd_var rfl) (evd_var rfl) (rd_ix rfl (atI_nat (by rw [List.getElem?_map, List.getElem?_eq_getElem hj'] <;> rfl)))) evd_int (rd_ix rfl rfl)) (evd_var rfl) rd_eqS)) (fun j hj z => evd_var rfl)
  refine stM_seq (stM_setP (d := .lst (((List.range kvs.length).filter fun i => decide ((kvs.getD i ("", (0, 0))).1 = s)).map fun i : Nat => D.int (i : Int))) (evp_lookF (.keep (.look hr1 (View.refl _ _))) (fun b' => hp none b') (lf_nats _)) ?_)
  rcases hJ with ⟨no, rfl, rfl, rfl⟩ | ⟨rfl, u, k, rfl, A, rfl⟩
  · rw [places_no no]
    refine stM_seq (stM_if (c := true) (evpb_of fun b' => evb_is (evb_test (evd_op (evd_cb (eva_cons (evd_var rfl) eva_nil) (cd_len rfl)) evd_int rd_eqI)) rfl) (fun _ => ?_) fun z => nomatch z)
    have e1 := dropF_no no
    have e2 : takeN kvs s n = n := by
      unfold takeN
      rw [posF_no no, if_neg (by omega)]
    rw [e1, e2] at hP
    exact stM_retP (d := .bl (true && true)) (evp_of fun b' => evd_andV (evd_isN (evd_var rfl) (rep_non rfl)) fun _ => evd_op (d := onlyD 4) (e := onlyD 4) (evd_var rfl) (evd_call (eva_cons evd_int eva_nil) r_l_only) (rd_same (only_q 4) (by decide) (only_q 4) (by decide) rfl)) (hP _ Chg.refl hT hr hc)
  rw [places A]
  have hkl : k < kvs.length := (List.getElem?_eq_some_iff.mp A.g).1
  refine stM_seq (stM_if (c := false) (evpb_of fun b' => evb_is (evb_test (evd_op (evd_cb (eva_cons (evd_var rfl) eva_nil) (cd_len rfl)) evd_int rd_eqI)) rfl) (fun z => nomatch z) fun _ => stM_next ?_)
  refine stM_seq (stM_set (P := fun d' μ' => d' = bD u ∧ μ' = updM (updM b.m d (.dct (dropF kvs s))) r (.lst ((kvs.map rowD).eraseIdx k))) (evm_op (evm_popAt (p := r) (n := (k : Int)) (k := k) (d := rowD (s, u)) rfl hr1 (evp_of fun b' => evd_op (evd_var rfl) evd_int (rd_ix rfl rfl)) ⟨nat_lo63 _, nat_hi63 (by omega)⟩ (by rw [List.length_map]; exact ix_one k _ (by omega) hkl) (by rw [List.getElem?_map, A.g] <;> rfl)) ?_) ?_)
  · rintro _ _ ⟨rfl, rfl⟩
    exact ⟨.int 1, bD u, evp_int, rd_ix rfl rfl, rfl, rfl⟩
  rintro _ _ ⟨rfl, rfl⟩
  have er : (kvs.map rowD).eraseIdx k = (dropF kvs s).map rowD := by
    rw [← A.d, erase_map]
  rw [er]
  have hc2 : updM (updM b.m d (.dct (dropF kvs s))) r (.lst ((dropF kvs s).map rowD)) c = some (.lst [.int (n : Int)]) := by
    rw [updM_ne hrc.symm, updM_ne cd]
    exact hc
  have cg : Chg b.m (updM (updM b.m d (.dct (dropF kvs s))) r (.lst ((dropF kvs s).map rowD))) [d, r, c] := (Chg.put (List.mem_cons_self ..)).trans (Chg.put (List.mem_cons_of_mem _ (List.mem_cons_self ..)))
  have tw : Tw K (updM (updM b.m d (.dct (dropF kvs s))) r (.lst ((dropF kvs s).map rowD))) T d dx (dropF kvs s) := ⟨by rw [updM_ne nT.symm, updM_ne hT.ne]; exact hT.1, by rw [updM_ne nd.symm, updM_same]⟩
  have hrr : updM (updM b.m d (.dct (dropF kvs s))) r (.lst ((dropF kvs s).map rowD)) r = some (.lst ((dropF kvs s).map rowD)) := updM_same
  generalize updM (updM b.m d (.dct (dropF kvs s))) r (.lst ((dropF kvs s).map rowD)) = μ2 at hc2 cg tw hrr
  have fin : ∀ μ3, μ3 = updM μ2 c (.lst [.int ((takeN kvs s n : Nat) : Int)]) → P (.bl true) μ3 := by
    rintro _ rfl
    refine hP _ (cg.trans (Chg.put (List.mem_cons_of_mem _ (List.mem_cons_of_mem _ (List.mem_cons_self ..))))) ⟨?_, ?_⟩ ?_ updM_same
    · rw [updM_ne cT.symm]
      exact tw.1
    · rw [updM_ne cd.symm]
      exact tw.2
    · rw [updM_ne hrc]
      exact hrr
  refine stM_join (fun ρ μ3 => ρ = [some (.dat (.obj (.ref T))), some (.dat (.obj (.ref r))), some (.dat (.obj (.ref c))), some (.dat (.str s)), some (.dat (.lst [])), some (.dat (bD u)), none, some (.dat (.lst [.int (k : Int)])), some (.dat (bD u)), none] ∧ μ3 = updM μ2 c (.lst [.int ((takeN kvs s n : Nat) : Int)])) (stM_if (c := decide ((k : Int) < (n : Int))) (evpb_look (.keep (.keep (.look hc2 (View.refl _ _)))) fun b' => evb_test (evd_op (evd_op (evd_var rfl) evd_int (rd_ix rfl rfl)) (evd_op (d := .lsa c [.int (n : Int)]) (evd_var rfl) evd_int (rd_ix rfl rfl)) rd_lt)) (fun z => ?_) fun z => ?_) ?_
  · have z' : k < n := by have := of_decide_eq_true z; omega
    have e : ((takeN kvs s n : Nat) : Int) = (n : Int) - 1 := by
      unfold takeN
      rw [A.p, if_pos z']
      omega
    rw [e]
    refine stM_setItem (i := 2) (j := 0) (n := 0) (p := c) rfl hc2 (evp_look (.keep (.keep (.look hc2 (View.refl _ _)))) (fun b' => evd_op (evd_op (d := .lsa c [.int (n : Int)]) (evd_var rfl) evd_int (rd_ix rfl rfl)) evd_int rd_sub) rfl) evp_int rfl ⟨rfl, rfl⟩
  · have z' : ¬ k < n := by have := of_decide_eq_false z; omega
    have e : takeN kvs s n = n := by
      unfold takeN
      rw [A.p, if_neg z']
    rw [e, updM_self hc2]
    exact stM_next ⟨rfl, rfl⟩
  rintro _ _ ⟨rfl, e⟩
  refine stM_retP (d := .bl (true && true)) (evp_of fun b' => evd_andV (evd_op (d := .lst []) (e := .lst []) (evd_var rfl) (evd_lst eva_nil (by decide)) (rd_same emp_q (by decide) emp_q (by decide) rfl)) fun _ => evd_call (ds := [bD u, bD u]) (eva_cons (evd_var rfl) (eva_cons (evd_var rfl) eva_nil)) r_l_is_beat) (fin _ e)

theorem stM_asg' {K : PySem.W.Frag} {b : BM} {ρ : Rho} {μ : Mu} {te : TE} {d : D} {N : DM} {g : TG} {js : List Nat} {f : Rho → Rho} (h : EvP K b te ρ μ d) (hg : GtD K g d js f) (hn : noOwn ρ → noOwn (f ρ)) (k : N.nx (f ρ) μ) : StM K b (tAsg te g) N ρ μ := fun σ Hv H E A C => stM_asg h hg (hn A.no) k σ Hv H E A C
theorem row_at {kvs : Kvs} {i : Nat} {p : Str × (Int × Int)} (h : kvs[i]? = some p) : atI (kvs.map rowD) (i : Int) = some (rowD p) := atI_nat (by rw [List.getElem?_map, h] <;> rfl)
theorem body_l_trouble {K : PySem.W.Frag} (xx : exK K = true) : BodyM K 6 (t_l_trouble K) (R_l_trouble K) := by
  rintro ds μ P X b E rfl ⟨r, c, kvs, n, rfl, hr, hc, hrc, hz, hn, hg, hcl, h1, h2⟩ hX
  have hr' : ∀ x, updM b.m c x r = some (.lst (kvs.map rowD)) := fun x => by
    rw [updM_ne hrc]
    exact hr
  refine stM_seq (stM_while (fun m ρ' μ' => ∃ i y2 y3 y4 y5, m = kvs.length - i ∧ i ≤ kvs.length ∧ Clean kvs i ∧ ρ' = [some (.dat (.obj (.ref r))), some (.dat (.obj (.ref c))), y2, y3, y4, y5] ∧ μ' = updM b.m c (.lst [.int (i : Int)])) (kvs.length - n) ⟨n, none, none, none, none, rfl, hn, hcl, rfl, (updM_self hc).symm⟩ ?_)
  rintro _ _ _ ⟨i, y2, y3, y4, y5, rfl, hi, hC, rfl, rfl⟩
  have hc' : updM b.m c (.lst [.int (i : Int)]) c = some (.lst [.int (i : Int)]) := updM_same
  have V := fun {y2 y3 y4 y5 : Option SD} => View.look (hr' (.lst [.int (i : Int)])) (.look hc' (View.refl _ [y2, y3, y4, y5]))
  refine ⟨decide ((i : Int) < ((kvs.map rowD).length : Nat)), evpb_look V fun b' => evb_test (evd_op (evd_op (d := .lsa c [.int (i : Int)]) (evd_var rfl) evd_int (rd_ix rfl rfl)) (evd_cb (eva_cons (evd_var rfl) eva_nil) (cd_len rfl)) rd_lt), fun z => ?_, fun z => ?_⟩
  · have z' : i < kvs.length := by
      have := of_decide_eq_true z
      rw [List.length_map] at this
      omega
    have gi : kvs[i]? = some kvs[i] := List.getElem?_eq_getElem z'
    have gpos := hg kvs[i] (List.getElem_mem z')
    generalize kvs[i] = p at gi gpos
    obtain ⟨y, v⟩ := p
    refine stM_seq (stM_asg' (d := rowD (y, v)) (js := [2, 3]) (f := tupF 2 3 (rowD (y, v))) (evp_look V (fun b' => evd_op (d := .lsa r (kvs.map rowD)) (e := .int (i : Int)) (evd_var rfl) (evd_op (d := .lsa c [.int (i : Int)]) (evd_var rfl) evd_int (rd_ix rfl rfl)) (rd_ix rfl (row_at gi))) rfl) gt_tup2 (fun h => noOwn_set (noOwn_set h)) ?_)
    refine stM_seq (stM_forR (n := i) (j := 4) (evpa_cons (evp_look V (fun b' => evd_op (d := .lsa c [.int (i : Int)]) (evd_var rfl) evd_int (rd_ix rfl rfl)) rfl) evpa_nil) (by omega) (fun k ρ' μ' => (∃ y4 y5, ρ' = [some (.dat (.obj (.ref r))), some (.dat (.obj (.ref c))), some (.dat (.str y)), some (.dat (bD v)), y4, y5]) ∧ μ' = updM b.m c (.lst [.int (i : Int)]) ∧ ∀ (a : Nat) (x : Str) (u : Int × Int), a < k → kvs[a]? = some (x, u) → gcI u.2 v.2 ∣ u.1 - v.1) ⟨⟨_, _, rfl⟩, rfl, fun a x u h => absurd h (Nat.not_lt_zero _)⟩ ?_ ?_)
    · rintro s k _ _ hk ⟨⟨y4, y5, rfl⟩, rfl, hall⟩
      have hk' : k < kvs.length := by omega
      have gk : kvs[k]? = some kvs[k] := List.getElem?_eq_getElem hk'
      have kpos := hg kvs[k] (List.getElem_mem hk')
      generalize kvs[k] = p at gk kpos
      obtain ⟨x, u⟩ := p
      have at1 : ∀ {y5 : Option SD} (b' : Bs), EvD K b' (tOp (rIx K) (tVar 0) (tVar 4)) [some (.dat (.lsa r (kvs.map rowD))), some (.dat (.lsa c [.int (i : Int)])), some (.dat (.str y)), some (.dat (bD v)), some (.dat (.int (k : Int))), y5] (rowD (x, u)) := fun b' => evd_op (d := .lsa r (kvs.map rowD)) (e := .int (k : Int)) (evd_var rfl) (evd_var rfl) (rd_ix rfl (row_at gk))
      have dg := gcI_pos (h := v.2) kpos
      refine stM_seq (stM_setP (d := .int (gcI u.2 v.2)) (evp_callD (ds := [.int u.2, .int v.2]) (evpa_cons (evp_look V (fun b' => evd_op (evd_op (d := rowD (x, u)) (at1 b') evd_int (rd_ix rfl rfl)) evd_int (rd_ix rfl rfl)) rfl) (evpa_cons (evp_of fun b' => evd_op (d := bD v) (evd_var rfl) evd_int (rd_ix rfl rfl)) evpa_nil)) (r_l_divisor (by have : 0 < u.2 := kpos; omega) (by have : 0 < v.2 := gpos; omega))) ?_)
      refine stM_if (c := !decide ((u.1 - v.1) % gcI u.2 v.2 = 0)) (evpb_look V fun b' => evb_test (evd_op (evd_op (evd_op (evd_op (d := bD u) (evd_op (d := rowD (x, u)) (at1 b') evd_int (rd_ix rfl rfl)) evd_int (rd_ix rfl rfl)) (evd_op (d := bD v) (evd_var rfl) evd_int (rd_ix rfl rfl)) rd_sub) (evd_var rfl) (rd_mod dg)) evd_int rd_neI)) (fun q => ?_) fun q => stM_next ?_
      · have nd : ¬ gcI u.2 v.2 ∣ u.1 - v.1 := fun hd => by
          rw [decide_eq_true (mod0.mpr hd)] at q
          cases q
        exact stM_retP (d := .lst [.str x, .str y, .int (gcI u.2 v.2)]) (evp_lookF V (fun b' => evf_lst (eva_cons (evd_op (d := rowD (x, u)) (at1 b') evd_int (rd_ix rfl rfl)) (eva_cons (evd_var rfl) (eva_cons (evd_var rfl) eva_nil))) (by show 3 ≤ 100000; decide)) rfl) (h2 i k x y u v ⟨hC, gk, gi, hk, nd, fun j z w hj hw => hall j z w hj hw⟩)
      · have hd : gcI u.2 v.2 ∣ u.1 - v.1 := mod0.mp (by
          apply Classical.byContradiction
          intro no
          rw [decide_eq_false no] at q
          cases q)
        refine ⟨⟨_, _, rfl⟩, rfl, fun a x' u' ha hu => ?_⟩
        rcases Nat.lt_or_ge a k with h | h
        · exact hall a x' u' h hu
        · have : a = k := by omega
          subst this
          rw [gk] at hu
          cases hu
          exact hd
    · rintro _ _ ⟨⟨y4, y5, rfl⟩, rfl, hall⟩
      refine stM_setItem (i := 1) (j := 0) (n := 0) (p := c) rfl hc' (evp_look V (fun b' => evd_op (evd_op (d := .lsa c [.int (i : Int)]) (evd_var rfl) evd_int (rd_ix rfl rfl)) evd_int rd_add) rfl) evp_int rfl ?_
      refine ⟨kvs.length - (i + 1), by omega, i + 1, _, _, _, _, rfl, z', fun j hj => ?_, rfl, ?_⟩
      · rcases Nat.lt_or_ge j i with h | h
        · exact hC j h
        · have : j = i := by omega
          subst this
          intro a x y' u v' ha hu hv
          rw [gi] at hv
          cases hv
          exact hall a x u ha hu
      · rw [updM_upd] <;> rfl
  · have e : i = kvs.length := by
      have := of_decide_eq_false z
      rw [List.length_map] at this
      omega
    subst e
    exact stM_retP (d := .lst []) (evp_lst evpa_nil (by decide)) (h1 hC)

theorem tog_tw {K : PySem.W.Frag} {μ : Mu} {P : D → Mu → Prop} {X : Value → Option Addr → Mu → Prop} {T : Addr} {m : Int} (h : R_T_next_together K [.obj (.ref T), .int m] μ P X) : ∃ d dx kvs, Tw K μ T d dx kvs := by
  obtain ⟨T', d, dx, kvs, m', c, e, t, _⟩ := h
  cases e
  exact ⟨d, dx, kvs, t⟩
theorem any_tw {K : PySem.W.Frag} {μ : Mu} {P : D → Mu → Prop} {X : Value → Option Addr → Mu → Prop} {T : Addr} {m : Int} (h : R_T_next_any K [.obj (.ref T), .int m] μ P X) : ∃ d dx kvs, Tw K μ T d dx kvs := by
  obtain ⟨T', d, dx, kvs, m', e, t, _⟩ := h
  cases e
  exact ⟨d, dx, kvs, t⟩
theorem body_l_asked {K : PySem.W.Frag} (xx : exK K = true) : BodyM K 4 (t_l_asked K) (R_l_asked K) := by
  rintro ds μ P X b E rfl ⟨T, m, pl, al, rfl, hm, hR⟩ hX
  have hE : ∀ (ρ : Rho) (c : Value) (dd : Option Addr) (μ' : Mu) (σ : L2.St) (Hv' H' : Hp), X c dd μ' → AtM K b σ Hv' H' ρ μ' → E c dd H' := fun ρ c dd μ' σ Hv' H' x A => hX _ _ _ _ _ A.lv x
  refine stM_seq (stM_if (c := al && pl) (evpb_of fun b' => evb_and (evb_B (evd_var rfl)) fun _ => evb_B (evd_var rfl)) (fun z => ?_) fun z => stM_next ?_)
  · obtain ⟨z1, z2⟩ := Bool.and_eq_true_iff.mp z
    have e := hm z2
    subst e
    rcases hR with ⟨_, h⟩ | ⟨h0, _⟩
    · obtain ⟨d, dx, kvs, t⟩ := tog_tw h
      exact stM_ret (evm_methE (R := R_T_next_together K) (ds := []) (es := [.int 0]) (evp_var rfl) t.1 rfl evpa_nil (fun H => .cons (.int 0) .nil) h (hE _)) fun _ _ p => p
    · rw [z1] at h0
      cases h0
  refine stM_seq (stM_if (c := al && decide (m % 3 = 0)) (evpb_of fun b' => evb_and (evb_B (evd_var rfl)) fun _ => evb_test (evd_op (evd_op (evd_var rfl) evd_int (rd_mod (by decide))) evd_int rd_eqI)) (fun z => ?_) fun z => stM_next ?_)
  · obtain ⟨z1, z2⟩ := Bool.and_eq_true_iff.mp z
    rcases hR with ⟨_, h⟩ | ⟨h0, _⟩
    · obtain ⟨d, dx, kvs, t⟩ := tog_tw h
      exact stM_ret (evm_methKE (R := R_T_next_together K) (ds := []) (es := [.int m]) (evp_var rfl) t.1 rfl evpa_nil (evpa_cons (evp_var rfl) evpa_nil) rfl rfl h (hE _)) fun _ _ p => p
    · rw [z1] at h0
      cases h0
  refine stM_seq (stM_if (c := al) (evpb_of fun b' => evb_B (evd_var rfl)) (fun z => ?_) fun z => stM_next ?_)
  · rcases hR with ⟨_, h⟩ | ⟨h0, _⟩
    · obtain ⟨d, dx, kvs, t⟩ := tog_tw h
      exact stM_ret (evm_methE (R := R_T_next_together K) (ds := [.int m]) (es := []) (evp_var rfl) t.1 rfl (evpa_cons (evp_var rfl) evpa_nil) (fun H => .nil) h (hE _)) fun _ _ p => p
    · rw [z] at h0
      cases h0
  have h : R_T_next_any K [.obj (.ref T), .int m] b.m P X := by
    rcases hR with ⟨h0, _⟩ | ⟨_, h⟩
    · rw [z] at h0
      cases h0
    · exact h
  obtain ⟨d, dx, kvs, t⟩ := any_tw h
  refine stM_seq (stM_if (c := pl) (evpb_of fun b' => evb_B (evd_var rfl)) (fun z => ?_) fun z => stM_next ?_)
  · have e := hm z
    subst e
    exact stM_ret (evm_methE (R := R_T_next_any K) (ds := []) (es := [.int 0]) (evp_var rfl) t.1 rfl evpa_nil (fun H => .cons (.int 0) .nil) h (hE _)) fun _ _ p => p
  refine stM_seq (stM_if (c := decide (m % 3 = 0)) (evpb_of fun b' => evb_test (evd_op (evd_op (evd_var rfl) evd_int (rd_mod (by decide))) evd_int rd_eqI)) (fun z => ?_) fun z => stM_next ?_)
  · exact stM_ret (evm_methKE (R := R_T_next_any K) (ds := []) (es := [.int m]) (evp_var rfl) t.1 rfl evpa_nil (evpa_cons (evp_var rfl) evpa_nil) rfl rfl h (hE _)) fun _ _ p => p
  exact stM_ret (evm_methE (R := R_T_next_any K) (ds := [.int m]) (es := []) (evp_var rfl) t.1 rfl (evpa_cons (evp_var rfl) evpa_nil) (fun H => .nil) h (hE _)) fun _ _ p => p

theorem body_l_all_ring {K : PySem.W.Frag} (xx : exK K = true) : BodyM K 13 (t_l_all_ring K) (R_l_all_ring K) := by
  rintro ds μ P X b E rfl ⟨T, d, dx, r, c, kvs, m, n, pl, rfl, hT, hr, hc, hrc, hn, hcl, ok, hm, hP⟩ hX
  have W := ok.w
  have hz : kvs.length ≤ 1000 := by have := ok.n; omega
  have hg : ∀ p ∈ kvs, 0 < p.2.2 := fun p hp => (ok.g p hp).1
  refine stM_seq (stM_setP (d := .lst []) (evp_lst evpa_nil (by decide)) ?_)
  refine stM_seq (stM_setP (d := .lst []) (evp_lst evpa_nil (by decide)) ?_)
  refine stM_seq (stM_setP (d := .non) (evp_of fun _ => evd_non) ?_)
  have tN : ∀ μ1 : Mu, Chg b.m μ1 [] → ∀ (ρ : Rho), ρ[1]? = some (some (.dat (.obj (.ref r)))) → ρ[2]? = some (some (.dat (.obj (.ref c)))) → EvM K b (tCall (spM K (R_l_trouble K)) [] E0 (tCons (tVar 1) (tCons (tVar 2) tNil))) ρ μ1 (fun d' μ' => ∃ j, j ≤ kvs.length ∧ Clean kvs j ∧ Chg b.m μ' [c] ∧ μ' c = some (.lst [.int ((j : Nat) : Int)]) ∧ μ' r = some (.lst (kvs.map rowD)) ∧ ((j = kvs.length ∧ d' = .lst []) ∨ ∃ a x y u v, Trb kvs j a x y u v ∧ d' = .lst [.str x, .str y, .int (gcI u.2 v.2)])) := fun μ1 c1 ρ h1 h2 => by
    have hg1 : ∀ x, Chg b.m (updM μ1 c x) [c] := fun x => (c1.mono fun _ h => absurd h List.not_mem_nil).trans (Chg.put (List.mem_cons_self ..))
    have hr1 : ∀ x, updM μ1 c x r = some (.lst (kvs.map rowD)) := fun x => by
      rw [updM_ne hrc]
      exact c1.at hr
    exact evm_call (X := fun _ _ _ => False) (ds := [.obj (.ref r), .obj (.ref c)]) (evpa_cons (evp_var h1) (evpa_cons (evp_var h2) evpa_nil)) ⟨r, c, kvs, n, rfl, c1.at hr, c1.at hc, hrc, hz, hn, hg, hcl, fun hC => ⟨_, Nat.le_refl _, hC, hg1 _, updM_same, hr1 _, .inl ⟨rfl, rfl⟩⟩, fun j a x y u v Tr => ⟨j, Nat.le_of_lt (List.getElem?_eq_some_iff.mp Tr.gj).1, Tr.cl, hg1 _, updM_same, hr1 _, .inr ⟨a, x, y, u, v, Tr, rfl⟩⟩⟩ fun _ _ _ _ _ z => z.elim
  rcases clean_or hg with hC | ⟨j, a, x, y, u, v, Tr⟩
  · -- all ring
    have nc := nc_of_clean W kvs.length (Nat.le_refl _) hC
    have nc' : ∀ k, k < (bsF' kvs).length → NC (bsF' kvs) k := fun k hk => nc k (by rwa [List.length_map] at hk)
    let P1 : D → Mu → Prop := fun d' μ' => d' = .int (nxF (wholeS (bsF' kvs)) m) ∧ Chg b.m μ' []
    have hR : R_l_asked K [.obj (.ref T), .int m, .bl pl, .bl true] b.m P1 (fun _ _ _ => False) := ⟨T, m, pl, true, rfl, hm, .inl ⟨rfl, T, d, dx, kvs, m, 31, rfl, hT, W, fun _ μ' h => ⟨rfl, h⟩, fun i a x y u v _ h1 F _ _ _ _ _ _ => h1 (nc' i F.le)⟩⟩
    refine stM_join (fun ρ μ' => ρ = [some (.dat (.obj (.ref T))), some (.dat (.obj (.ref r))), some (.dat (.obj (.ref c))), some (.dat (.int m)), some (.dat (.bl pl)), some (.dat (.lst [])), some (.dat (.lst [])), some (.dat (.int (nxF (wholeS (bsF' kvs)) m))), none, none, none, none, none] ∧ Chg b.m μ' []) (stM_try (fun _ _ _ _ => False) (fun Wx hW => ?_) fun _ _ _ _ z => z.elim) ?_
    · exact stM_set (evm_callS (evpa_cons (evp_var rfl) (evpa_cons (evp_var rfl) (evpa_cons (evp_var rfl) (evpa_cons evp_bl evpa_nil)))) hR fun _ _ _ _ _ _ z => z.elim) fun d' μ' ⟨e, h⟩ => by
        subst e
        exact ⟨rfl, h⟩
    rintro _ μ1 ⟨rfl, c1⟩
    refine stM_seq (stM_set (tN μ1 c1 _ rfl rfl) ?_)
    rintro d' μ2 ⟨j, hj, hCj, c2, hc2, hr2, hcase⟩
    have ed : d' = .lst [] := by
      rcases hcase with ⟨_, e⟩ | ⟨a, x, y, u, v, Tr, _⟩
      · exact e
      · exact absurd (trb_nc W Tr).2.1 (fun h => h (nc' j (trb_nc W Tr).2.2.le))
    subst ed
    have J := wj2 W (bsF' kvs).length (Nat.le_refl _) nc'
    have j1 := J.g0
    have j5 := J.iff
    rw [List.take_length] at j1 j5
    have hp := Int.emod_nonneg ((wholeS (bsF' kvs)).1 - m) (Int.ne_of_gt j1)
    have hq := Int.emod_lt_of_pos ((wholeS (bsF' kvs)).1 - m) j1
    have hdv : (wholeS (bsF' kvs)).2 ∣ nxF (wholeS (bsF' kvs)) m - (wholeS (bsF' kvs)).1 := by
      have h1 := Int.emod_add_mul_ediv ((wholeS (bsF' kvs)).1 - m) (wholeS (bsF' kvs)).2
      refine ⟨-(((wholeS (bsF' kvs)).1 - m) / (wholeS (bsF' kvs)).2), ?_⟩
      rw [Int.mul_neg]
      show m + _ - _ = _
      omega
    have hall := (j5 _).mp hdv
    have hlo : m ≤ nxF (wholeS (bsF' kvs)) m := by
      show m ≤ m + _
      omega
    have hhi : nxF (wholeS (bsF' kvs)) m - (wholeS (bsF' kvs)).2 < m := by
      show m + _ - _ < m
      omega
    generalize htd : nxF (wholeS (bsF' kvs)) m = td at hlo hhi hall
    refine stM_seq (stM_if (c := false) (evpb_is (evpb_of fun b' => evb_test (evd_op (evd_cb (eva_cons (evd_var rfl) eva_nil) (cd_len rfl)) evd_int rd_gt)) rfl) (fun z => nomatch z) fun _ => stM_next ?_)
    refine stM_seq (stM_if (c := false || (!true || decide (td < m))) (evpb_of fun b' => evb_or (evb_test (evd_op (d := .lst []) (e := .lst []) (evd_var rfl) (evd_lst eva_nil (by decide)) (rd_sameN emp_q (by decide) emp_q (by decide) rfl))) fun _ => evb_or (evb_not (evb_B (evd_call (ds := [.int td]) (eva_cons (evd_var rfl) eva_nil) r_l_whole))) fun _ => evb_test (evd_op (evd_var rfl) (evd_var rfl) rd_lt)) (fun z => ?_) fun _ => stM_next ?_)
    · have := of_decide_eq_true z
      omega
    refine stM_seq (stM_setP (d := .int 1) evp_int ?_)
    refine stM_seq (stM_look (.keep (.look hr2 (View.refl _ _))) fun b' => ?_)
    refine st_forT (xs := kvs) rowD (js := [11, 12]) (f := tupF 11 12) (src_seqL (d := .lsa r (kvs.map rowD)) (evd_var rfl) rfl) (fun _ _ => gt_tup2) (fun i rr => ∃ y11 y12, rr = [some (.dat (.obj (.ref T))), some (.dat (.lsa r (kvs.map rowD))), some (.dat (.obj (.ref c))), some (.dat (.int m)), some (.dat (.bl pl)), some (.dat (.lst [])), some (.dat (.lst [])), some (.dat (.int td)), none, some (.dat (.lst [])), some (.dat (.int (wholeS ((bsF' kvs).take i)).2)), y11, y12]) ⟨none, none, rfl⟩ ?_ ?_
    · rintro s i ⟨nm, g⟩ _ hx ⟨y11, y12, rfl⟩
      have hi : i < kvs.length := (List.getElem?_eq_some_iff.mp hx).1
      have hb : (bsF' kvs)[i]? = some g := bs_of hx
      have gm : g ∈ bsF' kvs := List.mem_of_getElem? hb
      obtain ⟨g1, g2, g3, g4⟩ := W.p g gm
      have Ji := wj2 W i (by rw [List.length_map]; omega) fun k hk => nc k (by omega)
      have sw : Sm 8000 (wholeS ((bsF' kvs).take i)).2 := Ji.sg.mono (by have := ok.n; omega)
      have hpg := gcI_pos (h := g.2) Ji.g0
      have sgc : Sm 8000 (gcI (wholeS ((bsF' kvs).take i)).2 g.2) := sm_gcd sw (Int.ne_of_gt Ji.g0)
      have hd := mod0.mpr (hall g gm)
      refine st_seq (st_if (c := !decide ((td - g.1) % g.2 = 0)) (evb_test (evd_op (evd_op (evd_op (evd_var rfl) (evd_op (d := bD g) (evd_var rfl) evd_int (rd_ix rfl rfl)) rd_sub) (evd_op (d := bD g) (evd_var rfl) evd_int (rd_ix rfl rfl)) (rd_mod g1)) evd_int rd_neI)) (fun z => ?_) fun _ => st_next ?_)
      · rw [hd] at z
        cases z
      · have e : (wholeS ((bsF' kvs).take (i + 1))).2 = (wholeS ((bsF' kvs).take i)).2 / gcI (wholeS ((bsF' kvs).take i)).2 g.2 * g.2 := by
          rw [take_snoc hb, wholeS_snoc] <;> rfl
        refine st_set (d := .int ((wholeS ((bsF' kvs).take i)).2 / gcI (wholeS ((bsF' kvs).take i)).2 g.2 * g.2)) (evd_op (evd_op (evd_var rfl) (evd_call (ds := [.int (wholeS ((bsF' kvs).take i)).2, .int g.2]) (eva_cons (evd_var rfl) (eva_cons (evd_op (d := bD g) (evd_var rfl) evd_int (rd_ix rfl rfl)) eva_nil)) (r_l_divisor (by have := Ji.g0; omega) (by omega))) (rd_divP hpg (divOk sgc (by decide)))) (evd_op (d := bD g) (evd_var rfl) evd_int (rd_ix rfl rfl)) (rd_mul (mulOk (sm_div sw) g2 (by decide)))) ?_
        rw [← e]
        exact ⟨_, _, rfl⟩
    · rintro _ ⟨y11, y12, rfl⟩
      have et : (bsF' kvs).take kvs.length = bsF' kvs := List.take_of_length_le (by rw [List.length_map]; exact Nat.le_refl _)
      rw [et]
      refine ⟨_, .keep rfl (.ref (.keep rfl (.keep rfl (.keep rfl (.drop (.drop (.keep rfl (.drop (.drop (.keep rfl (.drop (.drop .nil)))))))))))), ?_⟩
      refine stM_retP (d := .bl true) (evp_of fun b' => evd_is (evd_op (evd_op (evd_var rfl) (evd_var rfl) rd_sub) (evd_var rfl) rd_lt) (by rw [decide_eq_true hhi])) (hP j μ2 hj hCj c2 hc2)
  · -- a clash
    obtain ⟨q1, q2, q3⟩ := trb_nc W Tr
    have hjl : j < kvs.length := (List.getElem?_eq_some_iff.mp Tr.gj).1
    let X1 : Value → Option Addr → Mu → Prop := fun c' dd μ' => c' = .ref (He.ga K "Clash") ∧ ∃ d1, dd = some d1 ∧ Chg b.m μ' [] ∧ μ' d1 = some (.raw (.xd (clF x y (gcI u.2 v.2))))
    have hR : R_l_asked K [.obj (.ref T), .int m, .bl pl, .bl true] b.m (fun _ _ => False) X1 := ⟨T, m, pl, true, rfl, hm, .inl ⟨rfl, T, d, dx, kvs, m, 31, rfl, hT, W, fun h _ _ => q2 (h j q3.le), fun i a' x' y' u' v' h0 h1 F hx' hy' dd μ' hch hdd => by
      have ei : i = j := by
        rcases Nat.lt_trichotomy i j with z | z | z
        · exact absurd (q1 i z) h1
        · exact z
        · exact absurd (h0 j z) q2
      subst ei
      have ea := fc_one F q3
      subst ea
      rw [Tr.ga] at hx'
      rw [Tr.gj] at hy'
      cases hx'
      cases hy'
      exact ⟨rfl, dd, rfl, hch, hdd⟩⟩⟩
    have I := isK5 xx
    refine stM_join (fun ρ μ' => ρ = [some (.dat (.obj (.ref T))), some (.dat (.obj (.ref r))), some (.dat (.obj (.ref c))), some (.dat (.int m)), some (.dat (.bl pl)), some (.dat (onlyD 5)), some (.dat (.lst [.str x, .str y, .int (gcI u.2 v.2)])), some (.dat .non), none, none, none, none, none] ∧ Chg b.m μ' []) (stM_try (fun ρ' c' dd μ' => ρ' = [some (.dat (.obj (.ref T))), some (.dat (.obj (.ref r))), some (.dat (.obj (.ref c))), some (.dat (.int m)), some (.dat (.bl pl)), some (.dat (.lst [])), some (.dat (.lst [])), some (.dat .non), none, none, none, none, none] ∧ X1 c' dd μ') (fun Wx hW => ?_) ?_) ?_
    · exact stM_set (evm_callS (evpa_cons (evp_var rfl) (evpa_cons (evp_var rfl) (evpa_cons (evp_var rfl) (evpa_cons evp_bl evpa_nil)))) hR fun c' dd μ' σ Hv' H' z A => hW σ Hv' H' _ c' dd μ' A ⟨rfl, z⟩) fun d' μ' z => z.elim
    · rintro _ _ _ μ' ⟨rfl, rfl, d1, rfl, hch, hd1⟩
      refine ⟨I.m, fun a0 => ?_⟩
      refine stM_seq (stM_setP (d := onlyD 5) (evm_call (X := fun _ _ _ => False) (ds := [.obj (.ref a0)]) (evpa_cons (evp_var rfl) evpa_nil) ⟨_, 5, rfl, rfl, I, .inr ⟨d1, _, rfl, hd1⟩, rfl, rfl⟩ fun _ _ _ _ _ z => z.elim) ?_)
      exact stM_setP (d := .lst [.str x, .str y, .int (gcI u.2 v.2)]) (evm_call (X := fun _ _ _ => False) (ds := [.obj (.ref a0)]) (evpa_cons (evp_var rfl) evpa_nil) ⟨d1, x, y, _, rfl, rfl, rfl, hd1, rfl, rfl⟩ fun _ _ _ _ _ z => z.elim) ⟨rfl, hch⟩
    rintro _ μ1 ⟨rfl, c1⟩
    refine stM_seq (stM_set (tN μ1 c1 _ rfl rfl) ?_)
    rintro d' μ2 ⟨j', hj', hCj, c2, hc2, hr2, ⟨rfl, rfl⟩ | ⟨a', x', y', u', v', Tr', rfl⟩⟩
    · exact absurd (nc_of_clean W kvs.length (Nat.le_refl _) hCj j hjl) q2
    obtain ⟨p1, p2, p3⟩ := trb_nc W Tr'
    have ej : j' = j := by
      rcases Nat.lt_trichotomy j' j with z | z | z
      · exact absurd (q1 j' z) p2
      · exact z
      · exact absurd (p1 j z) q2
    subst ej
    have ea := fc_one p3 q3
    subst ea
    have e1 := Tr'.ga
    have e2 := Tr'.gj
    rw [Tr.ga] at e1
    rw [Tr.gj] at e2
    cases e1
    cases e2
    have q3' : (D.lst [.str x, .str y, .int (gcI u.2 v.2)]).q 1 := fun d hd => by
      rcases List.mem_cons.mp hd with e | hd
      · rw [e]; exact ok.o _ (List.mem_of_getElem? Tr.ga)
      · rcases List.mem_cons.mp hd with e | hd
        · rw [e]; exact ok.o _ (List.mem_of_getElem? Tr.gj)
        · rw [List.mem_singleton] at hd
          rw [hd]
          exact True.intro
    refine stM_seq (stM_if (c := true) (evpb_is (evpb_of fun b' => evb_test (evd_op (evd_cb (eva_cons (evd_var rfl) eva_nil) (cd_len rfl)) evd_int rd_gt)) rfl) (fun _ => ?_) fun z => nomatch z)
    refine stM_seq (stM_if (c := !true || (false || !true)) (evpb_of fun b' => evb_or (evb_B (evd_notN (evd_var rfl) (rep_non rfl))) fun _ => evb_or (evb_test (evd_op (d := onlyD 5) (e := onlyD 5) (evd_var rfl) (evd_call (eva_cons evd_int eva_nil) r_l_only) (rd_sameN (only_q 5) (by decide) (only_q 5) (by decide) rfl))) fun _ => evb_not (evb_B (evd_call (ds := [.int (gcI u.2 v.2)]) (eva_cons (evd_op (d := .lst [_, _, .int _]) (evd_var rfl) evd_int (rd_ix rfl rfl)) eva_nil) r_l_whole))) (fun z => nomatch z) fun _ => stM_next ?_)
    exact stM_retP (d := .bl (true && (true && true))) (evp_of fun b' => evd_andV (evd_cb (eva_cons (evd_op (d := .lst [.str _, _, _]) (evd_var rfl) evd_int (rd_ix rfl rfl)) (eva_cons evd_obj eva_nil)) (cd_isi rfl (by decide +kernel))) fun _ => evd_andV (evd_cb (eva_cons (evd_op (d := .lst [_, .str _, _]) (evd_var rfl) evd_int (rd_ix rfl rfl)) (eva_cons evd_obj eva_nil)) (cd_isi rfl (by decide +kernel))) fun _ => evd_op (d := .lst [.str x, .str y, .int (gcI u.2 v.2)]) (e := .lst [.str x, .str y, .int (gcI u.2 v.2)]) (evd_var rfl) (evd_var rfl) (rd_same q3' (by decide) q3' (by decide) rfl)) (hP j' μ2 hj' hCj c2 hc2)

theorem rings_iff {s r g : Int} (h0 : 0 ≤ r) (h1 : r < g) : decide ((s - r) % g = 0) = decide (s % g = r) := by
  rw [decide_eq_decide, mod0]
  constructor
  · rintro ⟨t, ht⟩
    have e : s = r + g * t := by omega
    rw [e, Int.add_mul_emod_self_left, Int.emod_eq_of_lt h0 h1]
  · intro e
    have h := Int.emod_add_mul_ediv s g
    rw [e] at h
    exact ⟨s / g, by omega⟩
theorem emp_q3 : (D.lst []).q 3 := fun d hd => by cases hd
theorem strs_q (kvs : Kvs) (h : ∀ p ∈ kvs, SOk p.1) : (D.lst (kvs.map fun p : Str × (Int × Int) => D.str p.1)).q 3 := fun d hd => by
  obtain ⟨p, hp, e⟩ := List.mem_map.mp hd
  subst e
  exact h p hp
theorem body_l_some_ring {K : PySem.W.Frag} (xx : exK K = true) : BodyM K 12 (t_l_some_ring K) (R_l_some_ring K) := by
  rintro ds μ P X b E rfl ⟨T, d, dx, r, h, kvs, m, pl, em, hs, rfl, hT, hr, hh, hl, ok, hm, hP⟩ hX
  have hz : kvs.length ≤ 1000 := by have := ok.n; omega
  have hg : ∀ p ∈ kvs, 0 < p.2.2 := fun p hp => (ok.g p hp).1
  refine stM_seq (stM_setP (d := .lst []) (evp_lst evpa_nil (by decide)) ?_)
  refine stM_seq (stM_setP (d := .non) (evp_of fun _ => evd_non) ?_)
  by_cases hk : kvs = []
  · let X1 : Value → Option Addr → Mu → Prop := fun c dd μ' => c = .ref (He.ga K "NoBell") ∧ dd = none ∧ μ' = b.m
    have hR : R_l_asked K [.obj (.ref T), .int m, .bl pl, .bl false] b.m (fun _ _ => False) X1 := ⟨T, m, pl, false, rfl, hm, .inr ⟨rfl, T, d, dx, kvs, m, rfl, hT, hz, hg, fun _ => ⟨rfl, rfl, rfl⟩, fun s h0 _ _ _ _ _ _ => by
      obtain ⟨p, hp, _⟩ := h0
      rw [hk] at hp
      cases hp⟩⟩
    have I := isK1 xx
    refine stM_join (fun ρ μ' => ρ = [some (.dat (.obj (.ref T))), some (.dat (.obj (.ref r))), some (.dat (.int m)), some (.dat (.bl pl)), some (.dat (.obj (.ref h))), some (.dat (.bl em)), some (.dat (onlyD 1)), some (.dat .non), none, none, none, none] ∧ μ' = b.m) (stM_try (fun ρ' c' dd μ' => ρ' = [some (.dat (.obj (.ref T))), some (.dat (.obj (.ref r))), some (.dat (.int m)), some (.dat (.bl pl)), some (.dat (.obj (.ref h))), some (.dat (.bl em)), some (.dat (.lst [])), some (.dat .non), none, none, none, none] ∧ X1 c' dd μ') (fun Wx hW => ?_) ?_) ?_
    · exact stM_set (evm_callS (evpa_cons (evp_var rfl) (evpa_cons (evp_var rfl) (evpa_cons (evp_var rfl) (evpa_cons evp_bl evpa_nil)))) hR fun c' dd μ' σ Hv' H' z A => hW σ Hv' H' _ c' dd μ' A ⟨rfl, z⟩) fun d' μ' z => z.elim
    · rintro _ _ _ _ ⟨rfl, rfl, rfl, rfl⟩
      refine ⟨I.m, fun a0 => ?_⟩
      exact stM_setP (d := onlyD 1) (evm_call (X := fun _ _ _ => False) (ds := [.obj (.ref a0)]) (evpa_cons (evp_var rfl) evpa_nil) ⟨_, 1, rfl, rfl, I, .inl rfl, rfl, rfl⟩ fun _ _ _ _ _ z => z.elim) ⟨rfl, rfl⟩
    rintro _ _ ⟨rfl, rfl⟩
    refine stM_seq (stM_if (c := true) (evpb_is (evpb_look (.keep (.look hr (View.refl _ _))) fun b' => evb_test (evd_op (evd_cb (eva_cons (evd_var rfl) eva_nil) (cd_len rfl)) evd_int rd_eqI)) (by rw [hk] <;> rfl)) (fun _ => ?_) fun z => nomatch z)
    exact stM_retP (d := .bl (true && true)) (evp_of fun b' => evd_andV (evd_isN (evd_var rfl) (rep_non rfl)) fun _ => evd_op (d := onlyD 1) (e := onlyD 1) (evd_var rfl) (evd_call (eva_cons evd_int eva_nil) r_l_only) (rd_same (only_q 1) (by decide) (only_q 1) (by decide) rfl)) (hP [] b.m (by decide) (fun x hx => by cases hx) Chg.refl (by rw [List.append_nil]; exact hh))
  let P1 : D → Mu → Prop := fun d' μ' => ∃ (s : Int) (p : Addr), (∃ q ∈ kvs, s = nxF q.2 m) ∧ (∀ q ∈ kvs, s ≤ nxF q.2 m) ∧ b.m p = none ∧ Chg b.m μ' [] ∧ μ' p = some (.lst ((kvs.filter fun q => decide (s % q.2.2 = q.2.1)).map fun q => .str q.1)) ∧ d' = .tup [.int s, .obj (.ref p)]
  have hR : R_l_asked K [.obj (.ref T), .int m, .bl pl, .bl false] b.m P1 (fun _ _ _ => False) := ⟨T, m, pl, false, rfl, hm, .inr ⟨rfl, T, d, dx, kvs, m, rfl, hT, hz, hg, fun e => hk e, fun s h0 h1 p μ' h2 h3 h4 => ⟨s, p, h0, h1, h3, h2, h4, rfl⟩⟩⟩
  refine stM_join (fun ρ μ' => ∃ td, ρ = [some (.dat (.obj (.ref T))), some (.dat (.obj (.ref r))), some (.dat (.int m)), some (.dat (.bl pl)), some (.dat (.obj (.ref h))), some (.dat (.bl em)), some (.dat (.lst [])), some (.dat td), none, none, none, none] ∧ P1 td μ') (stM_try (fun _ _ _ _ => False) (fun Wx hW => ?_) fun _ _ _ _ z => z.elim) ?_
  · exact stM_set (evm_callS (evpa_cons (evp_var rfl) (evpa_cons (evp_var rfl) (evpa_cons (evp_var rfl) (evpa_cons evp_bl evpa_nil)))) hR fun _ _ _ _ _ _ z => z.elim) fun d' μ' z => ⟨d', rfl, z⟩
  rintro _ μ1 ⟨_, rfl, s, p, ⟨q0, hq0, es0⟩, hlow, hbp, c1, hp1, rfl⟩
  have hr1 := c1.at hr
  have hh1 := c1.at hh
  have hsm : m ≤ s := by
    rw [es0]
    have := Int.emod_nonneg (q0.2.1 - m) (Int.ne_of_gt (hg q0 hq0))
    show m ≤ m + _
    omega
  have ef : (kvs.filter fun q => decide ((s - q.2.1) % q.2.2 = 0)) = kvs.filter fun q => decide (s % q.2.2 = q.2.1) := List.filter_congr fun q hq => rings_iff (ok.g q hq).2.2.1 (ok.g q hq).2.2.2
  have hne : q0 ∈ kvs.filter fun q => decide (s % q.2.2 = q.2.1) := by
    rw [← ef]
    refine List.mem_filter.mpr ⟨hq0, decide_eq_true (mod0.mpr ?_)⟩
    rw [es0]
    have h1 := Int.emod_add_mul_ediv (q0.2.1 - m) q0.2.2
    refine ⟨-((q0.2.1 - m) / q0.2.2), ?_⟩
    rw [Int.mul_neg]
    show m + _ - _ = _
    omega
  generalize hks : (kvs.filter fun q => decide (s % q.2.2 = q.2.1)) = ks at hp1 ef hne
  have hko : ∀ q ∈ ks, SOk q.1 := fun q hq => by
    rw [← hks] at hq
    exact ok.o q (List.mem_filter.mp hq).1
  have hkl : ks.length ≤ 1000 := by
    rw [← hks]
    exact Nat.le_trans (List.length_filter_le _ _) hz
  have hq3 := strs_q ks hko
  have hq3a : (D.lsa p (ks.map fun q => D.str q.1)).q 3 := hq3
  refine stM_seq (stM_if (c := false) (evpb_is (evpb_look (.keep (.look hr1 (View.refl _ _))) fun b' => evb_test (evd_op (evd_cb (eva_cons (evd_var rfl) eva_nil) (cd_len rfl)) evd_int rd_eqI)) (by
    refine decide_eq_false fun e => hk (List.length_eq_zero_iff.mp ?_)
    rw [List.length_map] at e
    omega)) (fun z => nomatch z) fun _ => stM_next ?_)
  refine stM_seq (stM_if (c := false || (!true || !decide (((2 : Nat) : Int) = 2))) (evpb_of fun b' => evb_or (evb_test (evd_op (d := .lst []) (e := .lst []) (evd_var rfl) (evd_lst eva_nil (by decide)) (rd_sameN emp_q (by decide) emp_q (by decide) rfl))) fun _ => evb_or (evb_not (evb_B (evd_cb (ds := [.tup [.int s, .obj (.ref p)], .obj (.ty "tuple")]) (eva_cons (evd_var rfl) (eva_cons evd_obj eva_nil)) (cd_isi rfl (by decide +kernel))))) fun _ => evb_test (evd_op (evd_cb (ds := [.tup [.int s, .obj (.ref p)]]) (eva_cons (evd_var rfl) eva_nil) (cd_len rfl)) evd_int rd_neI)) (fun z => nomatch z) fun _ => stM_next ?_)
  have VD := fun {y8 y9 y10 y11 : Option SD} => View.keep (s := some (.dat (.obj (.ref T)))) (View.keep (s := some (.dat (.obj (.ref r)))) (View.keep (s := some (.dat (.int m))) (View.keep (s := some (.dat (.bl pl))) (View.keep (s := some (.dat (.obj (.ref h)))) (View.keep (s := some (.dat (.bl em))) (View.keep (s := some (.dat (.lst []))) (View.deep (d1 := .int s) hp1 (View.refl μ1 [y8, y9, y10, y11]))))))))
  refine stM_seq (stM_if (c := !true || (decide (s < m) || !true)) (evpb_look VD fun b' => evb_or (evb_not (evb_B (evd_call (ds := [.int s]) (eva_cons (evd_op (d := .tup [.int s, _]) (evd_var rfl) evd_int (rd_ix rfl rfl)) eva_nil) r_l_whole))) fun _ => evb_or (evb_test (evd_op (evd_op (d := .tup [.int s, _]) (evd_var rfl) evd_int (rd_ix rfl rfl)) (evd_var rfl) rd_lt)) fun _ => evb_not (evb_B (evd_cb (ds := [.lsa p (ks.map fun q => .str q.1), .obj (.ty "list")]) (eva_cons (evd_op (d := .tup [.int s, .lsa p (ks.map fun q => .str q.1)]) (evd_var rfl) evd_int (rd_ix rfl rfl)) (eva_cons evd_obj eva_nil)) (cd_isi rfl (by decide +kernel))))) (fun z => ?_) fun _ => stM_next ?_)
  · have z' : (decide (s < m) || false) = true := z
    rw [Bool.or_false] at z'
    have := of_decide_eq_true z'
    omega
  refine stM_seq (stM_look (.keep (.look hr1 (View.refl _ _))) fun b' => ?_)
  refine st_forT (xs := kvs) rowD (js := [9, 10]) (f := tupF 9 10) (src_seqL (d := .lsa r (kvs.map rowD)) (evd_var rfl) rfl) (fun _ _ => gt_tup2) (fun i rr => ∃ y9 y10, rr = [some (.dat (.obj (.ref T))), some (.dat (.lsa r (kvs.map rowD))), some (.dat (.int m)), some (.dat (.bl pl)), some (.dat (.obj (.ref h))), some (.dat (.bl em)), some (.dat (.lst [])), some (.dat (.tup [.int s, .obj (.ref p)])), none, y9, y10, none]) ⟨none, none, rfl⟩ ?_ ?_
  · rintro s' i ⟨nm, g⟩ _ hx ⟨y9, y10, rfl⟩
    have hmem := List.mem_of_getElem? hx
    have lo := hlow _ hmem
    refine st_if (c := decide (nxF g m < s)) (evb_test (evd_op (evd_op (evd_var rfl) (evd_op (evd_op (evd_op (d := bD g) (evd_var rfl) evd_int (rd_ix rfl rfl)) (evd_var rfl) rd_sub) (evd_op (d := bD g) (evd_var rfl) evd_int (rd_ix rfl rfl)) (rd_mod (hg _ hmem))) rd_add) (evd_op (d := .tup [.int s, _]) (evd_var rfl) evd_int (rd_ix rfl rfl)) rd_lt)) (fun z => ?_) fun _ => st_next ⟨_, _, rfl⟩
    have := of_decide_eq_true z
    have lo' : s ≤ nxF g m := lo
    omega
  rintro _ ⟨y9, y10, rfl⟩
  refine ⟨_, .keep rfl (.ref (.keep rfl (.keep rfl (.keep rfl (.keep rfl (.drop (.keep rfl (.drop (.drop (.drop (.drop .nil))))))))))), ?_⟩
  have hdue := fun (b' : Bs) => evf_lcT (K := K) (b := b') (ρ := [some (.dat (.obj (.ref T))), some (.dat (.lsa r (kvs.map rowD))), some (.dat (.int m)), some (.dat (.bl pl)), some (.dat (.obj (.ref h))), some (.dat (.bl em)), none, some (.dat (.tup [.int s, .obj (.ref p)])), none, none, none, none]) (te := tVar 9) (tt := tTest (tOp (rEqA K) (tOp rModI (tOp rSubI (tOp (rIx K) (tVar 7) (tC (.int 0))) (tOp (rIx K) (tVar 10) (tC (.int 0)))) (tOp (rIx K) (tVar 10) (tC (.int 1)))) (tC (.int 0)))) (wi := iSeq K (tVar 1)) (g := gTup K 2 (gCons (gName 9) (gCons (gName 10) gNil))) (xs := kvs) (vs := [9, 10]) rowD inj_rowD (js := [9, 10]) (f := tupF 9 10) (fun q => decide ((s - q.2.1) % q.2.2 = 0)) (fun q => .str q.1) (src_seqL (d := .lsa r (kvs.map rowD)) (evd_var rfl) rfl) (fun _ _ => gt_tup2) (fun _ q => q) (by omega) (fun q hq => evb_test (evd_op (evd_op (evd_op (evd_op (d := .tup [.int s, _]) (evd_var rfl) evd_int (rd_ix rfl rfl)) (evd_op (d := bD q.2) (evd_var rfl) evd_int (rd_ix rfl rfl)) rd_sub) (evd_op (d := bD q.2) (evd_var rfl) evd_int (rd_ix rfl rfl)) (rd_mod (hg q hq))) evd_int rd_eqI)) (fun q hq _ => evd_var rfl)
  rw [ef] at hdue
  refine stM_seq (stM_setP (d := .lst (ks.map fun q => .str q.1)) (evp_lookF (.keep (.look hr1 (View.refl _ _))) hdue (lf_strs ks)) ?_)
  have VE := View.keep (s := some (.dat (.obj (.ref T)))) (View.keep (s := some (.dat (.obj (.ref r)))) (View.keep (s := some (.dat (.int m))) (View.keep (s := some (.dat (.bl pl))) (View.keep (s := some (.dat (.obj (.ref h)))) (View.keep (s := some (.dat (.bl em))) (View.keep (s := none) (View.deep (d1 := .int s) hp1 (View.refl μ1 [none, none, none, some (.dat (.lst (ks.map fun q => .str q.1)))]))))))))
  have hins := fun (b' : Bs) => evf_lcT (K := K) (b := b') (ρ := [some (.dat (.obj (.ref T))), some (.dat (.obj (.ref r))), some (.dat (.int m)), some (.dat (.bl pl)), some (.dat (.obj (.ref h))), some (.dat (.bl em)), none, some (.dat (.tup [.int s, .lsa p (ks.map fun q => .str q.1)])), none, none, none, some (.dat (.lst (ks.map fun q => .str q.1)))]) (te := tVar 9) (tt := tNot (tB (tCB (rIsi K) (tCons (tVar 9) (tCons (tC (.ty "str")) tNil))))) (wi := iSeq K (tOp (rIx K) (tVar 7) (tC (.int 1)))) (g := gName 9) (xs := ks.map (·.1)) (vs := [9]) D.str inj_str10 (js := [9]) (f := fun x r => r.set 9 (some (.dat x))) (fun _ => !true) (fun q => .str q) (src_seqL (d := .lsa p (ks.map fun q => .str q.1)) (evd_op (d := .tup [.int s, .lsa p (ks.map fun q => .str q.1)]) (evd_var rfl) evd_int (rd_ix rfl rfl)) (by rw [List.map_map] <;> rfl)) (fun _ _ => gt_name) (fun _ q => q) (by rw [List.length_map]; omega) (fun q hq => evb_not (evb_B (evd_cb (ds := [.str q, .obj (.ty "str")]) (eva_cons (evd_var rfl) (eva_cons evd_obj eva_nil)) (cd_isi rfl (by decide +kernel))))) (fun q hq z => nomatch z)
  rw [List.filter_eq_nil_iff.mpr (show ∀ a ∈ ks.map (·.1), ¬ (!true) = true from fun _ _ z => nomatch z)] at hins
  refine stM_seq (stM_if (c := false) (evpb_is (evpb_look VE fun b' => evb_or (evb_test (evd_op (evd_cb (eva_cons (evd_var rfl) eva_nil) (cd_len rfl)) evd_int rd_eqI)) fun _ => evb_or (evb_test (evd_op (d := .lsa p (ks.map fun q => .str q.1)) (e := .lst (ks.map fun q => .str q.1)) (evd_op (d := .tup [.int s, .lsa p (ks.map fun q => .str q.1)]) (evd_var rfl) evd_int (rd_ix rfl rfl)) (evd_var rfl) (rd_sameN (n := 3) (m := 3) hq3a (by decide) hq3 (by decide) rfl))) fun _ => evb_test (evd_op (evd_cb (eva_cons (evd_f (hins b')) eva_nil) (cd_len rfl)) evd_int rd_gt)) (by
    rw [decide_eq_false (fun e => ?_)]
    · rfl
    · rw [List.length_map] at e
      have := List.length_pos_of_mem hne
      omega)) (fun z => nomatch z) fun _ => stM_next ?_)
  have hph : p ≠ h := fun e => by
    rw [e, hh] at hbp
    cases hbp
  refine stM_join (fun ρ μ' => ∃ es, ρ = [some (.dat (.obj (.ref T))), some (.dat (.obj (.ref r))), some (.dat (.int m)), some (.dat (.bl pl)), some (.dat (.obj (.ref h))), some (.dat (.bl em)), none, some (.dat (.tup [.int s, .obj (.ref p)])), none, none, none, some (.dat (.lst es))] ∧ (D.lst es).q 3 ∧ μ' p = some (.lst es) ∧ μ' h = some (.lst hs) ∧ ∀ a c, a ≠ p → μ1 a = some c → μ' a = some c) (stM_if (c := em) (evpb_of fun b' => evb_B (evd_var rfl)) (fun _ => ?_) fun _ => stM_next ⟨_, rfl, hq3, hp1, hh1, fun _ _ _ e => e⟩) ?_
  · refine stM_seq (stM_drop (evm_clear (p := p) (evp_of fun b' => evd_op (d := .tup [.int s, .obj (.ref p)]) (evd_var rfl) evd_int (rd_ix rfl rfl)) hp1) ?_)
    rintro _ _ ⟨rfl, rfl⟩
    exact stM_setP (d := .lst []) (evp_lst evpa_nil (by decide)) ⟨[], rfl, emp_q3, updM_same, by rw [updM_ne hph.symm]; exact hh1, fun a c ha e => by rw [updM_ne ha]; exact e⟩
  rintro _ μ2 ⟨es, rfl, hes, hp2, hh2, hk2⟩
  refine stM_freeze hp2 hbp (.keep (.keep (.keep (.keep (.keep (.keep (.drop (.fz (fz_tup2 fz_same fz_ref) (.drop (.drop (.drop (.keep .nil)))))))))))) ?_
  have c3 : Chg b.m (offM μ2 p) [] := Chg.off (fun a c _ e => hk2 a c (fun z => by
    rw [z, hbp] at e
    cases e) (c1.at e)) hbp
  have hh3 : offM μ2 p h = some (.lst hs) := c3.at hh
  generalize offM μ2 p = μ3 at c3 hh3
  refine stM_seq (stM_append (p := h) (d := .tup [.lst es, .lst es]) rfl hh3 (evp_of fun b' => evd_tup (eva_cons (evd_op (d := .tup [.int s, .lst es]) (evd_var rfl) evd_int (rd_ix rfl rfl)) (eva_cons (evd_var rfl) eva_nil)) (by show 2 ≤ 100000; decide)) (by omega) ?_)
  exact stM_retP (d := .bl true) evp_bl (hP [.tup [.lst es, .lst es]] _ (by show 1 ≤ 1; decide) (fun x hx => by
    rw [List.mem_singleton] at hx
    exact ⟨es, hx, hes⟩) ((c3.mono fun _ h => absurd h List.not_mem_nil).trans (Chg.put (List.mem_cons_self ..))) updM_same)

theorem rows_q (kvs : Kvs) (h : ∀ p ∈ kvs, SOk p.1) : (D.lst (kvs.map rowD)).q 3 := fun d hd => by
  obtain ⟨p, hp, e⟩ := List.mem_map.mp hd
  subst e
  intro d hd
  rcases List.mem_cons.mp hd with e | hd
  · rw [e]
    exact h p hp
  · rw [List.mem_singleton] at hd
    rw [hd]
    exact bD_q p.2
theorem body_l_bells {K : PySem.W.Frag} (xx : exK K = true) : BodyM K 7 (t_l_bells K) (R_l_bells K) := by
  rintro ds μ P X b E rfl ⟨T, d, dx, r, h, kvs, em, hs, rfl, hT, hr, hh, hl, ok, hP⟩ hX
  have hz : kvs.length ≤ 1000 := by have := ok.n; omega
  refine stM_seq (stM_set (evm_bells rfl hT hz) ?_)
  rintro _ _ ⟨p, hbp, rfl, rfl⟩
  have c1 : Chg b.m (updM b.m p (.lst (kvs.map rowD))) [] := Chg.new hbp
  have hp1 : updM b.m p (.lst (kvs.map rowD)) p = some (.lst (kvs.map rowD)) := updM_same
  generalize updM b.m p (.lst (kvs.map rowD)) = μ1 at c1 hp1
  have hr1 := c1.at hr
  have hh1 := c1.at hh
  have hph : p ≠ h := fun e => by
    rw [e, hh] at hbp
    cases hbp
  have V := fun {y5 y6 : Option SD} => View.keep (s := some (.dat (.obj (.ref T)))) (View.look hr1 (View.keep (s := some (.dat (.obj (.ref h)))) (View.keep (s := some (.dat (.bl em))) (View.look hp1 (View.refl μ1 [y5, y6])))))
  refine stM_seq (stM_if (c := false) (evpb_is (evpb_look V fun b' => evb_or (evb_not (evb_B (evd_cb (ds := [.lsa p (kvs.map rowD), .obj (.ty "list")]) (eva_cons (evd_var rfl) (eva_cons evd_obj eva_nil)) (cd_isi (k := true) rfl (by decide +kernel))))) fun _ => evb_test (evd_op (evd_cb (ds := [.lsa p (kvs.map rowD)]) (eva_cons (evd_var rfl) eva_nil) (cd_len rfl)) (evd_cb (ds := [.lsa r (kvs.map rowD)]) (eva_cons (evd_var rfl) eva_nil) (cd_len rfl)) rd_neI)) (by rw [decide_eq_true rfl] <;> rfl)) (fun z => nomatch z) fun _ => stM_next ?_)
  refine stM_seq (stM_look V fun b' => ?_)
  have src : SrcD K b' (iRng1 (tCons (tCB (rLen K) (tCons (tVar 1) tNil)) tNil)) [some (.dat (.obj (.ref T))), some (.dat (.lsa r (kvs.map rowD))), some (.dat (.obj (.ref h))), some (.dat (.bl em)), some (.dat (.lsa p (kvs.map rowD))), none, none] ((List.range kvs.length).map fun i : Nat => D.int (i : Int)) := by
    have h := src_rng1 (K := K) (b := b') (ρ := [some (.dat (.obj (.ref T))), some (.dat (.lsa r (kvs.map rowD))), some (.dat (.obj (.ref h))), some (.dat (.bl em)), some (.dat (.lsa p (kvs.map rowD))), none, none]) (tA := tCons (tCB (rLen K) (tCons (tVar 1) tNil)) tNil) (n := ((kvs.map rowD).length : Nat)) (eva_cons (evd_cb (eva_cons (evd_var rfl) eva_nil) (cd_len rfl)) eva_nil) (by rw [List.length_map]; exact nat_lo62 _) (by rw [List.length_map]; exact nat_hi62 hz)
    rw [List.length_map, Int.toNat_natCast] at h
    exact h
  refine st_forT (xs := List.range kvs.length) (fun i : Nat => D.int (i : Int)) (js := [5]) (f := fun x r => r.set 5 (some (.dat x))) src (fun _ _ => gt_name) (fun i rr => ∃ y5, rr = [some (.dat (.obj (.ref T))), some (.dat (.lsa r (kvs.map rowD))), some (.dat (.obj (.ref h))), some (.dat (.bl em)), some (.dat (.lsa p (kvs.map rowD))), y5, none]) ⟨none, rfl⟩ ?_ ?_
  · rintro s' i k _ hx ⟨y5, rfl⟩
    have hkr := List.mem_range.mp (List.mem_of_getElem? hx)
    have gk : kvs[k]? = some kvs[k] := List.getElem?_eq_getElem hkr
    have gm := List.getElem_mem hkr
    generalize kvs[k] = q at gk gm
    obtain ⟨nm, g⟩ := q
    have at4 : ∀ (b2 : Bs), EvD K b2 (tOp (rIx K) (tVar 4) (tVar 5)) [some (.dat (.obj (.ref T))), some (.dat (.lsa r (kvs.map rowD))), some (.dat (.obj (.ref h))), some (.dat (.bl em)), some (.dat (.lsa p (kvs.map rowD))), some (.dat (.int (k : Int))), none] (rowD (nm, g)) := fun b2 => evd_op (d := .lsa p (kvs.map rowD)) (e := .int (k : Int)) (evd_var rfl) (evd_var rfl) (rd_ix rfl (row_at gk))
    have at1 : ∀ (b2 : Bs), EvD K b2 (tOp (rIx K) (tVar 1) (tVar 5)) [some (.dat (.obj (.ref T))), some (.dat (.lsa r (kvs.map rowD))), some (.dat (.obj (.ref h))), some (.dat (.bl em)), some (.dat (.lsa p (kvs.map rowD))), some (.dat (.int (k : Int))), none] (rowD (nm, g)) := fun b2 => evd_op (d := .lsa r (kvs.map rowD)) (e := .int (k : Int)) (evd_var rfl) (evd_var rfl) (rd_ix rfl (row_at gk))
    refine st_seq (st_if (c := false) (evb_is (evb_or (evb_not (evb_B (evd_cb (ds := [rowD (nm, g), .obj (.ty "tuple")]) (eva_cons (at4 _) (eva_cons evd_obj eva_nil)) (cd_isi (k := true) rfl (by decide +kernel))))) fun _ => evb_or (evb_test (evd_op (evd_cb (ds := [rowD (nm, g)]) (eva_cons (at4 _) eva_nil) (cd_len rfl)) evd_int rd_neI)) fun _ => evb_not (evb_B (evd_cb (ds := [.str nm, .obj (.ty "str")]) (eva_cons (evd_op (d := rowD (nm, g)) (at4 _) evd_int (rd_ix rfl rfl)) (eva_cons evd_obj eva_nil)) (cd_isi (k := true) rfl (by decide +kernel))))) rfl) (fun z => nomatch z) fun _ => st_next ?_)
    exact st_if (c := false) (evb_is (evb_or (evb_test (evd_op (evd_op (d := rowD (nm, g)) (at4 _) evd_int (rd_ix rfl rfl)) (evd_op (d := rowD (nm, g)) (at1 _) evd_int (rd_ix rfl rfl)) rd_neS)) fun _ => evb_not (evb_B (evd_call (ds := [bD g, bD g]) (eva_cons (evd_op (d := rowD (nm, g)) (at4 _) evd_int (rd_ix rfl rfl)) (eva_cons (evd_op (d := rowD (nm, g)) (at1 _) evd_int (rd_ix rfl rfl)) eva_nil)) r_l_is_beat))) (by rw [decide_eq_true rfl] <;> rfl)) (fun z => nomatch z) fun _ => st_next ⟨_, rfl⟩
  rintro _ ⟨y5, rfl⟩
  refine ⟨_, .keep rfl (.ref (.keep rfl (.keep rfl (.ref (.drop (.drop .nil)))))), ?_⟩
  refine stM_seq (stM_setP (d := .lst (kvs.map rowD)) (evp_lookF V (fun b' => evf_listOf (d := .lsa r (kvs.map rowD)) (evd_var rfl) rfl) (lf_rows kvs)) ?_)
  have hq3 := rows_q kvs ok.o
  refine stM_join (fun ρ μ' => ∃ es, ρ = [some (.dat (.obj (.ref T))), some (.dat (.obj (.ref r))), some (.dat (.obj (.ref h))), some (.dat (.bl em)), some (.dat (.obj (.ref p))), none, some (.dat (.lst es))] ∧ (D.lst es).q 3 ∧ μ' p = some (.lst es) ∧ ∀ a c, a ≠ p → μ1 a = some c → μ' a = some c) (stM_if (c := em) (evpb_of fun b' => evb_B (evd_var rfl)) (fun _ => ?_) fun _ => stM_next ⟨_, rfl, hq3, hp1, fun _ _ _ e => e⟩) ?_
  · refine stM_seq (stM_drop (evm_clear (p := p) (evp_var rfl) hp1) ?_)
    rintro _ _ ⟨rfl, rfl⟩
    exact stM_setP (d := .lst []) (evp_lst evpa_nil (by decide)) ⟨[], rfl, emp_q3, updM_same, fun a c ha e => by rw [updM_ne ha]; exact e⟩
  rintro _ μ2 ⟨es, rfl, hes, hp2, hk2⟩
  refine stM_freeze hp2 hbp (.keep (.keep (.keep (.keep (.fz fz_ref (.drop (.keep .nil))))))) ?_
  have c3 : Chg b.m (offM μ2 p) [] := Chg.off (fun a c _ e => hk2 a c (fun z => by
    rw [z, hbp] at e
    cases e) (c1.at e)) hbp
  have hh3 : offM μ2 p h = some (.lst hs) := c3.at hh
  generalize offM μ2 p = μ3 at c3 hh3
  refine stM_seq (stM_append (p := h) (d := .tup [.lst es, .lst es]) rfl hh3 (evp_of fun b' => evd_tup (eva_cons (evd_var rfl) (eva_cons (evd_var rfl) eva_nil)) (by show 2 ≤ 100000; decide)) (by omega) ?_)
  exact stM_retP (d := .bl true) evp_bl (hP [.tup [.lst es, .lst es]] _ (by show 1 ≤ 1; decide) (fun x hx => by
    rw [List.mem_singleton] at hx
    exact ⟨es, hx, hes⟩) ((c3.mono fun _ h => absurd h List.not_mem_nil).trans (Chg.put (List.mem_cons_self ..))) updM_same)

theorem ints_flat (ns : List Int) : (ns.map V.int).all flatV = true := by
  rw [List.all_map, List.all_eq_true]
  intro _ _
  rfl
theorem rd_inT {K : PySem.W.Frag} {x : Int} {ns : List Int} : RD K (rIn K false) (.int x) (.tup (ns.map D.int)) (.bl (inV (.int x) (ns.map V.int))) := fun v w Hv H Q l r1 r2 q => by
  have e := r1.int_inv
  subst e
  obtain ⟨a, xs, rfl, hs, r⟩ := r2.tup_inv
  have e := r.ints_inv
  subst e
  refine ⟨a, ns.map V.int, rfl, .inr (Le.tp l (SqT.of hs)), rfl, ints_flat ns, ?_⟩
  rw [if_neg Bool.false_ne_true]
  exact q _ Hv H (Gr.refl l) (.bl _)
theorem nameF_ex {kvs : Kvs} {ss : List Str} (n sh : Int) (h0 : 0 < ss.length) : ∃ z, nameF kvs ss n sh = some z ∧ (z ∈ ss ∨ ∃ p ∈ kvs, p.1 = z) := by
  unfold nameF
  split
  · have hi : (n / 4 % (ss.length : Int)).toNat < ss.length := by
      have h1 := Int.emod_nonneg (n / 4) (show (ss.length : Int) ≠ 0 by omega)
      have h2 := Int.emod_lt_of_pos (n / 4) (show (0 : Int) < (ss.length : Int) by omega)
      omega
    exact ⟨_, List.getElem?_eq_getElem hi, .inl (List.getElem_mem hi)⟩
  · rename_i hn
    have hk : 0 < kvs.length := by
      apply Classical.byContradiction
      intro q
      exact hn (.inr (by omega))
    have hi : (n / 4 % (kvs.length : Int)).toNat < kvs.length := by
      have h1 := Int.emod_nonneg (n / 4) (show (kvs.length : Int) ≠ 0 by omega)
      have h2 := Int.emod_lt_of_pos (n / 4) (show (0 : Int) < (kvs.length : Int) by omega)
      omega
    exact ⟨_, by rw [List.getElem?_eq_getElem hi] <;> rfl, .inr ⟨_, List.getElem_mem hi, rfl⟩⟩
theorem body_l_done {K : PySem.W.Frag} (xx : exK K = true) : BodyM K 14 (t_l_done K) (R_l_done K) := by
  rintro ds μ P X b E rfl ⟨T, d, dx, r, c, h, kvs, n, cell, ns, ss, hs, rfl, I, hk, Hh, hl, s0, s1, so, hP⟩ hX
  have hz : kvs.length ≤ 1000 := by omega
  have nhd : h ≠ d := ne_of_mu Hh.hh I.tw.2 (fun z => nomatch z)
  have nhT : h ≠ T := ne_of_mu Hh.hh I.tw.1 (fun z => nomatch z)
  have nrd : r ≠ d := ne_of_mu I.row I.tw.2 (fun z => nomatch z)
  have nrT : r ≠ T := ne_of_mu I.row I.tw.1 (fun z => nomatch z)
  have ncd : c ≠ d := ne_of_mu I.cl I.tw.2 (fun z => nomatch z)
  have ncT : c ≠ T := ne_of_mu I.cl I.tw.1 (fun z => nomatch z)
  have sub1 : ∀ a ∈ [d, r, c], a ∈ [d, r, c, h] := fun a ha => by
    simp only [List.mem_cons, List.not_mem_nil, or_false] at ha ⊢
    rcases ha with e | e | e
    · exact .inl e
    · exact .inr (.inl e)
    · exact .inr (.inr (.inl e))
  have sub2 : ∀ a ∈ [d, r], a ∈ [d, r, c, h] := fun a ha => by
    simp only [List.mem_cons, List.not_mem_nil, or_false] at ha ⊢
    rcases ha with e | e
    · exact .inl e
    · exact .inr (.inl e)
  have sub3 : ∀ a ∈ [c], a ∈ [d, r, c, h] := fun a ha => by
    simp only [List.mem_cons, List.not_mem_nil, or_false] at ha ⊢
    exact .inr (.inr (.inl ha))
  have sub4 : ∀ a ∈ [h], a ∈ [d, r, c, h] := fun a ha => by
    simp only [List.mem_cons, List.not_mem_nil, or_false] at ha ⊢
    exact .inr (.inr (.inr ha))
  have nil0 : ∀ x ∈ ([] : List D), HOk x := fun x hx => by cases hx
  refine stM_seq (stM_setP (d := .int (cell % 10)) (evp_of fun b' => by wtm_at "ev") ?_)
  refine stM_seq (stM_setP (d := .int (cell / 10)) (evp_of fun b' => by wtm_at "ev") ?_)
  generalize cell % 10 = way
  generalize cell / 10 = num
  refine stM_seq (stM_setP (d := .int (num / 3 * 48271 % (2 * 10 ^ (18 : Int).toNat + 1) - 10 ^ (18 : Int).toNat)) (evp_of fun b' => by wtm_at "ev") ?_)
  generalize num / 3 * 48271 % (2 * 10 ^ (18 : Int).toNat + 1) - 10 ^ (18 : Int).toNat = beg0
  refine stM_join (fun ρ μ' => ∃ beg : Int, ρ = [some (.dat (.obj (.ref T))), some (.dat (.obj (.ref r))), some (.dat (.obj (.ref c))), some (.dat (.lst (ss.map D.str))), some (.dat (.int cell)), some (.dat (.fro (ns.map D.int))), some (.dat (.obj (.ref h))), some (.dat (.int way)), some (.dat (.int num)), some (.dat (.int beg)), none, none, none, none] ∧ μ' = b.m) (stM_if (c := decide (num % 3 = 0)) (evpb_of fun b' => by wtm_at "ev") (fun _ => stM_setP (d := .int (num / 3 % 2001 - 1000)) (evp_of fun b' => by wtm_at "ev") ⟨_, rfl, rfl⟩) fun _ => stM_next ⟨_, rfl, rfl⟩) ?_
  rintro _ _ ⟨beg1, rfl, rfl⟩
  refine stM_seq (stM_setP (d := .bl (inV (.int way) [.int 2, .int 6, .int 7])) (evp_of fun b' => evd_op (d := .int way) (e := .tup ([2, 6, 7].map D.int)) (evd_var rfl) (evd_tup (eva_cons evd_int (eva_cons evd_int (eva_cons evd_int eva_nil))) (by show 3 ≤ 100000; decide)) rd_inT) ?_)
  generalize inV (.int way) [.int 2, .int 6, .int 7] = pl
  refine stM_join (fun ρ μ' => ∃ beg : Int, ρ = [some (.dat (.obj (.ref T))), some (.dat (.obj (.ref r))), some (.dat (.obj (.ref c))), some (.dat (.lst (ss.map D.str))), some (.dat (.int cell)), some (.dat (.fro (ns.map D.int))), some (.dat (.obj (.ref h))), some (.dat (.int way)), some (.dat (.int num)), some (.dat (.int beg)), some (.dat (.bl pl)), none, none, none] ∧ μ' = b.m ∧ (pl = true → beg = 0)) (stM_if (c := pl) (evpb_of fun b' => evb_B (evd_var rfl)) (fun _ => stM_setP (d := .int 0) evp_int ⟨_, rfl, rfl, fun _ => rfl⟩) fun z => stM_next ⟨_, rfl, rfl, fun y => (by rw [z] at y; cases y)⟩) ?_
  rintro _ _ ⟨beg, rfl, rfl, hbeg⟩
  have V := fun {s2 s3 s4 s5 s6 s7 s8 s9 s10 s11 s12 s13 : Option SD} => View.keep (s := some (.dat (.obj (.ref T)))) (View.look I.row (View.refl b.m [s2, s3, s4, s5, s6, s7, s8, s9, s10, s11, s12, s13]))
  have el : (((kvs.map rowD).length : Nat) : Int) = (kvs.length : Int) := by rw [List.length_map]
  refine stM_seq (stM_if (c := decide (way = 3) || (decide (way < 3) && decide ((12 : Int) ≤ ((kvs.map rowD).length : Nat)))) (evpb_look V fun b' => evb_or (evb_test (evd_op (evd_var rfl) evd_int rd_eqI)) fun _ => evb_and (evb_test (evd_op (evd_var rfl) evd_int rd_lt)) fun _ => evb_test (evd_op (evd_cb (ds := [.lsa r (kvs.map rowD)]) (eva_cons (evd_var rfl) eva_nil) (cd_len rfl)) evd_int rd_ge)) (fun _ => ?_) fun zt => stM_next ?_)
  · obtain ⟨z, hz1, _⟩ := nameF_ex (kvs := kvs) (ss := ss) num 3 s0
    obtain ⟨f1, f2⟩ := drop_facts I.ok I.cn I.le z
    refine stM_ret (evm_call (X := fun _ _ _ => False) (ds := [.obj (.ref T), .obj (.ref r), .obj (.ref c), .str z]) (evpa_cons (evp_var rfl) (evpa_cons (evp_var rfl) (evpa_cons (evp_var rfl) (evpa_cons (evp_look V (fun b' => evd_call (ds := [.lsa r (kvs.map rowD), .lst (ss.map D.str), .int num, .int 3]) (eva_cons (evd_var rfl) (eva_cons (evd_var rfl) (eva_cons (evd_var rfl) (eva_cons evd_int eva_nil)))) ⟨_, kvs, ss, num, 3, z, rfl, rfl, hz, s0, s1, hz1, rfl⟩) rfl) evpa_nil)))) ⟨T, d, dx, r, c, kvs, z, n, rfl, I.tw, I.row, I.cl, I.rc, hz, I.le, I.ok.nd, fun μ' hc htw hrow hcl => hP (dropF kvs z) (takeN kvs z n) [] μ' ⟨htw, hrow, hcl, I.rc, f1, f2, ok_drop I.ok z⟩ (Nat.le_trans (List.length_filter_le _ _) hk) (by decide) nil0 (hc.mono sub1) (by
      rw [List.append_nil]
      exact hc h _ (out3 nhd Hh.hr Hh.hc) Hh.hh)⟩ fun _ _ _ _ _ z => z.elim) fun _ _ p => p
  refine stM_seq (stM_if (c := decide (way < 3)) (evpb_of fun b' => evb_test (evd_op (evd_var rfl) evd_int rd_lt)) (fun zw => ?_) fun _ => stM_next ?_)
  · have h12 : kvs.length < 12 := by
      obtain ⟨_, z2⟩ := Bool.or_eq_false_iff.mp zt
      rw [zw, Bool.true_and] at z2
      have := of_decide_eq_false z2
      omega
    have gb := gapT_b (cell * 48271 % (10 ^ (12 : Int).toNat + 39))
    refine stM_seq (stM_setP (d := .int (gapT (cell * 48271 % (10 ^ (12 : Int).toNat + 39)))) (evp_of fun b' => by wtm_at "ev") ?_)
    generalize gapT (cell * 48271 % (10 ^ (12 : Int).toNat + 39)) = w0 at gb
    refine stM_join (fun ρ μ' => ∃ w : Int, ρ = [some (.dat (.obj (.ref T))), some (.dat (.obj (.ref r))), some (.dat (.obj (.ref c))), some (.dat (.lst (ss.map D.str))), some (.dat (.int cell)), some (.dat (.fro (ns.map D.int))), some (.dat (.obj (.ref h))), some (.dat (.int way)), some (.dat (.int num)), some (.dat (.int beg)), some (.dat (.bl pl)), some (.dat (.int w)), none, none] ∧ μ' = b.m ∧ (pl = true → w = 24) ∧ -1000000000 ≤ w ∧ w ≤ 1000000000) (stM_if (c := pl) (evpb_of fun b' => evb_B (evd_var rfl)) (fun _ => stM_setP (d := .int 24) evp_int ⟨_, rfl, rfl, fun _ => rfl, by decide, by decide⟩) fun z => stM_next ⟨_, rfl, rfl, fun y => (by rw [z] at y; cases y), gb⟩) ?_
    rintro _ _ ⟨w, rfl, rfl, hw, w1, w2⟩
    refine stM_seq (stM_setP (d := .int (num * 69621 % 2147483629)) (evp_of fun b' => by wtm_at "ev") ?_)
    generalize num * 69621 % 2147483629 = mx
    refine stM_seq (stM_setP (d := .int (cellZ ns 1 % (2 * 10 ^ (18 : Int).toNat + 1) - 10 ^ (18 : Int).toNat + w * (mx - 10 ^ (9 : Int).toNat))) (evp_of fun b' => by wtm_at "ev") ?_)
    generalize cellZ ns 1 % (2 * 10 ^ (18 : Int).toNat + 1) - 10 ^ (18 : Int).toNat + w * (mx - 10 ^ (9 : Int).toNat) = f0
    refine stM_join (fun ρ μ' => ∃ f : Int, ρ = [some (.dat (.obj (.ref T))), some (.dat (.obj (.ref r))), some (.dat (.obj (.ref c))), some (.dat (.lst (ss.map D.str))), some (.dat (.int cell)), some (.dat (.fro (ns.map D.int))), some (.dat (.obj (.ref h))), some (.dat (.int way)), some (.dat (.int num)), some (.dat (.int beg)), some (.dat (.bl pl)), some (.dat (.int w)), some (.dat (.int mx)), some (.dat (.int f))] ∧ μ' = b.m) (stM_if (c := decide (cellZ ns 2 % 2 = 1) && decide (mx / 32 % 4 = 0)) (evpb_of fun b' => by wtm_at "ev") (fun _ => stM_setP (d := .int (f0 + 1 + mx / 128 % 5)) (evp_of fun b' => by wtm_at "ev") ⟨_, rfl, rfl⟩) fun _ => stM_next ⟨_, rfl, rfl⟩) ?_
    rintro _ _ ⟨f, rfl, rfl⟩
    obtain ⟨z, hz1, hz2⟩ := nameF_ex (kvs := kvs) (ss := ss) num 1 s0
    have oz : SOk z := by
      rcases hz2 with q | ⟨p, q, e⟩
      · exact so z q
      · exact e ▸ I.ok.o p q
    obtain ⟨f1, f2, f3, f4⟩ := hang_facts I.ok I.cn I.le hk oz (f := f) (w := w) (by omega)
    refine stM_ret (evm_call (X := fun _ _ _ => False) (ds := [.obj (.ref T), .obj (.ref r), .str z, .int f, .int w, .bl pl]) (evpa_cons (evp_var rfl) (evpa_cons (evp_var rfl) (evpa_cons (evp_look V (fun b' => evd_call (ds := [.lsa r (kvs.map rowD), .lst (ss.map D.str), .int num, .int 1]) (eva_cons (evd_var rfl) (eva_cons (evd_var rfl) (eva_cons (evd_var rfl) (eva_cons evd_int eva_nil)))) ⟨_, kvs, ss, num, 1, z, rfl, rfl, hz, s0, s1, hz1, rfl⟩) rfl) (evpa_cons (evp_var rfl) (evpa_cons (evp_var rfl) (evpa_cons (evp_var rfl) evpa_nil)))))) ⟨T, d, dx, r, kvs, z, f, w, pl, rfl, I.tw, I.row, by omega, hw, fun μ' hc htw hrow => hP (hangF kvs z f w) n [] μ' ⟨htw, hrow, hc c _ (out2 ncd I.rc.symm) I.cl, I.rc, f1, f3, f4⟩ (by omega) (by decide) nil0 (hc.mono sub2) (by
      rw [List.append_nil]
      exact hc h _ (out2 nhd Hh.hr) Hh.hh)⟩ fun _ _ _ _ _ z => z.elim) fun _ _ p => p
  refine stM_seq (stM_if (c := decide (way = 4) || decide (way = 6)) (evpb_of fun b' => evb_or (evb_test (evd_op (evd_var rfl) evd_int rd_eqI)) fun _ => evb_test (evd_op (evd_var rfl) evd_int rd_eqI)) (fun _ => ?_) fun _ => stM_next ?_)
  · exact stM_ret (evm_call (X := fun _ _ _ => False) (ds := [.obj (.ref T), .obj (.ref r), .obj (.ref c), .int beg, .bl pl]) (evpa_cons (evp_var rfl) (evpa_cons (evp_var rfl) (evpa_cons (evp_var rfl) (evpa_cons (evp_var rfl) (evpa_cons (evp_var rfl) evpa_nil))))) ⟨T, d, dx, r, c, kvs, beg, n, pl, rfl, I.tw, I.row, I.cl, I.rc, I.le, I.cn, I.ok, hbeg, fun j μ' hj hcj hc hcl => hP kvs j [] μ' ⟨⟨hc _ _ (out1 ncT.symm) I.tw.1, hc _ _ (out1 ncd.symm) I.tw.2⟩, hc _ _ (out1 I.rc) I.row, hcl, I.rc, hj, hcj, I.ok⟩ hk (by decide) nil0 (hc.mono sub3) (by
      rw [List.append_nil]
      exact hc h _ (out1 Hh.hc) Hh.hh)⟩ fun _ _ _ _ _ z => z.elim) fun _ _ p => p
  have keep : ∀ {μ' : Mu}, Chg b.m μ' [h] → TI K μ' T d dx r c kvs n := fun {μ'} hc => I.chg hc (out1 nhT.symm) (out1 nhd.symm) (out1 Hh.hr.symm) (out1 Hh.hc.symm)
  refine stM_seq (stM_if (c := decide (way = 5) || decide (way = 7)) (evpb_of fun b' => evb_or (evb_test (evd_op (evd_var rfl) evd_int rd_eqI)) fun _ => evb_test (evd_op (evd_var rfl) evd_int rd_eqI)) (fun _ => ?_) fun _ => stM_next ?_)
  · exact stM_ret (evm_call (X := fun _ _ _ => False) (ds := [.obj (.ref T), .obj (.ref r), .int beg, .bl pl, .obj (.ref h), .bl (decide (num / 3 % 3 = 0))]) (evpa_cons (evp_var rfl) (evpa_cons (evp_var rfl) (evpa_cons (evp_var rfl) (evpa_cons (evp_var rfl) (evpa_cons (evp_var rfl) (evpa_cons (evp_of fun b' => by wtm_at "ev") evpa_nil)))))) ⟨T, d, dx, r, h, kvs, beg, pl, _, hs, rfl, I.tw, I.row, Hh.hh, hl, I.ok, hbeg, fun hs' μ' a1 a2 hc a3 => hP kvs n hs' μ' (keep hc) hk a1 a2 (hc.mono sub4) a3⟩ fun _ _ _ _ _ z => z.elim) fun _ _ p => p
  exact stM_ret (evm_call (X := fun _ _ _ => False) (ds := [.obj (.ref T), .obj (.ref r), .obj (.ref h), .bl (decide (num / 3 % 3 = 0))]) (evpa_cons (evp_var rfl) (evpa_cons (evp_var rfl) (evpa_cons (evp_var rfl) (evpa_cons (evp_of fun b' => by wtm_at "ev") evpa_nil)))) ⟨T, d, dx, r, h, kvs, _, hs, rfl, I.tw, I.row, Hh.hh, hl, I.ok, fun hs' μ' a1 a2 hc a3 => hP kvs n hs' μ' (keep hc) hk a1 a2 (hc.mono sub4) a3⟩ fun _ _ _ _ _ z => z.elim) fun _ _ p => p

theorem evmb_nt {K : PySem.W.Frag} {b : BM} {ρ : Rho} {μ : Mu} {te : TE} {Q : Mu → Prop} (h : EvM K b te ρ μ (fun d' μ' => d' = .bl true ∧ Q μ')) : EvMB K b ρ μ (tNot (tB te)) (fun c μ' => c = false ∧ Q μ') :=
  evmb_not (evmb_B (evm_mono h fun d' μ' ⟨e, q⟩ => ⟨true, e, rfl, q⟩))
section
variable {K : PySem.W.Frag} {b : BM} {ρ : Rho} {μ : Mu} {T d dx r c h : Addr} {kvs : Kvs} {n : Nat} {te t0 t1 t2 t3 : TE}
theorem TI.nrT (I : TI K μ T d dx r c kvs n) : r ≠ T := ne_of_mu I.row I.tw.1 (fun z => nomatch z)
theorem TI.nrd (I : TI K μ T d dx r c kvs n) : r ≠ d := ne_of_mu I.row I.tw.2 (fun z => nomatch z)
theorem TI.ncT (I : TI K μ T d dx r c kvs n) : c ≠ T := ne_of_mu I.cl I.tw.1 (fun z => nomatch z)
theorem TI.ncd (I : TI K μ T d dx r c kvs n) : c ≠ d := ne_of_mu I.cl I.tw.2 (fun z => nomatch z)
theorem evm_take (I : TI K μ T d dx r c kvs n) {z : Str} (h0 : EvP K b t0 ρ μ (.obj (.ref T))) (h1 : EvP K b t1 ρ μ (.obj (.ref r))) (h2 : EvP K b t2 ρ μ (.obj (.ref c))) (h3 : EvP K b te ρ μ (.str z)) :
    EvM K b (tCall (spM K (R_l_take K)) [] E0 (tCons t0 (tCons t1 (tCons t2 (tCons te tNil))))) ρ μ (fun d' μ' => d' = .bl true ∧ TI K μ' T d dx r c (dropF kvs z) (takeN kvs z n) ∧ Chg μ μ' [d, r, c]) := by
  obtain ⟨f1, f2⟩ := drop_facts I.ok I.cn I.le z
  exact evm_call (X := fun _ _ _ => False) (evpa_cons h0 (evpa_cons h1 (evpa_cons h2 (evpa_cons h3 evpa_nil)))) ⟨T, d, dx, r, c, kvs, z, n, rfl, I.tw, I.row, I.cl, I.rc, by have := I.ok.n; omega, I.le, I.ok.nd, fun μ' hc htw hrow hcl => ⟨rfl, ⟨htw, hrow, hcl, I.rc, f1, f2, ok_drop I.ok z⟩, hc⟩⟩ fun _ _ _ _ _ z => z.elim
theorem evm_allr (I : TI K μ T d dx r c kvs n) {m : Int} (h0 : EvP K b t0 ρ μ (.obj (.ref T))) (h1 : EvP K b t1 ρ μ (.obj (.ref r))) (h2 : EvP K b t2 ρ μ (.obj (.ref c))) (h3 : EvP K b te ρ μ (.int m)) :
    EvM K b (tCall (spM K (R_l_all_ring K)) [] E0 (tCons t0 (tCons t1 (tCons t2 (tCons te (tCons (tC (.bl false)) tNil)))))) ρ μ (fun d' μ' => d' = .bl true ∧ (∃ j, TI K μ' T d dx r c kvs j) ∧ Chg μ μ' [c]) :=
  evm_call (X := fun _ _ _ => False) (evpa_cons h0 (evpa_cons h1 (evpa_cons h2 (evpa_cons h3 (evpa_cons evp_bl evpa_nil))))) ⟨T, d, dx, r, c, kvs, m, n, false, rfl, I.tw, I.row, I.cl, I.rc, I.le, I.cn, I.ok, (fun z => nomatch z), fun j μ' hj hcj hc hcl => ⟨rfl, ⟨j, ⟨hc _ _ (out1 I.ncT.symm) I.tw.1, hc _ _ (out1 I.ncd.symm) I.tw.2⟩, hc _ _ (out1 I.rc) I.row, hcl, I.rc, hj, hcj, I.ok⟩, hc⟩⟩ fun _ _ _ _ _ z => z.elim
theorem evm_trb (I : TI K μ T d dx r c kvs n) (h1 : EvP K b t1 ρ μ (.obj (.ref r))) (h2 : EvP K b t2 ρ μ (.obj (.ref c))) :
    EvM K b (tCall (spM K (R_l_trouble K)) [] E0 (tCons t1 (tCons t2 tNil))) ρ μ (fun d' μ' => (d' = .lst [] ∨ ∃ x y g, d' = .lst [.str x, .str y, .int g]) ∧ (∃ j, TI K μ' T d dx r c kvs j) ∧ Chg μ μ' [c]) := by
  have up : ∀ j : Nat, j ≤ kvs.length → Clean kvs j → (∃ i, TI K (updM μ c (.lst [.int (j : Int)])) T d dx r c kvs i) ∧ Chg μ (updM μ c (.lst [.int (j : Int)])) [c] := fun j hj hcj => ⟨⟨j, ⟨by rw [updM_ne I.ncT.symm]; exact I.tw.1, by rw [updM_ne I.ncd.symm]; exact I.tw.2⟩, by rw [updM_ne I.rc]; exact I.row, updM_same, I.rc, hj, hcj, I.ok⟩, Chg.put (List.mem_cons_self ..)⟩
  exact evm_call (X := fun _ _ _ => False) (evpa_cons h1 (evpa_cons h2 evpa_nil)) ⟨r, c, kvs, n, rfl, I.row, I.cl, I.rc, by have := I.ok.n; omega, I.le, fun p hp => (I.ok.g p hp).1, I.cn, fun hC => ⟨.inl rfl, up _ (Nat.le_refl _) hC⟩, fun j a x y u v Tr => ⟨.inr ⟨x, y, _, rfl⟩, up _ (Nat.le_of_lt (List.getElem?_eq_some_iff.mp Tr.gj).1) Tr.cl⟩⟩ fun _ _ _ _ _ z => z.elim
end
theorem sub_c {d r c : Addr} : ∀ a ∈ [c], a ∈ [d, r, c] := fun a ha => List.mem_cons_of_mem _ (List.mem_cons_of_mem _ ha)
theorem sub_dr {d r c : Addr} : ∀ a ∈ [d, r], a ∈ [d, r, c] := fun a ha => by
  rcases List.mem_cons.mp ha with e | ha
  · exact List.mem_cons.mpr (.inl e)
  · exact List.mem_cons_of_mem _ (List.mem_cons.mpr (.inl (List.mem_singleton.mp ha)))
theorem sub_drc {d r c h : Addr} : ∀ a ∈ [d, r, c], a ∈ [d, r, c, h] := fun a ha => by
  rcases List.mem_cons.mp ha with e | ha
  · exact List.mem_cons.mpr (.inl e)
  · rcases List.mem_cons.mp ha with e | ha
    · exact List.mem_cons_of_mem _ (List.mem_cons.mpr (.inl e))
    · exact List.mem_cons_of_mem _ (List.mem_cons_of_mem _ (List.mem_cons.mpr (.inl (List.mem_singleton.mp ha))))
theorem sub_h {d r c h : Addr} : ∀ a ∈ [h], a ∈ [d, r, c, h] := fun a ha => List.mem_cons_of_mem _ (List.mem_cons_of_mem _ (List.mem_cons_of_mem _ ha))
theorem body_l_made_good {K : PySem.W.Frag} (xx : exK K = true) : BodyM K 9 (t_l_made_good K) (R_l_made_good K) := by
  rintro ds μ P X b E rfl ⟨T, d, dx, r, c, h, kvs, n, m, cc, hs, rfl, I0, hk0, Hh, hl, hP⟩ hX
  have nhd : h ≠ d := ne_of_mu Hh.hh I0.tw.2 (fun z => nomatch z)
  have nhT : h ≠ T := ne_of_mu Hh.hh I0.tw.1 (fun z => nomatch z)
  refine stM_seq (stM_for (xs := List.range 3) (fun i : Nat => D.int (i : Int)) (js := [6]) (f := fun x r => r.set 6 (some (.dat x))) (fun b' => src_rng1 (n := 3) (eva_cons evd_int eva_nil) (by decide) (by decide)) (fun _ _ => gt_name) (fun _ ρ μ' => ∃ kvs n y6 y7, ρ = [some (.dat (.obj (.ref T))), some (.dat (.obj (.ref r))), some (.dat (.obj (.ref c))), some (.dat (.lst ((namesF cc).map D.str))), some (.dat (.int m)), some (.dat (.obj (.ref h))), y6, y7, none] ∧ TI K μ' T d dx r c kvs n ∧ kvs.length ≤ 12 ∧ Chg b.m μ' [d, r, c]) ⟨kvs, n, none, none, rfl, I0, hk0, Chg.refl⟩ (fun _ _ _ _ _ _ h => noOwn_set h) ?_ ?_)
  · rintro s i k _ μ1 hx ⟨kvs, n, y6, y7, rfl, I, hk, hc⟩
    refine stM_seq (stM_set (evm_trb I (evp_var rfl) (evp_var rfl)) ?_)
    rintro td μ2 ⟨htd, ⟨j, I2⟩, hc2⟩
    refine stM_seq (stM_ifM (evmb_nt (evm_allr I2 (evp_var rfl) (evp_var rfl) (evp_var rfl) (evp_var rfl))) (fun μ' z => nomatch z.1) ?_)
    rintro μ3 ⟨_, ⟨j3, I3⟩, hc3⟩
    have hc4 : Chg b.m μ3 [d, r, c] := (hc.trans (hc2.mono sub_c)).trans (hc3.mono sub_c)
    refine stM_next ?_
    rcases htd with rfl | ⟨x, y, g, rfl⟩
    · exact stM_if (c := false && false) (evpb_of fun b' => evb_and (evb_is (evb_test (evd_op (evd_cb (ds := [.lst []]) (eva_cons (evd_var rfl) eva_nil) (cd_len rfl)) evd_int rd_gt)) rfl) fun z => nomatch z) (fun z => nomatch z) fun _ => stM_next ⟨kvs, j3, _, _, rfl, I3, hk, hc4⟩
    · refine stM_ifM (PB := fun c' μ' => c' = false ∧ TI K μ' T d dx r c (dropF kvs y) (takeN kvs y j3) ∧ Chg μ3 μ' [d, r, c]) (evmb_and (PB1 := fun c' μ' => c' = true ∧ μ' = μ3) (evmb_P (evpb_of fun b' => evb_is (c' := true) (evb_test (evd_op (evd_cb (ds := [.lst [.str x, .str y, .int g]]) (eva_cons (evd_var rfl) eva_nil) (cd_len rfl)) evd_int rd_gt)) rfl) ⟨rfl, rfl⟩) (fun μ' z => nomatch z.1) ?_) (fun μ' z => nomatch z.1) ?_
      · rintro μ' ⟨_, e⟩
        rw [e]
        exact evmb_nt (evm_take I3 (evp_var rfl) (evp_var rfl) (evp_var rfl) (evp_of fun b' => evd_op (d := .lst [.str x, .str y, .int g]) (evd_var rfl) evd_int (rd_ix rfl rfl)))
      · rintro μ' ⟨_, I4, hc5⟩
        exact stM_next ⟨_, _, _, _, rfl, I4, Nat.le_trans (List.length_filter_le _ _) hk, hc4.trans hc5⟩
  rintro _ μ1 ⟨kvs, n, y6, y7, rfl, I, hk, hc⟩
  have nl := namesF_len cc
  obtain ⟨z, zs, hf, zm, zn⟩ := names_free cc (kvs.map (·.1)) (by rw [List.length_map]; omega)
  have oz := namesF_ok cc z zm
  refine stM_seq (stM_setP (d := .str z) (evp_look (.keep (.look I.row (View.refl _ _))) (fun b' => evd_call (ds := [.lsa r (kvs.map rowD), .lst ((namesF cc).map D.str)]) (eva_cons (evd_var rfl) (eva_cons (evd_var rfl) eva_nil)) ⟨_, kvs, namesF cc, zs, z, rfl, rfl, by omega, by omega, hf, rfl⟩) rfl) ?_)
  refine stM_seq (stM_ifM (PB := fun c' μ' => c' = false ∧ (∃ kvs n, TI K μ' T d dx r c kvs n) ∧ Chg b.m μ' [d, r, c]) (evmb_or (evmb_nt (evm_take I (evp_var rfl) (evp_var rfl) (evp_var rfl) (evp_var rfl))) (fun μ' z => nomatch z.1) ?_) (fun μ' z => nomatch z.1) ?_)
  · rintro μ2 ⟨_, I2, hc2⟩
    have hk2 : (dropF kvs z).length ≤ 12 := Nat.le_trans (List.length_filter_le _ _) hk
    obtain ⟨f1, f2, f3, f4⟩ := hang_facts I2.ok I2.cn I2.le hk2 oz (f := m) (w := 24) (by decide)
    exact evmb_nt (evm_call (X := fun _ _ _ => False) (ds := [.obj (.ref T), .obj (.ref r), .str z, .int m, .int 24, .bl true]) (evpa_cons (evp_var rfl) (evpa_cons (evp_var rfl) (evpa_cons (evp_var rfl) (evpa_cons (evp_var rfl) (evpa_cons evp_int (evpa_cons evp_bl evpa_nil)))))) ⟨T, d, dx, r, dropF kvs z, z, m, 24, true, rfl, I2.tw, I2.row, by omega, fun _ => rfl, fun μ' hc3 htw hrow => ⟨rfl, ⟨_, _, htw, hrow, hc3 c _ (out2 I2.ncd I.rc.symm) I2.cl, I.rc, f1, f3, f4⟩, (hc.trans hc2).trans (hc3.mono sub_dr)⟩⟩ fun _ _ _ _ _ z => z.elim)
  rintro μ2 ⟨_, ⟨kvs2, n2, I2⟩, hc2⟩
  refine stM_next ?_
  have hh2 : μ2 h = some (.lst hs) := hc2 _ _ (out3 nhd Hh.hr Hh.hc) Hh.hh
  refine stM_seq (stM_ifM (PB := fun c' μ' => c' = false ∧ ∃ kvs n hs', TI K μ' T d dx r c kvs n ∧ hs'.length ≤ 1 ∧ (∀ x ∈ hs', HOk x) ∧ Chg b.m μ' [d, r, c, h] ∧ μ' h = some (.lst (hs ++ hs'))) (evmb_or (PB1 := fun c' μ' => c' = false ∧ ∃ hs', TI K μ' T d dx r c kvs2 n2 ∧ hs'.length ≤ 1 ∧ (∀ x ∈ hs', HOk x) ∧ Chg b.m μ' [d, r, c, h] ∧ μ' h = some (.lst (hs ++ hs'))) (evmb_nt ?_) (fun μ' z => nomatch z.1) ?_) (fun μ' z => nomatch z.1) ?_)
  · exact evm_call (X := fun _ _ _ => False) (ds := [.obj (.ref T), .obj (.ref r), .int m, .bl false, .obj (.ref h), .bl false]) (evpa_cons (evp_var rfl) (evpa_cons (evp_var rfl) (evpa_cons (evp_var rfl) (evpa_cons evp_bl (evpa_cons (evp_var rfl) (evpa_cons evp_bl evpa_nil)))))) ⟨T, d, dx, r, h, kvs2, m, false, false, hs, rfl, I2.tw, I2.row, hh2, by omega, I2.ok, (fun z => nomatch z), fun hs' μ' a1 a2 hc3 a3 => ⟨rfl, hs', I2.chg hc3 (out1 nhT.symm) (out1 nhd.symm) (out1 Hh.hr.symm) (out1 Hh.hc.symm), a1, a2, (hc2.mono sub_drc).trans (hc3.mono sub_h), a3⟩⟩ fun _ _ _ _ _ z => z.elim
  · rintro μ3 ⟨_, hs', I3, a1, a2, hc3, a3⟩
    refine evmb_nt (evm_mono (evm_take I3 (evp_var rfl) (evp_var rfl) (evp_var rfl) (evp_var rfl)) fun d' μ' ⟨e, I4, hc4⟩ => ⟨e, _, _, hs', I4, a1, a2, hc3.trans (hc4.mono sub_drc), hc4 _ _ (out3 nhd Hh.hr Hh.hc) a3⟩)
  rintro μ3 ⟨_, kvs3, n3, hs1, I3, a1, a2, hc3, a3⟩
  refine stM_next ?_
  exact stM_ret (evm_call (X := fun _ _ _ => False) (ds := [.obj (.ref T), .obj (.ref r), .obj (.ref h), .bl false]) (evpa_cons (evp_var rfl) (evpa_cons (evp_var rfl) (evpa_cons (evp_var rfl) (evpa_cons evp_bl evpa_nil)))) ⟨T, d, dx, r, h, kvs3, false, hs ++ hs1, rfl, I3.tw, I3.row, a3, by rw [List.length_append]; omega, I3.ok, fun hs2 μ' b1 b2 hc4 b3 => hP (hs1 ++ hs2) μ' (by rw [List.length_append]; omega) (fun x hx => by
    rcases List.mem_append.mp hx with q | q
    · exact a2 x q
    · exact b2 x q) (hc3.trans (hc4.mono sub_h)) (by rw [b3, List.append_assoc])⟩ fun _ _ _ _ _ z => z.elim) fun _ _ p => p

theorem body_l_clash_made {K : PySem.W.Frag} (xx : exK K = true) : BodyM K 3 (t_l_clash_made K) (R_l_clash_made K) := by
  rintro ds μ P X b E rfl ⟨ss, x, y, n, rfl, hx, hy, ox, oy, hP⟩ hX
  have I := isK5 xx
  have at0 : ∀ (ρ : Rho) (b' : Bs), ρ[0]? = some (some (.dat (.lst (ss.map D.str)))) → EvD K b' (tOp (rIx K) (tVar 0) (tC (.int 0))) ρ (.str x) := fun ρ b' h => evd_op (evd_var h) evd_int (rd_ix rfl (lst_ok1 (xs := ss) (f := D.str) (i := 0) (x := x) (by decide) hx))
  have at1 : ∀ (ρ : Rho) (b' : Bs), ρ[0]? = some (some (.dat (.lst (ss.map D.str)))) → EvD K b' (tOp (rIx K) (tVar 0) (tC (.int 1))) ρ (.str y) := fun ρ b' h => evd_op (evd_var h) evd_int (rd_ix rfl (lst_ok1 (xs := ss) (f := D.str) (i := 1) (x := y) (by decide) hy))
  have at2 : ∀ (ρ : Rho) (b' : Bs), ρ[1]? = some (some (.dat (.int n))) → EvD K b' (tOp rAddA (tC (.int 2)) (tOp rModI (tVar 1) (tOp rPowI (tC (.int 10)) (tC (.int 18))))) ρ (.int (2 + n % 10 ^ (18 : Int).toNat)) := fun ρ b' h => evd_op evd_int (evd_op (evd_var h) (evd_op evd_int evd_int (rd_pow ⟨by decide, by decide, by decide⟩)) (rd_mod (by decide))) rd_add
  generalize 2 + n % 10 ^ (18 : Int).toNat = m at at2
  refine stM_seq (stM_set (evm_mkV (fs := clF x y m) (ds := [.str x, .str y, .int m]) (evpa_of fun b' => eva_cons (at0 _ b' rfl) (eva_cons (at1 _ b' rfl) (eva_cons (at2 _ b' rfl) eva_nil))) (by show 3 ≤ 1000; decide) fun a ha => ⟨a, x, y, m, rfl, updM_same, fun d μ' h => h⟩) ?_)
  rintro d μ' ⟨a, dd, hdd, hne, ha, rfl, rfl⟩
  have c1 : Chg b.m (updM (updM b.m dd (.raw (.xd (clF x y m)))) a (.raw (exV a (He.ga K "Clash") dd))) [] := (Chg.new hdd).trans (Chg.new (by rw [updM_ne hne]; exact ha))
  have e1 : updM (updM b.m dd (.raw (.xd (clF x y m)))) a (.raw (exV a (He.ga K "Clash") dd)) a = some (.raw (exV a (He.ga K "Clash") dd)) := updM_same
  have e2 : updM (updM b.m dd (.raw (.xd (clF x y m)))) a (.raw (exV a (He.ga K "Clash") dd)) dd = some (.raw (.xd (clF x y m))) := by rw [updM_ne hne.symm, updM_same]
  generalize updM (updM b.m dd (.raw (.xd (clF x y m)))) a (.raw (exV a (He.ga K "Clash") dd)) = μ1 at c1 e1 e2
  have q3 : (D.lst [.str x, .str y, .int m]).q 1 := fun d hd => by
    rcases List.mem_cons.mp hd with e | hd
    · rw [e]; exact ox
    · rcases List.mem_cons.mp hd with e | hd
      · rw [e]; exact oy
      · rw [List.mem_singleton] at hd
        rw [hd]
        exact True.intro
  refine stM_retP (d := .bl (true && true)) (evp_andV (evp_op (d := .lst [.str x, .str y, .int m]) (e := .lst [.str x, .str y, .int m]) (evm_call (X := fun _ _ _ => False) (ds := [.obj (.ref a)]) (evpa_cons (evp_var rfl) evpa_nil) ⟨a, dd, x, y, m, rfl, e1, e2, rfl, rfl⟩ fun _ _ _ _ _ z => z.elim) (evp_of fun b' => evd_lst (eva_cons (at0 _ b' rfl) (eva_cons (at1 _ b' rfl) (eva_cons (at2 _ b' rfl) eva_nil))) (by show 3 ≤ 100000; decide)) (rd_same q3 (by decide) q3 (by decide) rfl)) fun _ => ?_) (hP _ c1)
  exact evp_op (d := onlyD 5) (e := onlyD 5) (evm_call (X := fun _ _ _ => False) (ds := [.obj (.ref a)]) (evpa_cons (evp_var rfl) evpa_nil) ⟨a, He.ga K "Clash", dd, _, 5, rfl, I, e1, e2, rfl, rfl⟩ fun _ _ _ _ _ z => z.elim) (evp_of fun b' => evd_call (eva_cons evd_int eva_nil) r_l_only) (rd_same (only_q 5) (by decide) (only_q 5) (by decide) rfl)

/-- a tower's places -/
structure Ad where
  T : Addr
  d : Addr
  x : Addr
  r : Addr
  c : Addr
abbrev TIa (K : PySem.W.Frag) (μ : Mu) (B : Ad) (kvs : Kvs) (n : Nat) : Prop := TI K μ B.T B.d B.x B.r B.c kvs n
/-- both towers, and what is held -/
structure LI (K : PySem.W.Frag) (μ : Mu) (A B : Ad) (h : Addr) (hs : List D) : Prop where
  t0 : ∃ kvs n, TIa K μ A kvs n ∧ kvs.length ≤ 12
  t1 : ∃ kvs n, TIa K μ B kvs n ∧ kvs.length ≤ 12
  h0 : HI μ A.r A.c h hs
  h1 : HI μ B.r B.c h hs
  ho : ∀ x ∈ hs, HOk x
  dd : A.d ≠ B.d
  rr : A.r ≠ B.r
  rc : A.r ≠ B.c
  cr : A.c ≠ B.r
  cc : A.c ≠ B.c
theorem LI.swap {K : PySem.W.Frag} {μ : Mu} {A B : Ad} {h : Addr} {hs : List D} (L : LI K μ A B h hs) : LI K μ B A h hs := ⟨L.t1, L.t0, L.h1, L.h0, L.ho, L.dd.symm, L.rr.symm, L.cr.symm, L.rc.symm, L.cc.symm⟩
theorem LI.other {K : PySem.W.Frag} {μ μ' : Mu} {A B : Ad} {h : Addr} {hs : List D} (L : LI K μ A B h hs) (hc : Chg μ μ' [A.d, A.r, A.c, h]) : ∃ kvs n, TIa K μ' B kvs n ∧ kvs.length ≤ 12 := by
  obtain ⟨k0, n0, I0, _⟩ := L.t0
  obtain ⟨k1, n1, I1, l1⟩ := L.t1
  refine ⟨k1, n1, I1.chg hc (out4 ?_ ?_ ?_ ?_) (out4 ?_ ?_ ?_ ?_) (out4 ?_ ?_ ?_ ?_) (out4 ?_ ?_ ?_ ?_), l1⟩
  · exact ne_of_mu I1.tw.1 I0.tw.2 (fun z => nomatch z)
  · exact ne_of_mu I1.tw.1 I0.row (fun z => nomatch z)
  · exact ne_of_mu I1.tw.1 I0.cl (fun z => nomatch z)
  · exact ne_of_mu I1.tw.1 L.h0.hh (fun z => nomatch z)
  · exact L.dd.symm
  · exact ne_of_mu I1.tw.2 I0.row (fun z => nomatch z)
  · exact ne_of_mu I1.tw.2 I0.cl (fun z => nomatch z)
  · exact ne_of_mu I1.tw.2 L.h0.hh (fun z => nomatch z)
  · exact ne_of_mu I1.row I0.tw.2 (fun z => nomatch z)
  · exact L.rr.symm
  · exact L.cr.symm
  · exact L.h1.hr.symm
  · exact ne_of_mu I1.cl I0.tw.2 (fun z => nomatch z)
  · exact L.rc.symm
  · exact L.cc.symm
  · exact L.h1.hc.symm
theorem LI.up {K : PySem.W.Frag} {μ μ' : Mu} {A B : Ad} {h : Addr} {hs hs' : List D} {kvs : Kvs} {n : Nat} (L : LI K μ A B h hs) (I : TIa K μ' A kvs n) (hk : kvs.length ≤ 12) (hc : Chg μ μ' [A.d, A.r, A.c, h]) (hh : μ' h = some (.lst (hs ++ hs'))) (ho : ∀ x ∈ hs', HOk x) : LI K μ' A B h (hs ++ hs') :=
  ⟨⟨kvs, n, I, hk⟩, L.other hc, ⟨hh, L.h0.hr, L.h0.hc⟩, ⟨hh, L.h1.hr, L.h1.hc⟩, fun x hx => by
    rcases List.mem_append.mp hx with q | q
    · exact L.ho x q
    · exact ho x q, L.dd, L.rr, L.rc, L.cr, L.cc⟩
theorem ne_none {μ : Mu} {a p : Addr} {c : MC} (h : μ a = some c) (h2 : μ p = none) : a ≠ p := fun e => by
  rw [e, h2] at h
  cases h
theorem ev_make {K : PySem.W.Frag} {b : BM} {ρ : Rho} {μ : Mu} : EvM K b (tMake (He.ga K "Tower") (spM K (R_T_init K)) [] E0 tNil) ρ μ (fun d' μ' => ∃ T d dx, d' = .obj (.ref T) ∧ Tw K μ' T d dx [] ∧ Chg μ μ' [] ∧ μ d = none) :=
  evm_make fun x dx hne hx hdx => by
    have hx1 : updM μ dx (.raw (.own x)) x = none := by rw [updM_ne hne.symm]; exact hx
    have c1 : Chg μ (updM (updM μ dx (.raw (.own x))) x (.raw (.ins (He.ga K "Tower") dx []))) [] := (Chg.new hdx).trans (Chg.new hx1)
    refine ⟨x, dx, rfl, updM_same, fun p hp hpx => ⟨rfl, x, p, dx, rfl, ⟨updM_same, by rw [updM_ne hpx, updM_same]⟩, fun a c n e => ?_, c1.none_of hp⟩⟩
    have ea := c1.at e
    have nx : a ≠ x := fun z => by
      rw [z, hx] at e
      cases e
    have np : a ≠ p := ne_none ea hp
    rw [updM_ne nx, updM_ne np]
    exact ea
theorem body_law {K : PySem.W.Frag} (xx : exK K = true) : BodyM K 11 (t_law K) (R_law K) := by
  rintro ds μ P X b E rfl ⟨ns, rfl, hn, hP⟩ hX
  refine stM_seq (stM_setP (d := .lst ((namesF (cellZ ns 0)).map D.str)) (evp_of fun b' => evd_call (ds := [.int (cellZ ns 0)]) (eva_cons (evd_call (ds := [.fro (ns.map D.int), .int 0]) (eva_cons (evd_var rfl) (eva_cons evd_int eva_nil)) (r_l_cell_at (by decide))) eva_nil) r_l_names) ?_)
  generalize cellZ ns 0 = cc
  have nl := namesF_len cc
  have so := namesF_ok cc
  have g0 : (namesF cc)[0]? = some (namesF cc)[0] := List.getElem?_eq_getElem (by omega)
  have g1 : (namesF cc)[1]? = some (namesF cc)[1] := List.getElem?_eq_getElem (by omega)
  refine stM_seq (stM_ifM (PB := fun c' μ' => c' = false ∧ True) (evmb_nt (Q := fun _ => True) (evm_call (X := fun _ _ _ => False) (ds := [.lst ((namesF cc).map D.str), .int (cellZ ns 1)]) (evpa_cons (evp_var rfl) (evpa_cons (evp_of fun b' => evd_call (ds := [.fro (ns.map D.int), .int 1]) (eva_cons (evd_var rfl) (eva_cons evd_int eva_nil)) (r_l_cell_at (by decide))) evpa_nil)) ⟨namesF cc, _, _, cellZ ns 1, rfl, g0, g1, so _ (List.getElem_mem _), so _ (List.getElem_mem _), fun μ' _ => ⟨rfl, True.intro⟩⟩ fun _ _ _ _ _ z => z.elim)) (fun μ' z => nomatch z.1) ?_)
  rintro μ1 _
  refine stM_next ?_
  -- the towers
  refine stM_seq (stM_set (P := fun d' μ' => ∃ T0 d0 x0 T1 d1 x1, d' = .lst [.obj (.ref T0), .obj (.ref T1)] ∧ Tw K μ' T0 d0 x0 [] ∧ Tw K μ' T1 d1 x1 [] ∧ d0 ≠ d1) (evm_lstA (PA := fun ds' μ' => ∃ T0 d0 x0 T1 d1 x1, ds' = [.obj (.ref T0), .obj (.ref T1)] ∧ Tw K μ' T0 d0 x0 [] ∧ Tw K μ' T1 d1 x1 [] ∧ d0 ≠ d1) (evma_cons ev_make ?_) ?_) ?_)
  · rintro _ μ2 ⟨T0, d0, x0, rfl, w0, c0, _⟩
    refine evma_cons ev_make ?_
    rintro _ μ3 ⟨T1, d1, x1, rfl, w1, c1, hd1⟩
    exact evma_nil ⟨T0, d0, x0, T1, d1, x1, rfl, w0.chg c1, w1, ne_none w0.2 hd1⟩
  · rintro _ μ2 ⟨T0, d0, x0, T1, d1, x1, rfl, w⟩
    exact ⟨by show 2 ≤ 100000; decide, T0, d0, x0, T1, d1, x1, rfl, w⟩
  rintro _ μ2 ⟨T0, d0, x0, T1, d1, x1, rfl, w0, w1, hdd⟩
  -- the rows
  refine stM_seq (stM_set (P := fun d' μ' => ∃ r0 r1, d' = .lst [.obj (.ref r0), .obj (.ref r1)] ∧ Chg μ2 μ' [] ∧ μ' r0 = some (.lst []) ∧ μ' r1 = some (.lst []) ∧ r0 ≠ r1) (evm_lstA (PA := fun ds' μ' => ∃ r0 r1, ds' = [.obj (.ref r0), .obj (.ref r1)] ∧ Chg μ2 μ' [] ∧ μ' r0 = some (.lst []) ∧ μ' r1 = some (.lst []) ∧ r0 ≠ r1) (evma_cons (evm_fresh (View.refl _ _) (fun b' => evf_nil) rfl) ?_) ?_) ?_)
  · rintro _ _ ⟨r0, h0, rfl, rfl⟩
    refine evma_cons (evm_fresh (View.refl _ _) (fun b' => evf_nil) rfl) ?_
    rintro _ _ ⟨r1, h1, rfl, rfl⟩
    have ne : r0 ≠ r1 := ne_none updM_same h1
    exact evma_nil ⟨r0, r1, rfl, (Chg.new h0).trans (Chg.new h1), by rw [updM_ne ne, updM_same], updM_same, ne⟩
  · rintro _ μ3 ⟨r0, r1, rfl, w⟩
    exact ⟨by show 2 ≤ 100000; decide, r0, r1, rfl, w⟩
  rintro _ μ3 ⟨r0, r1, rfl, c3, e0, e1, hrr⟩
  replace w0 := w0.chg c3
  replace w1 := w1.chg c3
  -- the cleans
  refine stM_seq (stM_set (P := fun d' μ' => ∃ c0 c1, d' = .lst [.obj (.ref c0), .obj (.ref c1)] ∧ Chg μ3 μ' [] ∧ μ' c0 = some (.lst [.int 0]) ∧ μ' c1 = some (.lst [.int 0]) ∧ c0 ≠ c1 ∧ μ3 c0 = none ∧ μ3 c1 = none) (evm_lstA (PA := fun ds' μ' => ∃ c0 c1, ds' = [.obj (.ref c0), .obj (.ref c1)] ∧ Chg μ3 μ' [] ∧ μ' c0 = some (.lst [.int 0]) ∧ μ' c1 = some (.lst [.int 0]) ∧ c0 ≠ c1 ∧ μ3 c0 = none ∧ μ3 c1 = none) (evma_cons (evm_fresh (View.refl _ _) (fun b' => evf_lst (eva_cons evd_int eva_nil) (by show 1 ≤ 100000; decide)) rfl) ?_) ?_) ?_)
  · rintro _ _ ⟨c0, h0, rfl, rfl⟩
    refine evma_cons (evm_fresh (View.refl _ _) (fun b' => evf_lst (eva_cons evd_int eva_nil) (by show 1 ≤ 100000; decide)) rfl) ?_
    rintro _ _ ⟨c1, h1, rfl, rfl⟩
    have ne : c0 ≠ c1 := ne_none updM_same h1
    exact evma_nil ⟨c0, c1, rfl, (Chg.new h0).trans (Chg.new h1), by rw [updM_ne ne, updM_same], updM_same, ne, h0, (Chg.new h0).none_of h1⟩
  · rintro _ μ4 ⟨c0, c1, rfl, w⟩
    exact ⟨by show 2 ≤ 100000; decide, c0, c1, rfl, w⟩
  rintro _ μ4 ⟨c0, c1, rfl, c4, f0, f1, hcc, n0, n1⟩
  have rc0 : r0 ≠ c0 := ne_none e0 n0
  have rc1 : r0 ≠ c1 := ne_none e0 n1
  have rc2 : r1 ≠ c0 := ne_none e1 n0
  have rc3 : r1 ≠ c1 := ne_none e1 n1
  replace w0 := w0.chg c4
  replace w1 := w1.chg c4
  replace e0 := c4.at e0
  replace e1 := c4.at e1
  -- what is held
  refine stM_seq (stM_set (evm_fresh (View.refl _ _) (fun b' => evf_nil) rfl) ?_)
  rintro _ _ ⟨h, hh, rfl, rfl⟩
  have c5 : Chg μ4 (updM μ4 h (.lst [])) [] := Chg.new hh
  have okE : KOk [] := ⟨List.Pairwise.nil, (fun p hp => nomatch hp), (fun p hp => nomatch hp), by decide⟩
  have start : LI K (updM μ4 h (.lst [])) ⟨T0, d0, x0, r0, c0⟩ ⟨T1, d1, x1, r1, c1⟩ h [] :=
    ⟨⟨[], 0, ⟨w0.chg c5, c5.at e0, c5.at f0, rc0, Nat.le_refl _, fun i hi => absurd hi (Nat.not_lt_zero _), okE⟩, by decide⟩, ⟨[], 0, ⟨w1.chg c5, c5.at e1, c5.at f1, rc3, Nat.le_refl _, fun i hi => absurd hi (Nat.not_lt_zero _), okE⟩, by decide⟩,
     ⟨updM_same, (ne_none e0 hh).symm, (ne_none f0 hh).symm⟩, ⟨updM_same, (ne_none e1 hh).symm, (ne_none f1 hh).symm⟩, (fun x hx => nomatch hx), hdd, hrr, rc1, rc2.symm, hcc⟩
  generalize updM μ4 h (.lst []) = μ5 at start
  -- the deeds
  refine stM_seq (stM_for (xs := cutI ns 3 63) D.int (js := [6]) (f := fun x r => r.set 6 (some (.dat x))) (fun b' => src_seqL (d := .lst ((cutI ns 3 63).map D.int)) (evd_is (evd_f (evf_sl (d := .fro (ns.map D.int)) (evd_var rfl) rfl (evo_some (i := ((3 : Nat) : Int)) evd_int) (evo_some (i := ((63 : Nat) : Int)) evd_int))) (congrArg D.lst (cut_ints ns 3 63))) rfl) (fun _ _ => gt_name)
    (fun i ρ μ' => ∃ hs y6 y7, ρ = [some (.dat (.fro (ns.map D.int))), some (.dat (.lst ((namesF cc).map D.str))), some (.dat (.lst [.obj (.ref T0), .obj (.ref T1)])), some (.dat (.lst [.obj (.ref r0), .obj (.ref r1)])), some (.dat (.lst [.obj (.ref c0), .obj (.ref c1)])), some (.dat (.obj (.ref h))), y6, y7, none, none, none] ∧ LI K μ' ⟨T0, d0, x0, r0, c0⟩ ⟨T1, d1, x1, r1, c1⟩ h hs ∧ hs.length ≤ i) ⟨[], none, none, rfl, start, Nat.le_refl _⟩ (fun _ _ _ _ _ _ h => noOwn_set h) ?_ ?_)
  · rintro s i cell _ μ6 hx ⟨hs, y6, y7, rfl, L, hl⟩
    have hi := (List.getElem?_eq_some_iff.mp hx).1
    rw [cutI_len] at hi
    refine stM_seq (stM_setP (d := .int (if decide (cell * 40692 % 2147483399 / 1024 % 4 = 0) = true then 1 else 0)) (evp_of fun b' => evd_cb (ds := [.bl (decide (cell * 40692 % 2147483399 / 1024 % 4 = 0))]) (eva_cons (by wtm_at "ev") eva_nil) cd_intB) ?_)
    have deed : ∀ {b : BM} {ρ : Rho} {t0 t1 t2 : TE} (A B : Ad), LI K μ6 A B h hs → (∀ b', EvD K b' t0 ρ (.obj (.ref A.T))) → (∀ b', EvD K b' t1 ρ (.obj (.ref A.r))) → (∀ b', EvD K b' t2 ρ (.obj (.ref A.c))) → ρ[1]? = some (some (.dat (.lst ((namesF cc).map D.str)))) → ρ[6]? = some (some (.dat (.int cell))) → ρ[0]? = some (some (.dat (.fro (ns.map D.int)))) → ρ[5]? = some (some (.dat (.obj (.ref h)))) →
        EvMB K b ρ μ6 (tNot (tB (tCall (spM K (R_l_done K)) [] E0 (tCons t0 (tCons t1 (tCons t2 (tCons (tVar 1) (tCons (tVar 6) (tCons (tVar 0) (tCons (tVar 5) tNil)))))))))) (fun c' μ' => c' = false ∧ ∃ hs', hs'.length ≤ 1 ∧ LI K μ' A B h (hs ++ hs')) := fun A B L a0 a1 a2 b1 b6 b0 b5 => by
      obtain ⟨kvs, n, I, hk⟩ := L.t0
      exact evmb_nt (evm_call (X := fun _ _ _ => False) (evpa_cons (evp_of a0) (evpa_cons (evp_of a1) (evpa_cons (evp_of a2) (evpa_cons (evp_var b1) (evpa_cons (evp_var b6) (evpa_cons (evp_var b0) (evpa_cons (evp_var b5) evpa_nil))))))) ⟨A.T, A.d, A.x, A.r, A.c, h, kvs, n, cell, ns, namesF cc, hs, rfl, I, hk, L.h0, by omega, by omega, by omega, so, fun kvs' n' hs' μ' I' k1 k2 k3 k4 k5 => ⟨rfl, hs', k2, L.up I' k1 k4 k5 k3⟩⟩ fun _ _ _ _ _ z => z.elim)
    generalize decide (cell * 40692 % 2147483399 / 1024 % 4 = 0) = at'
    cases at' with
    | false =>
      refine stM_ifM (deed ⟨T0, d0, x0, r0, c0⟩ ⟨T1, d1, x1, r1, c1⟩ L (fun b' => evd_op (d := .lst [.obj (.ref T0), .obj (.ref T1)]) (e := .int 0) (evd_var rfl) (evd_var rfl) (rd_ix rfl rfl)) (fun b' => evd_op (d := .lst [.obj (.ref r0), .obj (.ref r1)]) (e := .int 0) (evd_var rfl) (evd_var rfl) (rd_ix rfl rfl)) (fun b' => evd_op (d := .lst [.obj (.ref c0), .obj (.ref c1)]) (e := .int 0) (evd_var rfl) (evd_var rfl) (rd_ix rfl rfl)) rfl rfl rfl rfl) (fun μ' z => nomatch z.1) ?_
      rintro μ7 ⟨_, hs', l1, L'⟩
      exact stM_next ⟨hs ++ hs', _, _, rfl, L', by rw [List.length_append]; omega⟩
    | true =>
      refine stM_ifM (deed ⟨T1, d1, x1, r1, c1⟩ ⟨T0, d0, x0, r0, c0⟩ L.swap (fun b' => evd_op (d := .lst [.obj (.ref T0), .obj (.ref T1)]) (e := .int 1) (evd_var rfl) (evd_var rfl) (rd_ix rfl rfl)) (fun b' => evd_op (d := .lst [.obj (.ref r0), .obj (.ref r1)]) (e := .int 1) (evd_var rfl) (evd_var rfl) (rd_ix rfl rfl)) (fun b' => evd_op (d := .lst [.obj (.ref c0), .obj (.ref c1)]) (e := .int 1) (evd_var rfl) (evd_var rfl) (rd_ix rfl rfl)) rfl rfl rfl rfl) (fun μ' z => nomatch z.1) ?_
      rintro μ7 ⟨_, hs', l1, L'⟩
      exact stM_next ⟨hs ++ hs', _, _, rfl, L'.swap, by rw [List.length_append]; omega⟩
  rintro _ μ6 ⟨hs, y6, y7, rfl, L, hl⟩
  have hl60 : hs.length ≤ 60 := by
    rw [cutI_len] at hl
    omega
  refine stM_seq (stM_setP (d := .int (cellZ ns 2 / 2 % (2 * 10 ^ (18 : Int).toNat + 1) - 10 ^ (18 : Int).toNat)) (evp_of fun b' => by wtm_at "ev") ?_)
  generalize cellZ ns 2 / 2 % (2 * 10 ^ (18 : Int).toNat + 1) - 10 ^ (18 : Int).toNat = beg
  -- made good, in both
  refine stM_seq (stM_for (xs := List.range 2) (fun i : Nat => D.int (i : Int)) (js := [7]) (f := fun x r => r.set 7 (some (.dat x))) (fun b' => src_rng1 (n := 2) (eva_cons evd_int eva_nil) (by decide) (by decide)) (fun _ _ => gt_name)
    (fun i ρ μ' => ∃ hs y7, ρ = [some (.dat (.fro (ns.map D.int))), some (.dat (.lst ((namesF cc).map D.str))), some (.dat (.lst [.obj (.ref T0), .obj (.ref T1)])), some (.dat (.lst [.obj (.ref r0), .obj (.ref r1)])), some (.dat (.lst [.obj (.ref c0), .obj (.ref c1)])), some (.dat (.obj (.ref h))), y6, y7, some (.dat (.int beg)), none, none] ∧ μ' h = some (.lst hs) ∧ (∀ x ∈ hs, HOk x) ∧ hs.length ≤ 60 + 2 * i ∧ (i = 0 → LI K μ' ⟨T0, d0, x0, r0, c0⟩ ⟨T1, d1, x1, r1, c1⟩ h hs) ∧ (i = 1 → (∃ kvs n, TI K μ' T1 d1 x1 r1 c1 kvs n ∧ kvs.length ≤ 12) ∧ HI μ' r1 c1 h hs)) ⟨hs, y7, rfl, L.h0.hh, L.ho, hl60, fun _ => L, fun z => nomatch z⟩ (fun _ _ _ _ _ _ h => noOwn_set h) ?_ ?_)
  · rintro s i k _ μ7 hx ⟨hs, y7, rfl, hh, ho, hl, l0, l1⟩
    have good : ∀ {b : BM} {ρ : Rho} {t0 t1 t2 : TE} (A : Ad), (∃ kvs n, TIa K μ7 A kvs n ∧ kvs.length ≤ 12) → HI μ7 A.r A.c h hs → (∀ b', EvD K b' t0 ρ (.obj (.ref A.T))) → (∀ b', EvD K b' t1 ρ (.obj (.ref A.r))) → (∀ b', EvD K b' t2 ρ (.obj (.ref A.c))) → ρ[1]? = some (some (.dat (.lst ((namesF cc).map D.str)))) → ρ[8]? = some (some (.dat (.int beg))) → ρ[5]? = some (some (.dat (.obj (.ref h)))) → hs.length ≤ 900 →
        EvMB K b ρ μ7 (tNot (tB (tCall (spM K (R_l_made_good K)) [] E0 (tCons t0 (tCons t1 (tCons t2 (tCons (tVar 1) (tCons (tVar 8) (tCons (tVar 5) tNil))))))))) (fun c' μ' => c' = false ∧ ∃ hs', hs'.length ≤ 2 ∧ (∀ x ∈ hs', HOk x) ∧ Chg μ7 μ' [A.d, A.r, A.c, h] ∧ μ' h = some (.lst (hs ++ hs'))) := fun A I Hh a0 a1 a2 b1 b8 b5 hl9 => by
      obtain ⟨kvs, n, I, hk⟩ := I
      exact evmb_nt (evm_call (X := fun _ _ _ => False) (evpa_cons (evp_of a0) (evpa_cons (evp_of a1) (evpa_cons (evp_of a2) (evpa_cons (evp_var b1) (evpa_cons (evp_var b8) (evpa_cons (evp_var b5) evpa_nil)))))) ⟨A.T, A.d, A.x, A.r, A.c, h, kvs, n, beg, cc, hs, rfl, I, hk, Hh, hl9, fun hs' μ' k2 k3 k4 k5 => ⟨rfl, hs', k2, k3, k4, k5⟩⟩ fun _ _ _ _ _ z => z.elim)
    have hk := List.getElem?_eq_some_iff.mp hx
    obtain ⟨hi, ek⟩ := hk
    rw [List.length_range] at hi
    rw [List.getElem_range] at ek
    subst ek
    have app : ∀ hs' : List D, (∀ x ∈ hs', HOk x) → ∀ x ∈ hs ++ hs', HOk x := fun hs' h' x hx => by
      rcases List.mem_append.mp hx with q | q
      · exact ho x q
      · exact h' x q
    rcases Nat.lt_or_ge i 1 with z | z
    · have e : i = 0 := by omega
      subst e
      have L := l0 rfl
      refine stM_ifM (good ⟨T0, d0, x0, r0, c0⟩ L.t0 L.h0 (fun b' => evd_op (d := .lst [.obj (.ref T0), .obj (.ref T1)]) (e := .int 0) (evd_var rfl) (evd_var rfl) (rd_ix rfl rfl)) (fun b' => evd_op (d := .lst [.obj (.ref r0), .obj (.ref r1)]) (e := .int 0) (evd_var rfl) (evd_var rfl) (rd_ix rfl rfl)) (fun b' => evd_op (d := .lst [.obj (.ref c0), .obj (.ref c1)]) (e := .int 0) (evd_var rfl) (evd_var rfl) (rd_ix rfl rfl)) rfl rfl rfl (by omega)) (fun μ' z => nomatch z.1) ?_
      rintro μ8 ⟨_, hs', k1, k2, k3, k4⟩
      exact stM_next ⟨hs ++ hs', _, rfl, k4, app hs' k2, by rw [List.length_append]; omega, (fun z => nomatch z), fun _ => ⟨L.other k3, k4, L.h1.hr, L.h1.hc⟩⟩
    · have e : i = 1 := by omega
      subst e
      obtain ⟨I, Hh⟩ := l1 rfl
      refine stM_ifM (good ⟨T1, d1, x1, r1, c1⟩ I Hh (fun b' => evd_op (d := .lst [.obj (.ref T0), .obj (.ref T1)]) (e := .int 1) (evd_var rfl) (evd_var rfl) (rd_ix rfl rfl)) (fun b' => evd_op (d := .lst [.obj (.ref r0), .obj (.ref r1)]) (e := .int 1) (evd_var rfl) (evd_var rfl) (rd_ix rfl rfl)) (fun b' => evd_op (d := .lst [.obj (.ref c0), .obj (.ref c1)]) (e := .int 1) (evd_var rfl) (evd_var rfl) (rd_ix rfl rfl)) rfl rfl rfl (by omega)) (fun μ' z => nomatch z.1) ?_
      rintro μ8 ⟨_, hs', k1, k2, k3, k4⟩
      exact stM_next ⟨hs ++ hs', _, rfl, k4, app hs' k2, by rw [List.length_append]; omega, (fun z => nomatch z), fun z => nomatch z⟩
  rintro _ μ7 ⟨hs, y7, rfl, hh, ho, _⟩
  -- what was held is as it was
  refine stM_seq (stM_look (.keep (.keep (.keep (.keep (.keep (.look hh (View.refl _ _))))))) fun b' => ?_)
  refine st_for (ds := hs) (js := [9, 10]) (f := tupF 9 10) (src_seqL (d := .lsa h hs) (evd_var rfl) rfl) (fun x hx => ?_) (fun i rr => ∃ y9 y10, rr = [some (.dat (.fro (ns.map D.int))), some (.dat (.lst ((namesF cc).map D.str))), some (.dat (.lst [.obj (.ref T0), .obj (.ref T1)])), some (.dat (.lst [.obj (.ref r0), .obj (.ref r1)])), some (.dat (.lst [.obj (.ref c0), .obj (.ref c1)])), some (.dat (.lsa h hs)), y6, y7, some (.dat (.int beg)), y9, y10]) ⟨none, none, rfl⟩ ?_ ?_
  · obtain ⟨es, rfl, _⟩ := ho x hx
    exact gt_tup2
  · rintro s i x _ hx ⟨y9, y10, rfl⟩
    obtain ⟨es, rfl, hq⟩ := ho x (List.mem_of_getElem? hx)
    exact st_if (c := false) (evb_test (evd_op (d := .lst es) (e := .lst es) (evd_var rfl) (evd_var rfl) (rd_sameN hq (by decide) hq (by decide) rfl))) (fun z => nomatch z) fun _ => st_next ⟨_, _, rfl⟩
  rintro _ ⟨y9, y10, rfl⟩
  refine ⟨_, .drop (.drop (.drop (.drop (.drop (.ref (.drop (.drop (.drop (.drop (.drop .nil)))))))))), ?_⟩
  exact stM_retP (d := .bl true) evp_bl (hP _)

section
variable {P : Program} {w : World} {K : PySem.W.Frag} {mg : Str → Option Value} {base h : Heap}
theorem c_C_init (X : K.In h) (G : h.Ns mainGlobals mg) (c : He.SaysD fa fn K) (xx : exK K = true)  : CalCl P w K mg base 1 (He.ga K "Clash") ["self", "first", "second", "divisor"] (spM K (R_C_init K)) := by
  obtain ⟨fd, F⟩ := c.def_ 0 (d := d_C_init) rfl
  have cl := exK_cl xx
  refine ⟨⟨He.fAd K ("Clash", some "__init__"), fd, cl.o, cl.i, cl.t, FunD.ok F sc_C_init (spM_len len_C_init) fun cdv A outer s H vs Q E hr hsp => ⟨t_C_init K E, ?_, body_pureM (N := ["self", "first", "second", "divisor"]) (body_C_init xx) rfl vs H Q E hsp⟩, FunD.bindsN F fun _ _ _ _ _ _ us hl => match us, hl with | [_, _, _, _], _ => rfl⟩⟩
  exact PSs.nox (pss_cons (ps_ost (pv 0) (pv 1))
      (pss_cons (ps_ost (pv 0) (pv 2))
      (pss_one (ps_ost (pv 0) (pv 3)))))
theorem c_beat (X : K.In h) (G : h.Ns mainGlobals mg) (c : He.SaysD fa fn K) (xx : exK K = true)  : Cal P w K mg base 1 "beat" ["first", "gap"] (spD K (R_beat K)) := by
  obtain ⟨fd, F⟩ := c.def_ 1 (d := d_beat) rfl
  have g0 := He.glo_ok X G (c.fact 1 (f := .glo "beat") rfl)
  have e_NoBeat := excC X G (c.fact 43 (f := .glo "NoBeat") rfl) (c.fact 44 (f := .exc "NoBeat") rfl)
  refine Cal.mk' (f := He.fAd K ("beat", none)) (fd := fd) g0 F.kp (FunD.bindsN F fun _ _ _ _ _ _ us hl => match us, hl with | [_, _], _ => rfl) (FunD.ok F sc_beat (spD_len len_beat) fun cdv A outer s H vs Q E hr hsp => ⟨t_beat K E, ?_, body_pure (N := ["first", "gap"]) body_beat rfl vs H Q E hsp⟩)
  exact (pss_cons (ps_if (pt_cmpR op_lt (pv 1) pe_int (nomark _)) (pss_one (ps_raiseC e_NoBeat rfl (takes_of rfl rfl rfl rfl) (by rfl))) pss_nil)
      (pss_one (ps_ret (pe_tup (pa_cons (pe_op op_mod (pv 0) (pv 1)) (pa_cons (pv 1) pa_nil))))))
theorem c_rings (X : K.In h) (G : h.Ns mainGlobals mg) (c : He.SaysD fa fn K) (xx : exK K = true)  : Cal P w K mg base 1 "rings" ["one", "moment"] (spD K R_rings) := by
  obtain ⟨fd, F⟩ := c.def_ 2 (d := d_rings) rfl
  have g0 := He.glo_ok X G (c.fact 2 (f := .glo "rings") rfl)
  refine Cal.mk' (f := He.fAd K ("rings", none)) (fd := fd) g0 F.kp (FunD.bindsN F fun _ _ _ _ _ _ us hl => match us, hl with | [_, _], _ => rfl) (FunD.ok F sc_rings (spD_len len_rings) fun cdv A outer s H vs Q E hr hsp => ⟨t_rings K E, ?_, body_pure (N := ["one", "moment"]) body_rings rfl vs H Q E hsp⟩)
  exact PSs.nox (pss_one (ps_ret (pe_cmpR (op_eqA hr.units) (pe_op op_mod (pv 1) (pe_ix ix_seq (pv 0) pe_int (fun _ _ => rfl))) (pe_ix ix_seq (pv 0) pe_int (fun _ _ => rfl)) (nomark _))))
theorem c_next_from (X : K.In h) (G : h.Ns mainGlobals mg) (c : He.SaysD fa fn K) (xx : exK K = true)  : Cal P w K mg base 1 "next_from" ["one", "moment"] (spD K R_next_from) := by
  obtain ⟨fd, F⟩ := c.def_ 3 (d := d_next_from) rfl
  have g0 := He.glo_ok X G (c.fact 3 (f := .glo "next_from") rfl)
  refine Cal.mk' (f := He.fAd K ("next_from", none)) (fd := fd) g0 F.kp (FunD.bindsN F fun _ _ _ _ _ _ us hl => match us, hl with | [_, _], _ => rfl) (FunD.ok F sc_next_from (spD_len len_next_from) fun cdv A outer s H vs Q E hr hsp => ⟨t_next_from K E, ?_, body_pure (N := ["one", "moment"]) body_next_from rfl vs H Q E hsp⟩)
  exact PSs.nox (pss_one (ps_ret (pe_op op_addA (pv 1) (pe_op op_mod (pe_op op_sub (pe_ix ix_seq (pv 0) pe_int (fun _ _ => rfl)) (pv 1)) (pe_ix ix_seq (pv 0) pe_int (fun _ _ => rfl))))))
theorem c_weights (X : K.In h) (G : h.Ns mainGlobals mg) (c : He.SaysD fa fn K) (xx : exK K = true)  : Cal P w K mg base 1 "weights" ["one", "other"] (spD K R_weights) := by
  obtain ⟨fd, F⟩ := c.def_ 4 (d := d_weights) rfl
  have g0 := He.glo_ok X G (c.fact 4 (f := .glo "weights") rfl)
  refine Cal.mk' (f := He.fAd K ("weights", none)) (fd := fd) g0 F.kp (FunD.bindsN F fun _ _ _ _ _ _ us hl => match us, hl with | [_, _], _ => rfl) (FunD.ok F sc_weights (spD_len len_weights) fun cdv A outer s H vs Q E hr hsp => ⟨t_weights K E, ?_, body_pure (N := ["one", "other", "here", "u", "v", "there", "other_u", "other_v", "by"]) body_weights rfl vs H Q E hsp⟩)
  exact PSs.nox (pss_cons (ps_set (i := 2) sc_weights.nd rfl (.inl rfl) (pv 0))
      (pss_cons (ps_set (i := 3) sc_weights.nd rfl (.inl rfl) pe_int)
      (pss_cons (ps_set (i := 4) sc_weights.nd rfl (.inl rfl) pe_int)
      (pss_cons (ps_set (i := 5) sc_weights.nd rfl (.inl rfl) (pv 1))
      (pss_cons (ps_set (i := 6) sc_weights.nd rfl (.inl rfl) pe_int)
      (pss_cons (ps_set (i := 7) sc_weights.nd rfl (.inl rfl) pe_int)
      (pss_cons (ps_while PassesOwn.never (pt_cmpR (op_neA hr.units) (pv 5) pe_int (nomark _)) (pss_cons (ps_set (i := 8) sc_weights.nd rfl (.inl rfl) (pe_op op_divI (pv 2) (pv 5)))
      (pss_cons (ps_par (i := 2) (j := 5) rfl sc_weights.nd rfl rfl (by decide) rfl rfl (pa_cons (pv 5) (pa_cons (pe_op op_sub (pv 2) (pe_op op_mulI (pv 8) (pv 5))) pa_nil)) (by rfl))
      (pss_cons (ps_par (i := 3) (j := 6) rfl sc_weights.nd rfl rfl (by decide) rfl rfl (pa_cons (pv 6) (pa_cons (pe_op op_sub (pv 3) (pe_op op_mulI (pv 8) (pv 6))) pa_nil)) (by rfl))
      (pss_one (ps_par (i := 4) (j := 7) rfl sc_weights.nd rfl rfl (by decide) rfl rfl (pa_cons (pv 7) (pa_cons (pe_op op_sub (pv 4) (pe_op op_mulI (pv 8) (pv 7))) pa_nil)) (by rfl)))))))
      (pss_cons (ps_if (pt_cmpR op_lt (pv 2) pe_int (nomark _)) (pss_one (ps_ret (pe_tup (pa_cons (pe_op op_sub pe_int (pv 2)) (pa_cons (pe_op op_sub pe_int (pv 3)) (pa_cons (pe_op op_sub pe_int (pv 4)) pa_nil)))))) pss_nil)
      (pss_one (ps_ret (pe_tup (pa_cons (pv 2) (pa_cons (pv 3) (pa_cons (pv 4) pa_nil))))))))))))))
theorem c_clash (X : K.In h) (G : h.Ns mainGlobals mg) (c : He.SaysD fa fn K) (xx : exK K = true) (C_weights : Cal P w K mg base 1 "weights" ["one", "other"] (spD K R_weights)) : Cal P w K mg base 2 "clash" ["one", "other"] (spD K R_clash) := by
  obtain ⟨fd, F⟩ := c.def_ 5 (d := d_clash) rfl
  have g0 := He.glo_ok X G (c.fact 5 (f := .glo "clash") rfl)
  refine Cal.mk' (f := He.fAd K ("clash", none)) (fd := fd) g0 F.kp (FunD.bindsN F fun _ _ _ _ _ _ us hl => match us, hl with | [_, _], _ => rfl) (FunD.ok F sc_clash (spD_len len_clash) fun cdv A outer s H vs Q E hr hsp => ⟨t_clash K E, ?_, body_pure (N := ["one", "other", "divisor"]) body_clash rfl vs H Q E hsp⟩)
  exact PSs.nox (pss_cons (ps_set (i := 2) sc_clash.nd rfl (.inl rfl) (pe_ix ix_seq (pe_callC C_weights (hr.mono (by decide)) (by rfl) (pa_cons (pe_ix ix_seq (pv 0) pe_int (fun _ _ => rfl)) (pa_cons (pe_ix ix_seq (pv 1) pe_int (fun _ _ => rfl)) pa_nil))) pe_int (fun _ _ => rfl)))
      (pss_cons (ps_if (pt_cmpR (op_eqA hr.units) (pe_op op_mod (pe_op op_sub (pe_ix ix_seq (pv 1) pe_int (fun _ _ => rfl)) (pe_ix ix_seq (pv 0) pe_int (fun _ _ => rfl))) (pv 2)) pe_int (nomark _)) (pss_one (ps_ret pe_non)) pss_nil)
      (pss_one (ps_ret (pv 2)))))
theorem c_met (X : K.In h) (G : h.Ns mainGlobals mg) (c : He.SaysD fa fn K) (xx : exK K = true) (C_clash : Cal P w K mg base 2 "clash" ["one", "other"] (spD K R_clash)) (C_weights : Cal P w K mg base 1 "weights" ["one", "other"] (spD K R_weights)) (C_beat : Cal P w K mg base 1 "beat" ["first", "gap"] (spD K (R_beat K))) : Cal P w K mg base 3 "met" ["one", "other"] (spD K R_met) := by
  obtain ⟨fd, F⟩ := c.def_ 6 (d := d_met) rfl
  have g0 := He.glo_ok X G (c.fact 6 (f := .glo "met") rfl)
  refine Cal.mk' (f := He.fAd K ("met", none)) (fd := fd) g0 F.kp (FunD.bindsN F fun _ _ _ _ _ _ us hl => match us, hl with | [_, _], _ => rfl) (FunD.ok F sc_met (spD_len len_met) fun cdv A outer s H vs Q E hr hsp => ⟨t_met K E, ?_, body_pure (N := ["one", "other", "divisor", "u", "v", "first"]) body_met rfl vs H Q E hsp⟩)
  exact PSs.nox (pss_cons (ps_if (pt_cmp (pc_notN (pe_callC C_clash (hr.mono (by decide)) (by rfl) (pa_cons (pv 0) (pa_cons (pv 1) pa_nil))))) (pss_one (ps_ret pe_non)) pss_nil)
      (pss_cons (ps_asg (pe_callC C_weights (hr.mono (by decide)) (by rfl) (pa_cons (pe_ix ix_seq (pv 0) pe_int (fun _ _ => rfl)) (pa_cons (pe_ix ix_seq (pv 1) pe_int (fun _ _ => rfl)) pa_nil))) (pg_tup rfl (pgs_cons (pg_name (i := 2) sc_met.nd rfl (.inl rfl)) (pgs_cons (pg_name (i := 3) sc_met.nd rfl (.inl rfl)) (pgs_cons (pg_name (i := 4) sc_met.nd rfl (.inl rfl)) pgs_nil)))))
      (pss_cons (ps_set (i := 5) sc_met.nd rfl (.inl rfl) (pe_op op_addA (pe_ix ix_seq (pv 0) pe_int (fun _ _ => rfl)) (pe_op op_mulI (pe_op op_mulI (pe_op op_divI (pe_op op_sub (pe_ix ix_seq (pv 1) pe_int (fun _ _ => rfl)) (pe_ix ix_seq (pv 0) pe_int (fun _ _ => rfl))) (pv 2)) (pv 3)) (pe_ix ix_seq (pv 0) pe_int (fun _ _ => rfl)))))
      (pss_one (ps_ret (pe_callC C_beat (hr.mono (by decide)) (by rfl) (pa_cons (pv 5) (pa_cons (pe_op op_mulI (pe_op op_divI (pe_ix ix_seq (pv 0) pe_int (fun _ _ => rfl)) (pv 2)) (pe_ix ix_seq (pv 1) pe_int (fun _ _ => rfl))) pa_nil))))))))
theorem c_smaller (X : K.In h) (G : h.Ns mainGlobals mg) (c : He.SaysD fa fn K) (xx : exK K = true)  : Cal P w K mg base 1 "smaller" ["parts", "beats", "gap"] (spD K R_smaller) := by
  obtain ⟨fd, F⟩ := c.def_ 7 (d := d_smaller) rfl
  have g0 := He.glo_ok X G (c.fact 7 (f := .glo "smaller") rfl)
  have z_sum := He.free_ok X G (c.fact 45 (f := .free "sum") rfl)
  have z_zip := He.free_ok X G (c.fact 46 (f := .free "zip") rfl)
  refine Cal.mk' (f := He.fAd K ("smaller", none)) (fd := fd) g0 F.kp (FunD.bindsN F fun _ _ _ _ _ _ us hl => match us, hl with | [_, _, _], _ => rfl) (FunD.ok F sc_smaller (spD_len len_smaller) fun cdv A outer s H vs Q E hr hsp => ⟨t_smaller K E, ?_, body_pure (N := ["parts", "beats", "gap", "small", "total", "part", "one"]) body_smaller rfl vs H Q E hsp⟩)
  exact PSs.nox (pss_cons (ps_setLcV (i := 3) [("part", 5), ("one", 6)] [5, 6] rfl rfl sc_smaller.nd rfl rfl (sw_true rfl rfl rfl (by decide +kernel)) (pi_zip (by rfl) z_zip (pa_cons (pv 0) (pa_cons (pv 1) pa_nil))) (blkOk_by (own := [("part", 5), ("one", 6)]) (N := ["parts", "beats", "gap", "small", "total", "part", "one"]) (sc := defScope s_smaller) (by decide +kernel)) (fun _ _ _ _ _ => (pg_tup rfl (pgs_cons (pg_name (i := 5) sc_smaller.nd rfl (by first | exact .inl rfl | exact .inr rfl)) (pgs_cons (pg_name (i := 6) sc_smaller.nd rfl (by first | exact .inl rfl | exact .inr rfl)) pgs_nil)))) (fun _ _ _ _ _ => pts_nil) (fun _ _ _ _ _ => (pe_op op_mod (pv 5) (pe_ix ix_seq (pv 6) pe_int (fun _ _ => rfl)))))
      (pss_cons (ps_set (i := 4) sc_smaller.nd rfl (.inl rfl) (pe_callB (cr_sum rfl) (by rfl) z_sum (by decide +kernel) (pa_cons (pe_lcV [("part", 5), ("one", 6)] [5, 6] rfl rfl sc_smaller.nd (pi_zip (by rfl) z_zip (pa_cons (pv 3) (pa_cons (pv 1) pa_nil))) (blkOk_by (own := [("part", 5), ("one", 6)]) (N := ["parts", "beats", "gap", "small", "total", "part", "one"]) (sc := defScope s_smaller) (by decide +kernel)) (fun _ _ _ _ _ => (pg_tup rfl (pgs_cons (pg_name (i := 5) sc_smaller.nd rfl (by first | exact .inl rfl | exact .inr rfl)) (pgs_cons (pg_name (i := 6) sc_smaller.nd rfl (by first | exact .inl rfl | exact .inr rfl)) pgs_nil)))) (fun _ _ _ _ _ => pts_nil) (fun _ _ _ _ _ => (pe_op op_mulI (pv 5) (pe_op op_divI (pv 2) (pe_ix ix_seq (pv 6) pe_int (fun _ _ => rfl)))))) pa_nil)))
      (pss_cons (ps_asg (pe_op op_sub (pe_ix ix_seq (pv 3) pe_int (fun _ _ => rfl)) (pe_op op_mulI (pe_op op_divI (pe_op op_sub (pv 4) pe_int) (pv 2)) (pe_ix ix_seq (pe_ix ix_seq (pv 1) pe_int (fun _ _ => rfl)) pe_int (fun _ _ => rfl)))) (pg_sub (pv 3) pe_int set_list))
      (pss_one (ps_ret (pv 3))))))
theorem c_first_clash (X : K.In h) (G : h.Ns mainGlobals mg) (c : He.SaysD fa fn K) (xx : exK K = true) (C_clash : Cal P w K mg base 2 "clash" ["one", "other"] (spD K R_clash)) : Cal P w K mg base 3 "first_clash" ["beats", "number"] (spD K R_first_clash) := by
  obtain ⟨fd, F⟩ := c.def_ 8 (d := d_first_clash) rfl
  have g0 := He.glo_ok X G (c.fact 8 (f := .glo "first_clash") rfl)
  refine Cal.mk' (f := He.fAd K ("first_clash", none)) (fd := fd) g0 F.kp (FunD.bindsN F fun _ _ _ _ _ _ us hl => match us, hl with | [_, _], _ => rfl) (FunD.ok F sc_first_clash (spD_len len_first_clash) fun cdv A outer s H vs Q E hr hsp => ⟨t_first_clash K E, ?_, body_pure (N := ["beats", "number", "ahead"]) body_first_clash rfl vs H Q E hsp⟩)
  exact PSs.nox (pss_cons (ps_set (i := 2) sc_first_clash.nd rfl (.inl rfl) pe_int)
      (pss_cons (ps_while PassesOwn.never (pt_cmp (pc_isN (pe_callC C_clash (hr.mono (by decide)) (by rfl) (pa_cons (pe_ix ix_seq (pv 0) (pv 2) (fun _ _ => rfl)) (pa_cons (pe_ix ix_seq (pv 0) (pv 1) (fun _ _ => rfl)) pa_nil))))) (pss_one (ps_set (i := 2) sc_first_clash.nd rfl (.inl rfl) (pe_op op_addA (pv 2) pe_int))))
      (pss_one (ps_ret (pe_tup (pa_cons pe_str (pa_cons (pv 2) (pa_cons (pv 1) (pa_cons (pe_callC C_clash (hr.mono (by decide)) (by rfl) (pa_cons (pe_ix ix_seq (pv 0) (pv 2) (fun _ _ => rfl)) (pa_cons (pe_ix ix_seq (pv 0) (pv 1) (fun _ _ => rfl)) pa_nil))) pa_nil)))))))))
theorem c_together (X : K.In h) (G : h.Ns mainGlobals mg) (c : He.SaysD fa fn K) (xx : exK K = true) (C_met : Cal P w K mg base 3 "met" ["one", "other"] (spD K R_met)) (C_first_clash : Cal P w K mg base 3 "first_clash" ["beats", "number"] (spD K R_first_clash)) (C_weights : Cal P w K mg base 1 "weights" ["one", "other"] (spD K R_weights)) (C_smaller : Cal P w K mg base 1 "smaller" ["parts", "beats", "gap"] (spD K R_smaller)) : Cal P w K mg base 4 "together" ["beats"] (spD K R_together) := by
  obtain ⟨fd, F⟩ := c.def_ 9 (d := d_together) rfl
  have g0 := He.glo_ok X G (c.fact 9 (f := .glo "together") rfl)
  have z_enumerate := He.free_ok X G (c.fact 47 (f := .free "enumerate") rfl)
  refine Cal.mk' (f := He.fAd K ("together", none)) (fd := fd) g0 F.kp (FunD.bindsN F fun _ _ _ _ _ _ us hl => match us, hl with | [_], _ => rfl) (FunD.ok F sc_together (spD_len len_together) fun cdv A outer s H vs Q E hr hsp => ⟨t_together K E, ?_, body_pure (N := ["beats", "whole", "parts", "number", "one", "common", "divisor", "u", "v", "part"]) body_together rfl vs H Q E hsp⟩)
  exact PSs.nox (pss_cons (ps_set (i := 1) sc_together.nd rfl (.inl rfl) (pe_tup (pa_cons pe_int (pa_cons pe_int pa_nil))))
      (pss_cons (ps_set (i := 2) sc_together.nd rfl (.inl rfl) (pe_lst pa_nil))
      (pss_cons (ps_for PassesOwn.never rfl (pi_enum (by rfl) z_enumerate (pa_cons (pv 0) pa_nil)) (pg_tup rfl (pgs_cons (pg_name (i := 3) sc_together.nd rfl (.inl rfl)) (pgs_cons (pg_name (i := 4) sc_together.nd rfl (.inl rfl)) pgs_nil))) (pss_cons (ps_set (i := 5) sc_together.nd rfl (.inl rfl) (pe_callC C_met (hr.mono (by decide)) (by rfl) (pa_cons (pv 1) (pa_cons (pv 4) pa_nil))))
      (pss_cons (ps_if (pt_cmp (pc_isN (pv 5))) (pss_one (ps_ret (pe_callC C_first_clash (hr.mono (by decide)) (by rfl) (pa_cons (pv 0) (pa_cons (pv 3) pa_nil))))) pss_nil)
      (pss_cons (ps_asg (pe_callC C_weights (hr.mono (by decide)) (by rfl) (pa_cons (pe_ix ix_seq (pv 1) pe_int (fun _ _ => rfl)) (pa_cons (pe_ix ix_seq (pv 4) pe_int (fun _ _ => rfl)) pa_nil))) (pg_tup rfl (pgs_cons (pg_name (i := 6) sc_together.nd rfl (.inl rfl)) (pgs_cons (pg_name (i := 7) sc_together.nd rfl (.inl rfl)) (pgs_cons (pg_name (i := 8) sc_together.nd rfl (.inr rfl)) pgs_nil)))))
      (pss_cons (ps_if (pt_cmpR (op_eqA hr.units) (pv 3) pe_int (nomark _)) (pss_one (ps_set (i := 2) sc_together.nd rfl (.inl rfl) (pe_lst (pa_cons pe_int pa_nil)))) (pss_one (ps_set (i := 2) sc_together.nd rfl (.inl rfl) (pe_callC C_smaller (hr.mono (by decide)) (by rfl) (pa_cons (pe_op op_addA (pe_lcV [("part", 9)] [9] rfl rfl sc_together.nd (pi_seq (pv 2)) (blkOk_by (own := [("part", 9)]) (N := ["beats", "whole", "parts", "number", "one", "common", "divisor", "u", "v", "part"]) (sc := defScope s_together) (by decide +kernel)) (fun _ _ _ _ _ => (pg_name (i := 9) sc_together.nd rfl (by first | exact .inl rfl | exact .inr rfl))) (fun _ _ _ _ _ => pts_nil) (fun _ _ _ _ _ => (pe_op op_mulI (pv 9) (pv 8)))) (pe_lst (pa_cons (pv 7) pa_nil))) (pa_cons (pv 0) (pa_cons (pe_ix ix_seq (pv 5) pe_int (fun _ _ => rfl)) pa_nil)))))))
      (pss_one (ps_set (i := 1) sc_together.nd rfl (.inl rfl) (pv 5))))))))
      (pss_one (ps_ret (pe_tup (pa_cons pe_str (pa_cons (pv 1) (pa_cons (pv 2) pa_nil)))))))))
theorem c_T_init (X : K.In h) (G : h.Ns mainGlobals mg) (c : He.SaysD fa fn K) (xx : exK K = true)  : CalMk P w K mg base 1 (He.ga K "Tower") ["self"] (spM K (R_T_init K)) := by
  obtain ⟨fd, F⟩ := c.def_ 10 (d := d_T_init) rfl
  refine ⟨⟨He.fAd K ("Tower", some "__init__"), fd, He.mkr_ok (c.fact 12 (f := .mkr "Tower") rfl), FunD.ok F sc_T_init (spM_len len_T_init) fun cdv A outer s H vs Q E hr hsp => ⟨t_T_init K E, ?_, body_pureM (N := ["self"]) (body_T_init xx) rfl vs H Q E hsp⟩, FunD.bindsN F fun _ _ _ _ _ _ us hl => match us, hl with | [_], _ => rfl⟩⟩
  exact PSs.nox (pss_one (ps_fld (pv 0) pe_dnewK rfl))
theorem c_T_hang (X : K.In h) (G : h.Ns mainGlobals mg) (c : He.SaysD fa fn K) (xx : exK K = true) (C_beat : Cal P w K mg base 1 "beat" ["first", "gap"] (spD K (R_beat K))) : CalMt P w K mg base 2 (He.ga K "Tower") "hang" ["self", "name", "first", "gap"] (spM K (R_T_hang K)) (BDf K ["self", "name", "first", "gap"] [.int 24] 3 ["gap"]) := by
  obtain ⟨fd, F⟩ := c.def_ 11 (d := d_T_hang) rfl
  have e_Twice := excC X G (c.fact 48 (f := .glo "Twice") rfl) (c.fact 49 (f := .exc "Twice") rfl)
  have b1 : Binds K fd ["self", "name", "first", "gap"] [] := by
    obtain ⟨ds, h1, h2⟩ := FunD.binds1 F (ps := ["self", "name", "first", "gap"]) 4 1 (fun z => by cases z) rfl (fun T kV doc pm an cdv ct us its h1 h2 => match us, its, h1, h2 with | [a0, a1, a2, a3], [_], _, _ => ⟨_, rfl, by first | rfl | with_unfolding_all rfl⟩)
    rwa [vals_nil h1] at h2
  have b2 : ∃ ds, Vals [.int 24] ds ∧ Binds K fd ["self", "name", "first", "gap"] ds := FunD.binds1 F (ps := ["self", "name", "first", "gap"]) 3 0 (fun z => by cases z) rfl (fun T kV doc pm an cdv ct us its h1 h2 => match us, its, h1, h2 with | [a0, a1, a2], [_], _, _ => ⟨_, rfl, by first | rfl | with_unfolding_all rfl⟩)
  have b3 : ∃ g, KBn K fd ["self", "name", "first", "gap"] 3 ["gap"] g (fun vs zs => vs ++ zs) := by
    obtain ⟨its, h1⟩ := FunD.kbindsD F (ps := ["self", "name", "first", "gap"]) 3 ["gap"] (fun vs ds zs => vs ++ zs) (fun z => by cases z) (fun r _ z => r.append z) (fun T kV doc pm an cdv ct us its ws h1 h2 h3 => match us, its, ws, h1, h2, h3 with | [a0, a1, a2], [_], [_], _, _, _ => ⟨_, rfl, by first | rfl | with_unfolding_all rfl⟩)
    exact ⟨_, h1⟩
  refine ⟨⟨He.fAd K ("Tower", some "hang"), fd, He.cls_ok (c.fact 11 (f := .cls "Tower") rfl), He.meth_ok (c.fact 13 (f := .meth "Tower" "hang") rfl), FunD.ok F sc_T_hang (spM_len len_T_hang) fun cdv A outer s H vs Q E hr hsp => ⟨t_T_hang K E, ?_, body_pureM (N := ["self", "name", "first", "gap"]) (body_T_hang xx) rfl vs H Q E hsp⟩, ⟨b1, b2, b3⟩⟩⟩
  exact (pss_cons (ps_if (pt_cmp (pc_din (Nat.lt_of_le_of_lt (Nat.add_le_add_left (by decide) _) hr.units) (pv 1) (pe_fld (pv 0) rfl))) (pss_one (ps_raiseC e_Twice rfl (takes_of rfl rfl rfl rfl) (by rfl))) pss_nil)
      (pss_one (ps_dput (Nat.lt_of_le_of_lt (Nat.add_le_add_left (by decide) _) hr.units) (pe_fld (pv 0) rfl) (pv 1) (pe_callCX C_beat (hr.mono (by decide)) (by rfl) (takes_of rfl rfl rfl rfl) (pa_cons (pv 2) (pa_cons (pv 3) pa_nil))) rfl)))
theorem c_T_take (X : K.In h) (G : h.Ns mainGlobals mg) (c : He.SaysD fa fn K) (xx : exK K = true)  : CalMt P w K mg base 1 (He.ga K "Tower") "take" ["self", "name"] (spM K (R_T_take K)) (fun fd => Binds K fd ["self", "name"] []) := by
  obtain ⟨fd, F⟩ := c.def_ 12 (d := d_T_take) rfl
  have e_NoName := excC X G (c.fact 50 (f := .glo "NoName") rfl) (c.fact 51 (f := .exc "NoName") rfl)
  refine ⟨⟨He.fAd K ("Tower", some "take"), fd, He.cls_ok (c.fact 11 (f := .cls "Tower") rfl), He.meth_ok (c.fact 14 (f := .meth "Tower" "take") rfl), FunD.ok F sc_T_take (spM_len len_T_take) fun cdv A outer s H vs Q E hr hsp => ⟨t_T_take K E, ?_, body_pureM (N := ["self", "name"]) (body_T_take xx) rfl vs H Q E hsp⟩, FunD.bindsN F fun _ _ _ _ _ _ us hl => match us, hl with | [_, _], _ => rfl⟩⟩
  exact (pss_cons (ps_if (pt_cmp (pc_dnotin (Nat.lt_of_le_of_lt (Nat.add_le_add_left (by decide) _) hr.units) (pv 1) (pe_fld (pv 0) rfl))) (pss_one (ps_raiseC e_NoName rfl (takes_of rfl rfl rfl rfl) (by rfl))) pss_nil)
      (pss_one (ps_ret (pe_dpop1 (pe_fld (pv 0) rfl) (pv 1) ⟨rfl, rfl, rfl, rfl⟩))))
theorem c_T_bells (X : K.In h) (G : h.Ns mainGlobals mg) (c : He.SaysD fa fn K) (xx : exK K = true)  : CalMt P w K mg base 1 (He.ga K "Tower") "bells" ["self"] (spM K (R_T_bells K)) (fun fd => Binds K fd ["self"] []) := by
  obtain ⟨fd, F⟩ := c.def_ 13 (d := d_T_bells) rfl
  refine ⟨⟨He.fAd K ("Tower", some "bells"), fd, He.cls_ok (c.fact 11 (f := .cls "Tower") rfl), He.meth_ok (c.fact 15 (f := .meth "Tower" "bells") rfl), FunD.ok F sc_T_bells (spM_len len_T_bells) fun cdv A outer s H vs Q E hr hsp => ⟨t_T_bells K E, ?_, body_pureM (N := ["self", "name", "one"]) (body_T_bells xx) rfl vs H Q E hsp⟩, FunD.bindsN F fun _ _ _ _ _ _ us hl => match us, hl with | [_], _ => rfl⟩⟩
  exact PSs.nox (pss_one (ps_ret (pe_lock (pe_lcV [("name", 1), ("one", 2)] [1, 2] rfl rfl sc_T_bells.nd (pi_items (pe_fld (pv 0) rfl)) (blkOk_by (own := [("name", 1), ("one", 2)]) (N := ["self", "name", "one"]) (sc := defScope s_T_bells) (by decide +kernel)) (fun _ _ _ _ _ => (pg_tup rfl (pgs_cons (pg_name (i := 1) sc_T_bells.nd rfl (by first | exact .inl rfl | exact .inr rfl)) (pgs_cons (pg_name (i := 2) sc_T_bells.nd rfl (by first | exact .inl rfl | exact .inr rfl)) pgs_nil)))) (fun _ _ _ _ _ => pts_nil) (fun _ _ _ _ _ => (pe_tup (pa_cons (pv 1) (pa_cons (pv 2) pa_nil))))))))
theorem c_T_next_together (X : K.In h) (G : h.Ns mainGlobals mg) (c : He.SaysD fa fn K) (xx : exK K = true) (C_T_bells : CalMt P w K mg base 1 (He.ga K "Tower") "bells" ["self"] (spM K (R_T_bells K)) (fun fd => Binds K fd ["self"] [])) (C_together : Cal P w K mg base 4 "together" ["beats"] (spD K R_together)) (C_C_init : CalCl P w K mg base 1 (He.ga K "Clash") ["self", "first", "second", "divisor"] (spM K (R_C_init K))) (C_next_from : Cal P w K mg base 1 "next_from" ["one", "moment"] (spD K R_next_from)) : CalMt P w K mg base 5 (He.ga K "Tower") "next_together" ["self", "moment"] (spM K (R_T_next_together K)) (BDf K ["self", "moment"] [.int 0] 1 ["moment"]) := by
  obtain ⟨fd, F⟩ := c.def_ 14 (d := d_T_next_together) rfl
  obtain ⟨f_T_bells, fd_T_bells, c_T_bells, m_T_bells, F_T_bells, B_T_bells⟩ := C_T_bells.ex
  obtain ⟨f_C_init, fd_C_init, o_C_init, i_C_init, t_C_init, F_C_init, B_C_init⟩ := C_C_init.ex
  have g_Clash := He.glo_ok X G (c.fact 0 (f := .glo "Clash") rfl)
  have b1 : Binds K fd ["self", "moment"] [] := by
    obtain ⟨ds, h1, h2⟩ := FunD.binds1 F (ps := ["self", "moment"]) 2 1 (fun z => by cases z) rfl (fun T kV doc pm an cdv ct us its h1 h2 => match us, its, h1, h2 with | [a0, a1], [_], _, _ => ⟨_, rfl, by first | rfl | with_unfolding_all rfl⟩)
    rwa [vals_nil h1] at h2
  have b2 : ∃ ds, Vals [.int 0] ds ∧ Binds K fd ["self", "moment"] ds := FunD.binds1 F (ps := ["self", "moment"]) 1 0 (fun z => by cases z) rfl (fun T kV doc pm an cdv ct us its h1 h2 => match us, its, h1, h2 with | [a0], [_], _, _ => ⟨_, rfl, by first | rfl | with_unfolding_all rfl⟩)
  have b3 : ∃ g, KBn K fd ["self", "moment"] 1 ["moment"] g (fun vs zs => vs ++ zs) := by
    obtain ⟨its, h1⟩ := FunD.kbindsD F (ps := ["self", "moment"]) 1 ["moment"] (fun vs ds zs => vs ++ zs) (fun z => by cases z) (fun r _ z => r.append z) (fun T kV doc pm an cdv ct us its ws h1 h2 h3 => match us, its, ws, h1, h2, h3 with | [a0], [_], [_], _, _, _ => ⟨_, rfl, by first | rfl | with_unfolding_all rfl⟩)
    exact ⟨_, h1⟩
  refine ⟨⟨He.fAd K ("Tower", some "next_together"), fd, He.cls_ok (c.fact 11 (f := .cls "Tower") rfl), He.meth_ok (c.fact 16 (f := .meth "Tower" "next_together") rfl), FunD.ok F sc_T_next_together (spM_len len_T_next_together) fun cdv A outer s H vs Q E hr hsp => ⟨t_T_next_together K E, ?_, body_pureM (N := ["self", "moment", "names", "told", "name", "one"]) (body_T_next_together xx) rfl vs H Q E hsp⟩, ⟨b1, b2, b3⟩⟩⟩
  exact (pss_cons (ps_setLcV (i := 2) [("name", 4), ("one", 5)] [4, 5] rfl rfl sc_T_next_together.nd rfl rfl (sw_true rfl rfl rfl (by decide +kernel)) (pi_seq (pe_methE0 (pv 0) c_T_bells m_T_bells F_T_bells (hr.mono (by decide)) B_T_bells .nil passAtL)) (blkOk_by (own := [("name", 4), ("one", 5)]) (N := ["self", "moment", "names", "told", "name", "one"]) (sc := defScope s_T_next_together) (by decide +kernel)) (fun _ _ _ _ _ => (pg_tup rfl (pgs_cons (pg_name (i := 4) sc_T_next_together.nd rfl (by first | exact .inl rfl | exact .inr rfl)) (pgs_cons (pg_name (i := 5) sc_T_next_together.nd rfl (by first | exact .inl rfl | exact .inr rfl)) pgs_nil)))) (fun _ _ _ _ _ => pts_nil) (fun _ _ _ _ _ => (pv 4)))
      (pss_cons (ps_set (i := 3) sc_T_next_together.nd rfl (.inl rfl) (pe_callC C_together (hr.mono (by decide)) (by rfl) (pa_cons (pe_lcV [("name", 4), ("one", 5)] [4, 5] rfl rfl sc_T_next_together.nd (pi_seq (pe_methE0 (pv 0) c_T_bells m_T_bells F_T_bells (hr.mono (by decide)) B_T_bells .nil passAtL)) (blkOk_by (own := [("name", 4), ("one", 5)]) (N := ["self", "moment", "names", "told", "name", "one"]) (sc := defScope s_T_next_together) (by decide +kernel)) (fun _ _ _ _ _ => (pg_tup rfl (pgs_cons (pg_name (i := 4) sc_T_next_together.nd rfl (by first | exact .inl rfl | exact .inr rfl)) (pgs_cons (pg_name (i := 5) sc_T_next_together.nd rfl (by first | exact .inl rfl | exact .inr rfl)) pgs_nil)))) (fun _ _ _ _ _ => pts_nil) (fun _ _ _ _ _ => (pv 5))) pa_nil)))
      (pss_cons (ps_if (pt_cmpR (op_eqA hr.units) (pe_ix ix_seq (pv 3) pe_int (fun _ _ => rfl)) pe_str (nomark _)) (pss_one (ps_raise rfl (takes_of rfl rfl rfl rfl) (pmk_oex o_C_init i_C_init t_C_init F_C_init (hr.mono (by decide)) B_C_init .nil passL (by rfl) g_Clash (pa_cons (pe_ix ix_seq (pv 2) (pe_ix ix_seq (pv 3) pe_int (fun _ _ => rfl)) (fun _ _ => rfl)) (pa_cons (pe_ix ix_seq (pv 2) (pe_ix ix_seq (pv 3) pe_int (fun _ _ => rfl)) (fun _ _ => rfl)) (pa_cons (pe_ix ix_seq (pv 3) pe_int (fun _ _ => rfl)) pa_nil)))))) pss_nil)
      (pss_one (ps_ret (pe_callC C_next_from (hr.mono (by decide)) (by rfl) (pa_cons (pe_ix ix_seq (pv 3) pe_int (fun _ _ => rfl)) (pa_cons (pv 1) pa_nil))))))))
theorem c_T_next_any (X : K.In h) (G : h.Ns mainGlobals mg) (c : He.SaysD fa fn K) (xx : exK K = true) (C_T_bells : CalMt P w K mg base 1 (He.ga K "Tower") "bells" ["self"] (spM K (R_T_bells K)) (fun fd => Binds K fd ["self"] [])) (C_next_from : Cal P w K mg base 1 "next_from" ["one", "moment"] (spD K R_next_from)) (C_rings : Cal P w K mg base 1 "rings" ["one", "moment"] (spD K R_rings)) : CalMt P w K mg base 2 (He.ga K "Tower") "next_any" ["self", "moment"] (spM K (R_T_next_any K)) (BDf K ["self", "moment"] [.int 0] 1 ["moment"]) := by
  obtain ⟨fd, F⟩ := c.def_ 15 (d := d_T_next_any) rfl
  obtain ⟨f_T_bells, fd_T_bells, c_T_bells, m_T_bells, F_T_bells, B_T_bells⟩ := C_T_bells.ex
  have z_len := He.free_ok X G (c.fact 52 (f := .free "len") rfl)
  have z_min := He.free_ok X G (c.fact 53 (f := .free "min") rfl)
  have e_NoBell := excC X G (c.fact 54 (f := .glo "NoBell") rfl) (c.fact 55 (f := .exc "NoBell") rfl)
  have b1 : Binds K fd ["self", "moment"] [] := by
    obtain ⟨ds, h1, h2⟩ := FunD.binds1 F (ps := ["self", "moment"]) 2 1 (fun z => by cases z) rfl (fun T kV doc pm an cdv ct us its h1 h2 => match us, its, h1, h2 with | [a0, a1], [_], _, _ => ⟨_, rfl, by first | rfl | with_unfolding_all rfl⟩)
    rwa [vals_nil h1] at h2
  have b2 : ∃ ds, Vals [.int 0] ds ∧ Binds K fd ["self", "moment"] ds := FunD.binds1 F (ps := ["self", "moment"]) 1 0 (fun z => by cases z) rfl (fun T kV doc pm an cdv ct us its h1 h2 => match us, its, h1, h2 with | [a0], [_], _, _ => ⟨_, rfl, by first | rfl | with_unfolding_all rfl⟩)
  have b3 : ∃ g, KBn K fd ["self", "moment"] 1 ["moment"] g (fun vs zs => vs ++ zs) := by
    obtain ⟨its, h1⟩ := FunD.kbindsD F (ps := ["self", "moment"]) 1 ["moment"] (fun vs ds zs => vs ++ zs) (fun z => by cases z) (fun r _ z => r.append z) (fun T kV doc pm an cdv ct us its ws h1 h2 h3 => match us, its, ws, h1, h2, h3 with | [a0], [_], [_], _, _, _ => ⟨_, rfl, by first | rfl | with_unfolding_all rfl⟩)
    exact ⟨_, h1⟩
  refine ⟨⟨He.fAd K ("Tower", some "next_any"), fd, He.cls_ok (c.fact 11 (f := .cls "Tower") rfl), He.meth_ok (c.fact 17 (f := .meth "Tower" "next_any") rfl), FunD.ok F sc_T_next_any (spM_len len_T_next_any) fun cdv A outer s H vs Q E hr hsp => ⟨t_T_next_any K E, ?_, body_pureM (N := ["self", "moment", "soonest", "name", "one"]) (body_T_next_any xx) rfl vs H Q E hsp⟩, ⟨b1, b2, b3⟩⟩⟩
  exact (pss_cons (ps_if (pt_cmpR (op_eqA hr.units) (pe_callB call_lenD (by rfl) z_len (by decide +kernel) (pa_cons (pe_fld (pv 0) rfl) pa_nil)) pe_int (nomark _)) (pss_one (ps_raiseC e_NoBell rfl (takes_of rfl rfl rfl rfl) (by rfl))) pss_nil)
      (pss_cons (ps_set (i := 2) sc_T_next_any.nd rfl (.inr rfl) (pe_callB (cr_min rfl) (by rfl) z_min (by decide +kernel) (pa_cons (pe_lcV [("name", 3), ("one", 4)] [3, 4] rfl rfl sc_T_next_any.nd (pi_seq (pe_methE0 (pv 0) c_T_bells m_T_bells F_T_bells (hr.mono (by decide)) B_T_bells .nil passAtL)) (blkOk_by (own := [("name", 3), ("one", 4)]) (N := ["self", "moment", "soonest", "name", "one"]) (sc := defScope s_T_next_any) (by decide +kernel)) (fun _ _ _ _ _ => (pg_tup rfl (pgs_cons (pg_name (i := 3) sc_T_next_any.nd rfl (by first | exact .inl rfl | exact .inr rfl)) (pgs_cons (pg_name (i := 4) sc_T_next_any.nd rfl (by first | exact .inl rfl | exact .inr rfl)) pgs_nil)))) (fun _ _ _ _ _ => pts_nil) (fun _ _ _ _ _ => (pe_callC C_next_from (hr.mono (by decide)) (by rfl) (pa_cons (pv 4) (pa_cons (pv 1) pa_nil))))) pa_nil)))
      (pss_one (ps_ret (pe_tup (pa_cons (pv 2) (pa_cons (pe_lcV [("name", 3), ("one", 4)] [3, 4] rfl rfl sc_T_next_any.nd (pi_seq (pe_methE0 (pv 0) c_T_bells m_T_bells F_T_bells (hr.mono (by decide)) B_T_bells .nil passAtL)) (blkOk_by (own := [("name", 3), ("one", 4)]) (N := ["self", "moment", "soonest", "name", "one"]) (sc := defScope s_T_next_any) (by decide +kernel)) (fun _ _ _ _ _ => (pg_tup rfl (pgs_cons (pg_name (i := 3) sc_T_next_any.nd rfl (by first | exact .inl rfl | exact .inr rfl)) (pgs_cons (pg_name (i := 4) sc_T_next_any.nd rfl (by first | exact .inl rfl | exact .inr rfl)) pgs_nil)))) (fun _ _ _ _ _ => (pts_one (pt_val (pe_callC C_rings (hr.mono (by decide)) (by rfl) (pa_cons (pv 4) (pa_cons (pv 2) pa_nil)))))) (fun _ _ _ _ _ => (pv 3))) pa_nil)))))))
theorem c_l_cell_at (X : K.In h) (G : h.Ns mainGlobals mg) (c : He.SaysD fa fn K) (xx : exK K = true)  : Cal P w K mg base 1 "_law_cell_at" ["_law_script", "_law_k"] (spD K R_l_cell_at) := by
  obtain ⟨fd, F⟩ := c.def_ 16 (d := d_l_cell_at) rfl
  have g0 := He.glo_ok X G (c.fact 18 (f := .glo "_law_cell_at") rfl)
  have z_len := He.free_ok X G (c.fact 52 (f := .free "len") rfl)
  refine Cal.mk' (f := He.fAd K ("_law_cell_at", none)) (fd := fd) g0 F.kp (FunD.bindsN F fun _ _ _ _ _ _ us hl => match us, hl with | [_, _], _ => rfl) (FunD.ok F sc_l_cell_at (spD_len len_l_cell_at) fun cdv A outer s H vs Q E hr hsp => ⟨t_l_cell_at K E, ?_, body_pure (N := ["_law_script", "_law_k"]) body_l_cell_at rfl vs H Q E hsp⟩)
  exact PSs.nox (pss_cons (ps_if (pt_cmpR op_lt (pv 1) (pe_callB call_len (by rfl) z_len (by decide +kernel) (pa_cons (pv 0) pa_nil)) (nomark _)) (pss_one (ps_ret (pe_ix ix_seq (pv 0) (pv 1) (fun _ _ => rfl)))) pss_nil)
      (pss_one (ps_ret pe_int)))
theorem c_l_whole (X : K.In h) (G : h.Ns mainGlobals mg) (c : He.SaysD fa fn K) (xx : exK K = true)  : Cal P w K mg base 1 "_law_whole" ["_law_found"] (spD K R_l_whole) := by
  obtain ⟨fd, F⟩ := c.def_ 17 (d := d_l_whole) rfl
  have g0 := He.glo_ok X G (c.fact 19 (f := .glo "_law_whole") rfl)
  have z_bool := He.free_ok X G (c.fact 56 (f := .free "bool") rfl)
  have z_int := He.free_ok X G (c.fact 57 (f := .free "int") rfl)
  have z_isinstance := He.free_ok X G (c.fact 58 (f := .free "isinstance") rfl)
  refine Cal.mk' (f := He.fAd K ("_law_whole", none)) (fd := fd) g0 F.kp (FunD.bindsN F fun _ _ _ _ _ _ us hl => match us, hl with | [_], _ => rfl) (FunD.ok F sc_l_whole (spD_len len_l_whole) fun cdv A outer s H vs Q E hr hsp => ⟨t_l_whole K E, ?_, body_pure (N := ["_law_found"]) body_l_whole rfl vs H Q E hsp⟩)
  exact PSs.nox (pss_one (ps_ret (pe_and (pe_callB call_isi (by rfl) z_isinstance (by decide +kernel) (pa_cons (pv 0) (pa_cons (pe_bltn (v := .ty "int") (u := .type "int") (by rfl) z_int (by decide +kernel) rfl) pa_nil))) (pe_one (pe_not (pe_callB call_isi (by rfl) z_isinstance (by decide +kernel) (pa_cons (pv 0) (pa_cons (pe_bltn (v := .ty "bool") (u := .type "bool") (by rfl) z_bool (by decide +kernel) rfl) pa_nil))))))))
theorem c_l_divisor (X : K.In h) (G : h.Ns mainGlobals mg) (c : He.SaysD fa fn K) (xx : exK K = true)  : Cal P w K mg base 1 "_law_divisor" ["_law_one", "_law_other"] (spD K R_l_divisor) := by
  obtain ⟨fd, F⟩ := c.def_ 18 (d := d_l_divisor) rfl
  have g0 := He.glo_ok X G (c.fact 20 (f := .glo "_law_divisor") rfl)
  refine Cal.mk' (f := He.fAd K ("_law_divisor", none)) (fd := fd) g0 F.kp (FunD.bindsN F fun _ _ _ _ _ _ us hl => match us, hl with | [_, _], _ => rfl) (FunD.ok F sc_l_divisor (spD_len len_l_divisor) fun cdv A outer s H vs Q E hr hsp => ⟨t_l_divisor K E, ?_, body_pure (N := ["_law_one", "_law_other"]) body_l_divisor rfl vs H Q E hsp⟩)
  exact PSs.nox (pss_cons (ps_while PassesOwn.never (pt_cmpR (op_neA hr.units) (pv 1) pe_int (nomark _)) (pss_one (ps_par (i := 0) (j := 1) rfl sc_l_divisor.nd rfl rfl (by decide) rfl rfl (pa_cons (pv 1) (pa_cons (pe_op op_mod (pv 0) (pv 1)) pa_nil)) (by rfl))))
      (pss_one (ps_ret (pv 0))))
theorem c_l_names (X : K.In h) (G : h.Ns mainGlobals mg) (c : He.SaysD fa fn K) (xx : exK K = true)  : Cal P w K mg base 1 "_law_names" ["_law_cell"] (spD K R_l_names) := by
  obtain ⟨fd, F⟩ := c.def_ 19 (d := d_l_names) rfl
  have g0 := He.glo_ok X G (c.fact 21 (f := .glo "_law_names") rfl)
  have z_len := He.free_ok X G (c.fact 52 (f := .free "len") rfl)
  have z_range := He.free_ok X G (c.fact 59 (f := .free "range") rfl)
  refine Cal.mk' (f := He.fAd K ("_law_names", none)) (fd := fd) g0 F.kp (FunD.bindsN F fun _ _ _ _ _ _ us hl => match us, hl with | [_], _ => rfl) (FunD.ok F sc_l_names (spD_len len_l_names) fun cdv A outer s H vs Q E hr hsp => ⟨t_l_names K E, ?_, body_pure (N := ["_law_cell", "_law_letters", "_law_base", "_law_k", "_law_at", "_law_names_here", "_law_more", "_law_name_here", "_law_other", "_law_sign"]) body_l_names rfl vs H Q E hsp⟩)
  exact PSs.nox (pss_cons (ps_set (i := 1) sc_l_names.nd rfl (.inl rfl) pe_str)
      (pss_cons (ps_set (i := 2) sc_l_names.nd rfl (.inr rfl) pe_str)
      (pss_cons (ps_for PassesOwn.never rfl (pi_range1 (by rfl) z_range (pa_cons (pe_op op_addA pe_int (pe_op op_mod (pv 0) pe_int)) pa_nil)) (pg_name (i := 3) sc_l_names.nd rfl (.inl rfl)) (pss_one (ps_set (i := 2) sc_l_names.nd rfl (.inr rfl) (pe_op op_addA (pv 2) (pe_ix ix_seq (pv 1) (pe_op op_mod (pe_op op_addA (pe_op op_divI (pv 0) pe_int) (pe_op op_mulI (pe_op op_mulI (pv 3) (pv 3)) (pe_op op_addA pe_int (pe_op op_mod (pe_op op_divI (pv 0) pe_int) pe_int)))) pe_int) (fun _ _ => rfl))))))
      (pss_cons (ps_set (i := 4) sc_l_names.nd rfl (.inr rfl) (pe_op op_mod (pe_op op_divI (pv 0) pe_int) (pe_callB call_len (by rfl) z_len (by decide +kernel) (pa_cons (pv 2) pa_nil))))
      (pss_cons (ps_setLcV (i := 5) [("_law_sign", 9)] [9] rfl rfl sc_l_names.nd rfl rfl (sw_true rfl rfl rfl (by decide +kernel)) (pi_str (pv 1)) (blkOk_by (own := [("_law_sign", 9)]) (N := ["_law_cell", "_law_letters", "_law_base", "_law_k", "_law_at", "_law_names_here", "_law_more", "_law_name_here", "_law_other", "_law_sign"]) (sc := defScope s_l_names) (by decide +kernel)) (fun _ _ _ _ _ => (pg_name (i := 9) sc_l_names.nd rfl (by first | exact .inl rfl | exact .inr rfl))) (fun _ _ _ _ _ => pts_nil) (fun _ _ _ _ _ => (pe_op op_addA (pe_op op_addA (pe_slice sl_str (pv 2) po_none (po_some (pv 4))) (pv 9)) (pe_slice sl_str (pv 2) (po_some (pe_op op_addA (pv 4) pe_int)) po_none))))
      (pss_cons (ps_set (i := 6) sc_l_names.nd rfl (.inl rfl) (pe_ix ix_seq (pv 1) (pe_op op_mod (pe_op op_divI (pv 0) pe_int) pe_int) (fun _ _ => rfl)))
      (pss_cons (ps_for PassesOwn.never rfl (pi_seq (pe_slice sl_list (pv 5) po_none (po_some pe_int))) (pg_name (i := 7) sc_l_names.nd rfl (.inl rfl)) (pss_one (ps_for PassesOwn.never rfl (pi_seq (pe_lst (pa_cons (pe_op op_addA (pv 7) (pv 6)) (pa_cons (pe_op op_addA (pv 6) (pv 7)) pa_nil)))) (pg_name (i := 8) sc_l_names.nd rfl (.inl rfl)) (pss_one (ps_if (pt_cmpR op_notIn_seq (pv 8) (pv 5) rfl) (pss_one (ps_set (i := 5) sc_l_names.nd rfl (.inl rfl) (pe_op op_addA (pv 5) (pe_lst (pa_cons (pv 8) pa_nil))))) pss_nil)))))
      (pss_one (ps_ret (pv 5))))))))))
theorem c_l_name (X : K.In h) (G : h.Ns mainGlobals mg) (c : He.SaysD fa fn K) (xx : exK K = true)  : Cal P w K mg base 1 "_law_name" ["_law_row", "_law_names_here", "_law_number", "_law_share"] (spD K R_l_name) := by
  obtain ⟨fd, F⟩ := c.def_ 20 (d := d_l_name) rfl
  have g0 := He.glo_ok X G (c.fact 22 (f := .glo "_law_name") rfl)
  have z_len := He.free_ok X G (c.fact 52 (f := .free "len") rfl)
  refine Cal.mk' (f := He.fAd K ("_law_name", none)) (fd := fd) g0 F.kp (FunD.bindsN F fun _ _ _ _ _ _ us hl => match us, hl with | [_, _, _, _], _ => rfl) (FunD.ok F sc_l_name (spD_len len_l_name) fun cdv A outer s H vs Q E hr hsp => ⟨t_l_name K E, ?_, body_pure (N := ["_law_row", "_law_names_here", "_law_number", "_law_share"]) body_l_name rfl vs H Q E hsp⟩)
  exact PSs.nox (pss_cons (ps_if (PW.pt (pw_or (pt_cmpR op_ge (pe_op op_mod (pv 2) pe_int) (pv 3) (nomark _)) (pw_or1 (pt_cmpR (op_eqA hr.units) (pe_callB call_len (by rfl) z_len (by decide +kernel) (pa_cons (pv 0) pa_nil)) pe_int (nomark _))))) (pss_one (ps_ret (pe_ix ix_seq (pv 1) (pe_op op_mod (pe_op op_divI (pv 2) pe_int) (pe_callB call_len (by rfl) z_len (by decide +kernel) (pa_cons (pv 1) pa_nil))) (fun _ _ => rfl)))) pss_nil)
      (pss_one (ps_ret (pe_ix ix_seq (pe_ix ix_seq (pv 0) (pe_op op_mod (pe_op op_divI (pv 2) pe_int) (pe_callB call_len (by rfl) z_len (by decide +kernel) (pa_cons (pv 0) pa_nil))) (fun _ _ => rfl)) pe_int (fun _ _ => rfl)))))
theorem c_l_new_name (X : K.In h) (G : h.Ns mainGlobals mg) (c : He.SaysD fa fn K) (xx : exK K = true)  : Cal P w K mg base 1 "_law_new_name" ["_law_row", "_law_names_here"] (spD K R_l_new_name) := by
  obtain ⟨fd, F⟩ := c.def_ 21 (d := d_l_new_name) rfl
  have g0 := He.glo_ok X G (c.fact 23 (f := .glo "_law_new_name") rfl)
  refine Cal.mk' (f := He.fAd K ("_law_new_name", none)) (fd := fd) g0 F.kp (FunD.bindsN F fun _ _ _ _ _ _ us hl => match us, hl with | [_, _], _ => rfl) (FunD.ok F sc_l_new_name (spD_len len_l_new_name) fun cdv A outer s H vs Q E hr hsp => ⟨t_l_new_name K E, ?_, body_pure (N := ["_law_row", "_law_names_here", "_law_hung", "_law_one", "_law_name_here"]) body_l_new_name rfl vs H Q E hsp⟩)
  exact PSs.nox (pss_cons (ps_set (i := 2) sc_l_new_name.nd rfl (.inr rfl) (pe_lcV [("_law_one", 3)] [3] rfl rfl sc_l_new_name.nd (pi_seq (pv 0)) (blkOk_by (own := [("_law_one", 3)]) (N := ["_law_row", "_law_names_here", "_law_hung", "_law_one", "_law_name_here"]) (sc := defScope s_l_new_name) (by decide +kernel)) (fun _ _ _ _ _ => (pg_name (i := 3) sc_l_new_name.nd rfl (by first | exact .inl rfl | exact .inr rfl))) (fun _ _ _ _ _ => pts_nil) (fun _ _ _ _ _ => (pe_ix ix_seq (pv 3) pe_int (fun _ _ => rfl)))))
      (pss_one (ps_ret (pe_ix ix_seq (pe_lcV [("_law_name_here", 4)] [4] rfl rfl sc_l_new_name.nd (pi_seq (pv 1)) (blkOk_by (own := [("_law_name_here", 4)]) (N := ["_law_row", "_law_names_here", "_law_hung", "_law_one", "_law_name_here"]) (sc := defScope s_l_new_name) (by decide +kernel)) (fun _ _ _ _ _ => (pg_name (i := 4) sc_l_new_name.nd rfl (by first | exact .inl rfl | exact .inr rfl))) (fun _ _ _ _ _ => (pts_one (pt_cmpR op_notIn_seq (pv 4) (pv 2) rfl))) (fun _ _ _ _ _ => (pv 4))) pe_int (fun _ _ => rfl)))))
theorem c_l_gap (X : K.In h) (G : h.Ns mainGlobals mg) (c : He.SaysD fa fn K) (xx : exK K = true)  : Cal P w K mg base 1 "_law_gap" ["_law_number"] (spD K R_l_gap) := by
  obtain ⟨fd, F⟩ := c.def_ 22 (d := d_l_gap) rfl
  have g0 := He.glo_ok X G (c.fact 24 (f := .glo "_law_gap") rfl)
  refine Cal.mk' (f := He.fAd K ("_law_gap", none)) (fd := fd) g0 F.kp (FunD.bindsN F fun _ _ _ _ _ _ us hl => match us, hl with | [_], _ => rfl) (FunD.ok F sc_l_gap (spD_len len_l_gap) fun cdv A outer s H vs Q E hr hsp => ⟨t_l_gap K E, ?_, body_pure (N := ["_law_number", "_law_big", "_law_some"]) body_l_gap rfl vs H Q E hsp⟩)
  exact PSs.nox (pss_cons (ps_set (i := 1) sc_l_gap.nd rfl (.inl rfl) (pe_op op_divI (pv 0) pe_int))
      (pss_cons (ps_set (i := 2) sc_l_gap.nd rfl (.inl rfl) (pe_lst (pa_cons (pe_op op_addA pe_int (pe_op op_mod (pv 1) pe_int)) (pa_cons (pe_op op_mulI (pe_ix ix_seq (pe_lst (pa_cons pe_int (pa_cons pe_int (pa_cons pe_int (pa_cons pe_int pa_nil))))) (pe_op op_mod (pv 1) pe_int) (fun _ _ => rfl)) (pe_ix ix_seq (pe_lst (pa_cons pe_int (pa_cons pe_int (pa_cons pe_int (pa_cons pe_int pa_nil))))) (pe_op op_mod (pe_op op_divI (pv 1) pe_int) pe_int) (fun _ _ => rfl))) (pa_cons (pe_op op_addA pe_int (pe_op op_mod (pv 1) (pe_op op_pow pe_int pe_int))) pa_nil)))))
      (pss_cons (ps_set (i := 2) sc_l_gap.nd rfl (.inl rfl) (pe_op op_addA (pv 2) (pe_lst (pa_cons (pe_op op_mulI pe_int (pe_op op_addA pe_int (pe_op op_mod (pv 1) pe_int))) (pa_cons pe_int (pa_cons (pe_op op_sub pe_int (pe_op op_mod (pv 1) (pe_op op_pow pe_int pe_int))) pa_nil))))))
      (pss_one (ps_ret (pe_ix ix_seq (pv 2) (pe_op op_mod (pv 0) pe_int) (fun _ _ => rfl)))))))
theorem c_l_kinds (X : K.In h) (G : h.Ns mainGlobals mg) (c : He.SaysD fa fn K) (xx : exK K = true) : CalP P w K mg base 1 "_law_kinds" ["_law_e"] (fun a cls d => spM K (R_l_kinds K a cls d)) := by
  obtain ⟨fd, F⟩ := c.def_ 23 (d := d_l_kinds) rfl
  have g0 := He.glo_ok X G (c.fact 25 (f := .glo "_law_kinds") rfl)
  have z_ValueError := He.free_ok X G (c.fact 60 (f := .free "ValueError") rfl)
  have z_isinstance := He.free_ok X G (c.fact 58 (f := .free "isinstance") rfl)
  have g_Clash := He.glo_ok X G (c.fact 0 (f := .glo "Clash") rfl)
  have g_NoBeat := He.glo_ok X G (c.fact 43 (f := .glo "NoBeat") rfl)
  have g_NoBell := He.glo_ok X G (c.fact 54 (f := .glo "NoBell") rfl)
  have g_NoName := He.glo_ok X G (c.fact 50 (f := .glo "NoName") rfl)
  have g_TooMany := He.glo_ok X G (c.fact 61 (f := .glo "TooMany") rfl)
  have g_Twice := He.glo_ok X G (c.fact 48 (f := .glo "Twice") rfl)
  refine ⟨⟨He.fAd K ("_law_kinds", none), fd, g0, F.kp, FunD.bindsN F fun _ _ _ _ _ _ us hl => match us, hl with | [_], _ => rfl, fun a oe cls d hz hf => fnP_of F sc_l_kinds (spM_len len_l_kinds) fun cdv A outer s H vs Q E hr hsp => ⟨t_l_kinds K a cls d E, ?_, body_pureM (N := ["_law_e", "_law_kinds_here"]) (body_l_kinds xx) rfl vs H Q E hsp⟩⟩⟩
  exact PSs.nox (pss_cons (ps_set (i := 1) sc_l_kinds.nd rfl (.inl rfl) (pe_lst (pa_cons (pe_callB (call_isY (by exact List.mem_cons_self) hz hf) (by rfl) z_isinstance (by decide +kernel) (pa_cons (pv 0) (pa_cons (pe_bltn (v := .ty "ValueError") (u := .type "ValueError") (by rfl) z_ValueError (by decide +kernel) rfl) pa_nil))) (pa_cons (pe_callB (call_isY (by exact List.mem_cons_self) hz hf) (by rfl) z_isinstance (by decide +kernel) (pa_cons (pv 0) (pa_cons (pe_glob (v := .ref (He.ga K "NoBeat")) (by rfl) g_NoBeat rfl) pa_nil))) (pa_cons (pe_callB (call_isY (by exact List.mem_cons_self) hz hf) (by rfl) z_isinstance (by decide +kernel) (pa_cons (pv 0) (pa_cons (pe_glob (v := .ref (He.ga K "NoBell")) (by rfl) g_NoBell rfl) pa_nil))) (pa_cons (pe_callB (call_isY (by exact List.mem_cons_self) hz hf) (by rfl) z_isinstance (by decide +kernel) (pa_cons (pv 0) (pa_cons (pe_glob (v := .ref (He.ga K "TooMany")) (by rfl) g_TooMany rfl) pa_nil))) pa_nil))))))
      (pss_one (ps_ret (pe_op op_addA (pv 1) (pe_lst (pa_cons (pe_callB (call_isY (by exact List.mem_cons_self) hz hf) (by rfl) z_isinstance (by decide +kernel) (pa_cons (pv 0) (pa_cons (pe_glob (v := .ref (He.ga K "Twice")) (by rfl) g_Twice rfl) pa_nil))) (pa_cons (pe_callB (call_isY (by exact List.mem_cons_self) hz hf) (by rfl) z_isinstance (by decide +kernel) (pa_cons (pv 0) (pa_cons (pe_glob (v := .ref (He.ga K "NoName")) (by rfl) g_NoName rfl) pa_nil))) (pa_cons (pe_callB (call_isY (by exact List.mem_cons_self) hz hf) (by rfl) z_isinstance (by decide +kernel) (pa_cons (pv 0) (pa_cons (pe_glob (v := .ref (He.ga K "Clash")) (by rfl) g_Clash rfl) pa_nil))) pa_nil))))))))
theorem c_l_kindsT (X : K.In h) (G : h.Ns mainGlobals mg) (c : He.SaysD fa fn K) (xx : exK K = true)  : Cal P w K mg base 1 "_law_kinds" ["_law_e"] (spM K (R_l_kindsT K)) := by
  obtain ⟨fd, F⟩ := c.def_ 24 (d := d_l_kindsT) rfl
  have g0 := He.glo_ok X G (c.fact 25 (f := .glo "_law_kinds") rfl)
  have z_ValueError := He.free_ok X G (c.fact 60 (f := .free "ValueError") rfl)
  have z_isinstance := He.free_ok X G (c.fact 58 (f := .free "isinstance") rfl)
  have g_Clash := He.glo_ok X G (c.fact 0 (f := .glo "Clash") rfl)
  have g_NoBeat := He.glo_ok X G (c.fact 43 (f := .glo "NoBeat") rfl)
  have g_NoBell := He.glo_ok X G (c.fact 54 (f := .glo "NoBell") rfl)
  have g_NoName := He.glo_ok X G (c.fact 50 (f := .glo "NoName") rfl)
  have g_TooMany := He.glo_ok X G (c.fact 61 (f := .glo "TooMany") rfl)
  have g_Twice := He.glo_ok X G (c.fact 48 (f := .glo "Twice") rfl)
  refine Cal.mk' (f := He.fAd K ("_law_kinds", none)) (fd := fd) g0 F.kp (FunD.bindsN F fun _ _ _ _ _ _ us hl => match us, hl with | [_], _ => rfl) (FunD.ok F sc_l_kindsT (spM_len len_l_kindsT) fun cdv A outer s H vs Q E hr hsp => ⟨t_l_kindsT K E, ?_, body_pureM (N := ["_law_e", "_law_kinds_here"]) (body_l_kindsT xx) rfl vs H Q E hsp⟩)
  exact PSs.nox (pss_cons (ps_set (i := 1) sc_l_kindsT.nd rfl (.inl rfl) (pe_lst (pa_cons (pe_callB call_isT (by rfl) z_isinstance (by decide +kernel) (pa_cons (pv 0) (pa_cons (pe_bltn (v := .ty "ValueError") (u := .type "ValueError") (by rfl) z_ValueError (by decide +kernel) rfl) pa_nil))) (pa_cons (pe_callB call_isT (by rfl) z_isinstance (by decide +kernel) (pa_cons (pv 0) (pa_cons (pe_glob (v := .ref (He.ga K "NoBeat")) (by rfl) g_NoBeat rfl) pa_nil))) (pa_cons (pe_callB call_isT (by rfl) z_isinstance (by decide +kernel) (pa_cons (pv 0) (pa_cons (pe_glob (v := .ref (He.ga K "NoBell")) (by rfl) g_NoBell rfl) pa_nil))) (pa_cons (pe_callB call_isT (by rfl) z_isinstance (by decide +kernel) (pa_cons (pv 0) (pa_cons (pe_glob (v := .ref (He.ga K "TooMany")) (by rfl) g_TooMany rfl) pa_nil))) pa_nil))))))
      (pss_one (ps_ret (pe_op op_addA (pv 1) (pe_lst (pa_cons (pe_callB call_isT (by rfl) z_isinstance (by decide +kernel) (pa_cons (pv 0) (pa_cons (pe_glob (v := .ref (He.ga K "Twice")) (by rfl) g_Twice rfl) pa_nil))) (pa_cons (pe_callB call_isT (by rfl) z_isinstance (by decide +kernel) (pa_cons (pv 0) (pa_cons (pe_glob (v := .ref (He.ga K "NoName")) (by rfl) g_NoName rfl) pa_nil))) (pa_cons (pe_callB call_isT (by rfl) z_isinstance (by decide +kernel) (pa_cons (pv 0) (pa_cons (pe_glob (v := .ref (He.ga K "Clash")) (by rfl) g_Clash rfl) pa_nil))) pa_nil))))))))
theorem c_l_only (X : K.In h) (G : h.Ns mainGlobals mg) (c : He.SaysD fa fn K) (xx : exK K = true)  : Cal P w K mg base 1 "_law_only" ["_law_place"] (spD K R_l_only) := by
  obtain ⟨fd, F⟩ := c.def_ 25 (d := d_l_only) rfl
  have g0 := He.glo_ok X G (c.fact 26 (f := .glo "_law_only") rfl)
  have z_range := He.free_ok X G (c.fact 59 (f := .free "range") rfl)
  refine Cal.mk' (f := He.fAd K ("_law_only", none)) (fd := fd) g0 F.kp (FunD.bindsN F fun _ _ _ _ _ _ us hl => match us, hl with | [_], _ => rfl) (FunD.ok F sc_l_only (spD_len len_l_only) fun cdv A outer s H vs Q E hr hsp => ⟨t_l_only K E, ?_, body_pure (N := ["_law_place", "_law_k"]) body_l_only rfl vs H Q E hsp⟩)
  exact PSs.nox (pss_one (ps_ret (pe_op op_addA (pe_lst (pa_cons pe_bl pa_nil)) (pe_lcV [("_law_k", 1)] [1] rfl rfl sc_l_only.nd (pi_range1 (by rfl) z_range (pa_cons pe_int pa_nil)) (blkOk_by (own := [("_law_k", 1)]) (N := ["_law_place", "_law_k"]) (sc := defScope s_l_only) (by decide +kernel)) (fun _ _ _ _ _ => (pg_name (i := 1) sc_l_only.nd rfl (by first | exact .inl rfl | exact .inr rfl))) (fun _ _ _ _ _ => pts_nil) (fun _ _ _ _ _ => (pe_cmpR (op_eqA hr.units) (pv 1) (pv 0) (nomark _)))))))
theorem c_l_fields (X : K.In h) (G : h.Ns mainGlobals mg) (c : He.SaysD fa fn K) (xx : exK K = true) : CalP P w K mg base 1 "_law_fields" ["_law_e"] (fun a cls d => spM K (R_l_fields K a cls d)) := by
  obtain ⟨fd, F⟩ := c.def_ 26 (d := d_l_fields) rfl
  have g0 := He.glo_ok X G (c.fact 27 (f := .glo "_law_fields") rfl)
  have n_Clash_divisor := He.noat_ok (c.fact 28 (f := .noat "Clash" "divisor") rfl)
  have n_Clash_first := He.noat_ok (c.fact 29 (f := .noat "Clash" "first") rfl)
  have n_Clash_second := He.noat_ok (c.fact 30 (f := .noat "Clash" "second") rfl)
  have xf_Clash := (exK_cl xx).x
  have z_isinstance := He.free_ok X G (c.fact 58 (f := .free "isinstance") rfl)
  have g_Clash := He.glo_ok X G (c.fact 0 (f := .glo "Clash") rfl)
  refine ⟨⟨He.fAd K ("_law_fields", none), fd, g0, F.kp, FunD.bindsN F fun _ _ _ _ _ _ us hl => match us, hl with | [_], _ => rfl, fun a oe cls d hz hf => fnP_of F sc_l_fields (spM_len len_l_fields) fun cdv A outer s H vs Q E hr hsp => ⟨t_l_fields K a cls d E, ?_, body_pureM (N := ["_law_e"]) (body_l_fields xx) rfl vs H Q E hsp⟩⟩⟩
  exact PSs.nox (pss_cons (ps_if (pt_val (pe_callB (call_isY (by exact List.mem_cons_self) hz hf) (by rfl) z_isinstance (by decide +kernel) (pa_cons (pv 0) (pa_cons (pe_glob (v := .ref (He.ga K "Clash")) (by rfl) g_Clash rfl) pa_nil)))) (pss_one (ps_ret (pe_lst (pa_cons (pe_xfP xf_Clash n_Clash_first (by exact List.mem_cons_self) hz hf (pv 0)) (pa_cons (pe_xfP xf_Clash n_Clash_second (by exact List.mem_cons_self) hz hf (pv 0)) (pa_cons (pe_xfP xf_Clash n_Clash_divisor (by exact List.mem_cons_self) hz hf (pv 0)) pa_nil)))))) pss_nil)
      (pss_one (ps_ret (pe_lst pa_nil))))
theorem c_l_fieldsT (X : K.In h) (G : h.Ns mainGlobals mg) (c : He.SaysD fa fn K) (xx : exK K = true)  : Cal P w K mg base 1 "_law_fields" ["_law_e"] (spM K (R_l_fieldsT K)) := by
  obtain ⟨fd, F⟩ := c.def_ 27 (d := d_l_fieldsT) rfl
  have g0 := He.glo_ok X G (c.fact 27 (f := .glo "_law_fields") rfl)
  have z_isinstance := He.free_ok X G (c.fact 58 (f := .free "isinstance") rfl)
  have g_Clash := He.glo_ok X G (c.fact 0 (f := .glo "Clash") rfl)
  refine Cal.mk' (f := He.fAd K ("_law_fields", none)) (fd := fd) g0 F.kp (FunD.bindsN F fun _ _ _ _ _ _ us hl => match us, hl with | [_], _ => rfl) (FunD.ok F sc_l_fieldsT (spM_len len_l_fieldsT) fun cdv A outer s H vs Q E hr hsp => ⟨t_l_fieldsT K E, ?_, body_pureM (N := ["_law_e"]) (body_l_fieldsT xx) rfl vs H Q E hsp⟩)
  exact PSs.nox (pss_cons (ps_if (pt_val (pe_callB call_isT (by rfl) z_isinstance (by decide +kernel) (pa_cons (pv 0) (pa_cons (pe_glob (v := .ref (He.ga K "Clash")) (by rfl) g_Clash rfl) pa_nil)))) (pss_one (ps_ret (pe_lst (pa_cons (pe_xfT (pv 0)) (pa_cons (pe_xfT (pv 0)) (pa_cons (pe_xfT (pv 0)) pa_nil)))))) pss_nil)
      (pss_one (ps_ret (pe_lst pa_nil))))
theorem c_l_hang (X : K.In h) (G : h.Ns mainGlobals mg) (c : He.SaysD fa fn K) (xx : exK K = true) (C_T_hang : CalMt P w K mg base 2 (He.ga K "Tower") "hang" ["self", "name", "first", "gap"] (spM K (R_T_hang K)) (BDf K ["self", "name", "first", "gap"] [.int 24] 3 ["gap"])) (C_l_kinds : CalP P w K mg base 1 "_law_kinds" ["_law_e"] (fun a cls d => spM K (R_l_kinds K a cls d))) (C_l_only : Cal P w K mg base 1 "_law_only" ["_law_place"] (spD K R_l_only)) : Cal P w K mg base 3 "_law_hang" ["_law_tower", "_law_row", "_law_name_here", "_law_first", "_law_wide", "_law_plain"] (spM K (R_l_hang K)) := by
  obtain ⟨fd, F⟩ := c.def_ 28 (d := d_l_hang) rfl
  have g0 := He.glo_ok X G (c.fact 31 (f := .glo "_law_hang") rfl)
  obtain ⟨f_T_hang, fd_T_hang, c_T_hang, m_T_hang, F_T_hang, B_T_hang⟩ := C_T_hang.ex
  obtain ⟨ds_T_hang, vd_T_hang, bd_T_hang⟩ := B_T_hang.dfl
  obtain ⟨gk_T_hang, kb_T_hang⟩ := B_T_hang.kw
  have g_KnellError := He.glo_ok X G (c.fact 62 (f := .glo "KnellError") rfl)
  refine Cal.mk' (f := He.fAd K ("_law_hang", none)) (fd := fd) g0 F.kp (FunD.bindsN F fun _ _ _ _ _ _ us hl => match us, hl with | [_, _, _, _, _, _], _ => rfl) (FunD.ok F sc_l_hang (spM_len len_l_hang) fun cdv A outer s H vs Q E hr hsp => ⟨t_l_hang K E, ?_, body_pureM (N := ["_law_tower", "_law_row", "_law_name_here", "_law_first", "_law_wide", "_law_plain", "_law_kinds_here", "_law_told", "_law_e", "_law_one"]) (body_l_hang xx) rfl vs H Q E hsp⟩)
  exact PSs.nox (pss_cons (ps_set (i := 6) sc_l_hang.nd rfl (.inl rfl) (pe_lst pa_nil))
      (pss_cons (ps_set (i := 7) sc_l_hang.nd rfl (.inl rfl) pe_non)
      (pss_cons (ps_try_as (i := 8) (tb := fun W => (tIfS (tB (tVar 5)) (tAsg (tMethE (He.ga K "Tower") "hang" (spM K (R_T_hang K)) [.int 24] (WE W) (tVar 0) (tCons (tVar 2) (tCons (tVar 3) tNil))) (gName 7)) (tIfS (tTest (tOp (rEqA K) (tOp rModI (tVar 4) (tC (.int 3))) (tC (.int 0)))) (tAsg (tMethKE (He.ga K "Tower") "hang" 2 1 (spM K (R_T_hang K)) (fun vs zs => vs ++ zs) (WE W) (tVar 0) (tCons (tVar 2) (tCons (tVar 3) tNil)) (tCons (tVar 4) tNil)) (gName 7)) (tAsg (tMethE (He.ga K "Tower") "hang" (spM K (R_T_hang K)) [] (WE W) (tVar 0) (tCons (tVar 2) (tCons (tVar 3) (tCons (tVar 4) tNil)))) (gName 7))))) (ts := fun a cls d => (tAsg (tCall (spM K (R_l_kinds K a cls d)) [] E0 (tCons (tVar 8) tNil)) (gName 6))) (Wout := fun _ _ _ _ => False) rfl rfl sc_l_hang.nd rfl rfl ⟨rfl, by decide, .inl g_KnellError⟩ takes0 (fun W pn xe tk _ => (pss_one (ps_if (pt_val (pv 5)) (pss_one (ps_set (i := 7) sc_l_hang.nd rfl (.inl rfl) (pe_methE (pv 0) c_T_hang m_T_hang F_T_hang (hr.mono (by decide)) bd_T_hang vd_T_hang (fun σ => passAt tk σ) (pa_cons (pv 2) (pa_cons (pv 3) pa_nil))))) (pss_one (ps_if (pt_cmpR (op_eqA hr.units) (pe_op op_mod (pv 4) pe_int) pe_int (nomark _)) (pss_one (ps_set (i := 7) sc_l_hang.nd rfl (.inl rfl) (pe_methKE (pv 0) c_T_hang m_T_hang F_T_hang (hr.mono (by decide)) kb_T_hang (fun σ => passAt tk σ) (pa_cons (pv 2) (pa_cons (pv 3) pa_nil)) (pk_cons (pv 4) pk_nil)))) (pss_one (ps_set (i := 7) sc_l_hang.nd rfl (.inl rfl) (pe_methE (pv 0) c_T_hang m_T_hang F_T_hang (hr.mono (by decide)) B_T_hang.full .nil (fun σ => passAt tk σ) (pa_cons (pv 2) (pa_cons (pv 3) (pa_cons (pv 4) pa_nil))))))))))) (fun a oe cls d pn hz hf => (pss_one (ps_set (i := 6) sc_l_hang.nd rfl (.inl rfl) (pe_callP C_l_kinds (hr.mono (by decide)) (by rfl) hz hf (pa_cons (pv 8) pa_nil))))))
      (pss_cons (ps_if (pt_cmp (pc_notN (pv 7))) (pss_one (ps_ret pe_bl)) pss_nil)
      (pss_cons (ps_if (pt_cmpR op_in_seq (pv 2) (pe_lcV [("_law_one", 9)] [9] rfl rfl sc_l_hang.nd (pi_seq (pv 1)) (blkOk_by (own := [("_law_one", 9)]) (N := ["_law_tower", "_law_row", "_law_name_here", "_law_first", "_law_wide", "_law_plain", "_law_kinds_here", "_law_told", "_law_e", "_law_one"]) (sc := defScope s_l_hang) (by decide +kernel)) (fun _ _ _ _ _ => (pg_name (i := 9) sc_l_hang.nd rfl (by first | exact .inl rfl | exact .inr rfl))) (fun _ _ _ _ _ => pts_nil) (fun _ _ _ _ _ => (pe_ix ix_seq (pv 9) pe_int (fun _ _ => rfl)))) rfl) (pss_one (ps_ret (pe_cmpR (op_eqA hr.units) (pv 6) (pe_callC C_l_only (hr.mono (by decide)) (by rfl) (pa_cons pe_int pa_nil)) (nomark _)))) pss_nil)
      (pss_cons (ps_if (pt_cmpR op_lt (pv 4) pe_int (nomark _)) (pss_one (ps_ret (pe_cmpR (op_eqA hr.units) (pv 6) (pe_callC C_l_only (hr.mono (by decide)) (by rfl) (pa_cons pe_int pa_nil)) (nomark _)))) pss_nil)
      (pss_cons (ps_expr (pe_bm PySem.F.plainAttrs_list PySem.F.slot_list_append PySem.F.type_list_append mt_append (pv 1) (pa_cons (pe_tup (pa_cons (pv 2) (pa_cons (pe_tup (pa_cons (pe_op op_mod (pv 3) (pv 4)) (pa_cons (pv 4) pa_nil))) pa_nil))) pa_nil)))
      (pss_one (ps_ret (pe_cmpR (op_eqA hr.units) (pv 6) (pe_lst pa_nil) (nomark _)))))))))))
theorem c_l_is_beat (X : K.In h) (G : h.Ns mainGlobals mg) (c : He.SaysD fa fn K) (xx : exK K = true) (C_l_whole : Cal P w K mg base 1 "_law_whole" ["_law_found"] (spD K R_l_whole)) : Cal P w K mg base 2 "_law_is_beat" ["_law_found", "_law_due"] (spD K R_l_is_beat) := by
  obtain ⟨fd, F⟩ := c.def_ 29 (d := d_l_is_beat) rfl
  have g0 := He.glo_ok X G (c.fact 32 (f := .glo "_law_is_beat") rfl)
  have z_isinstance := He.free_ok X G (c.fact 58 (f := .free "isinstance") rfl)
  have z_len := He.free_ok X G (c.fact 52 (f := .free "len") rfl)
  have z_tuple := He.free_ok X G (c.fact 63 (f := .free "tuple") rfl)
  refine Cal.mk' (f := He.fAd K ("_law_is_beat", none)) (fd := fd) g0 F.kp (FunD.bindsN F fun _ _ _ _ _ _ us hl => match us, hl with | [_, _], _ => rfl) (FunD.ok F sc_l_is_beat (spD_len len_l_is_beat) fun cdv A outer s H vs Q E hr hsp => ⟨t_l_is_beat K E, ?_, body_pure (N := ["_law_found", "_law_due"]) body_l_is_beat rfl vs H Q E hsp⟩)
  exact PSs.nox (pss_cons (ps_if (PW.pt (pw_or (pt_not (pt_val (pe_callB call_isi (by rfl) z_isinstance (by decide +kernel) (pa_cons (pv 0) (pa_cons (pe_bltn (v := .ty "tuple") (u := .type "tuple") (by rfl) z_tuple (by decide +kernel) rfl) pa_nil))))) (pw_or1 (pt_cmpR (op_neA hr.units) (pe_callB call_len (by rfl) z_len (by decide +kernel) (pa_cons (pv 0) pa_nil)) pe_int (nomark _))))) (pss_one (ps_ret pe_bl)) pss_nil)
      (pss_one (ps_ret (pe_and (pe_callC C_l_whole (hr.mono (by decide)) (by rfl) (pa_cons (pe_ix ix_seq (pv 0) pe_int (fun _ _ => rfl)) pa_nil)) (pe_and (pe_callC C_l_whole (hr.mono (by decide)) (by rfl) (pa_cons (pe_ix ix_seq (pv 0) pe_int (fun _ _ => rfl)) pa_nil)) (pe_one (pe_cmpR (op_eqA hr.units) (pv 0) (pv 1) (nomark _))))))))
theorem c_l_take (X : K.In h) (G : h.Ns mainGlobals mg) (c : He.SaysD fa fn K) (xx : exK K = true) (C_T_take : CalMt P w K mg base 1 (He.ga K "Tower") "take" ["self", "name"] (spM K (R_T_take K)) (fun fd => Binds K fd ["self", "name"] [])) (C_l_kinds : CalP P w K mg base 1 "_law_kinds" ["_law_e"] (fun a cls d => spM K (R_l_kinds K a cls d))) (C_l_only : Cal P w K mg base 1 "_law_only" ["_law_place"] (spD K R_l_only)) (C_l_is_beat : Cal P w K mg base 2 "_law_is_beat" ["_law_found", "_law_due"] (spD K R_l_is_beat)) : Cal P w K mg base 3 "_law_take" ["_law_tower", "_law_row", "_law_clean", "_law_name_here"] (spM K (R_l_take K)) := by
  obtain ⟨fd, F⟩ := c.def_ 30 (d := d_l_take) rfl
  have g0 := He.glo_ok X G (c.fact 33 (f := .glo "_law_take") rfl)
  obtain ⟨f_T_take, fd_T_take, c_T_take, m_T_take, F_T_take, B_T_take⟩ := C_T_take.ex
  have z_len := He.free_ok X G (c.fact 52 (f := .free "len") rfl)
  have z_range := He.free_ok X G (c.fact 59 (f := .free "range") rfl)
  have g_KnellError := He.glo_ok X G (c.fact 62 (f := .glo "KnellError") rfl)
  refine Cal.mk' (f := He.fAd K ("_law_take", none)) (fd := fd) g0 F.kp (FunD.bindsN F fun _ _ _ _ _ _ us hl => match us, hl with | [_, _, _, _], _ => rfl) (FunD.ok F sc_l_take (spM_len len_l_take) fun cdv A outer s H vs Q E hr hsp => ⟨t_l_take K E, ?_, body_pureM (N := ["_law_tower", "_law_row", "_law_clean", "_law_name_here", "_law_kinds_here", "_law_told", "_law_e", "_law_places", "_law_due", "_law_k"]) (body_l_take xx) rfl vs H Q E hsp⟩)
  exact PSs.nox (pss_cons (ps_set (i := 4) sc_l_take.nd rfl (.inl rfl) (pe_lst pa_nil))
      (pss_cons (ps_set (i := 5) sc_l_take.nd rfl (.inl rfl) pe_non)
      (pss_cons (ps_try_as (i := 6) (tb := fun W => (tAsg (tMethE (He.ga K "Tower") "take" (spM K (R_T_take K)) [] (WE W) (tVar 0) (tCons (tVar 3) tNil)) (gName 5))) (ts := fun a cls d => (tAsg (tCall (spM K (R_l_kinds K a cls d)) [] E0 (tCons (tVar 6) tNil)) (gName 4))) (Wout := fun _ _ _ _ => False) rfl rfl sc_l_take.nd rfl rfl ⟨rfl, by decide, .inl g_KnellError⟩ takes0 (fun W pn xe tk _ => (pss_one (ps_set (i := 5) sc_l_take.nd rfl (.inl rfl) (pe_methE (pv 0) c_T_take m_T_take F_T_take (hr.mono (by decide)) B_T_take .nil (fun σ => passAt tk σ) (pa_cons (pv 3) pa_nil))))) (fun a oe cls d pn hz hf => (pss_one (ps_set (i := 4) sc_l_take.nd rfl (.inl rfl) (pe_callP C_l_kinds (hr.mono (by decide)) (by rfl) hz hf (pa_cons (pv 6) pa_nil))))))
      (pss_cons (ps_setLcV (i := 7) [("_law_k", 9)] [9] rfl rfl sc_l_take.nd rfl rfl (sw_true rfl rfl rfl (by decide +kernel)) (pi_range1 (by rfl) z_range (pa_cons (pe_callB call_len (by rfl) z_len (by decide +kernel) (pa_cons (pv 1) pa_nil)) pa_nil)) (blkOk_by (own := [("_law_k", 9)]) (N := ["_law_tower", "_law_row", "_law_clean", "_law_name_here", "_law_kinds_here", "_law_told", "_law_e", "_law_places", "_law_due", "_law_k"]) (sc := defScope s_l_take) (by decide +kernel)) (fun _ _ _ _ _ => (pg_name (i := 9) sc_l_take.nd rfl (by first | exact .inl rfl | exact .inr rfl))) (fun _ _ _ _ _ => (pts_one (pt_cmpR (op_eqA hr.units) (pe_ix ix_seq (pe_ix ix_seq (pv 1) (pv 9) (fun _ _ => rfl)) pe_int (fun _ _ => rfl)) (pv 3) (nomark _)))) (fun _ _ _ _ _ => (pv 9)))
      (pss_cons (ps_if (pt_cmpR (op_eqA hr.units) (pe_callB call_len (by rfl) z_len (by decide +kernel) (pa_cons (pv 7) pa_nil)) pe_int (nomark _)) (pss_one (ps_ret (pe_and (pe_cmp (pc_isN (pv 5))) (pe_one (pe_cmpR (op_eqA hr.units) (pv 4) (pe_callC C_l_only (hr.mono (by decide)) (by rfl) (pa_cons pe_int pa_nil)) (nomark _)))))) pss_nil)
      (pss_cons (ps_set (i := 8) sc_l_take.nd rfl (.inl rfl) (pe_ix ix_seq (pe_bm PySem.F.plainAttrs_list PySem.F.slot_list_pop PySem.F.type_list_pop mt_popAt (pv 1) (pa_cons (pe_ix ix_seq (pv 7) pe_int (fun _ _ => rfl)) pa_nil)) pe_int (fun _ _ => rfl)))
      (pss_cons (ps_if (pt_cmpR op_lt (pe_ix ix_seq (pv 7) pe_int (fun _ _ => rfl)) (pe_ix ix_seq (pv 2) pe_int (fun _ _ => rfl)) (nomark _)) (pss_one (ps_asg (pe_op op_sub (pe_ix ix_seq (pv 2) pe_int (fun _ _ => rfl)) pe_int) (pg_sub (pv 2) pe_int set_list))) pss_nil)
      (pss_one (ps_ret (pe_and (pe_cmpR (op_eqA hr.units) (pv 4) (pe_lst pa_nil) (nomark _)) (pe_one (pe_callC C_l_is_beat (hr.mono (by decide)) (by rfl) (pa_cons (pv 5) (pa_cons (pv 8) pa_nil))))))))))))))
theorem c_l_trouble (X : K.In h) (G : h.Ns mainGlobals mg) (c : He.SaysD fa fn K) (xx : exK K = true) (C_l_divisor : Cal P w K mg base 1 "_law_divisor" ["_law_one", "_law_other"] (spD K R_l_divisor)) : Cal P w K mg base 2 "_law_trouble" ["_law_row", "_law_clean"] (spM K (R_l_trouble K)) := by
  obtain ⟨fd, F⟩ := c.def_ 31 (d := d_l_trouble) rfl
  have g0 := He.glo_ok X G (c.fact 34 (f := .glo "_law_trouble") rfl)
  have z_len := He.free_ok X G (c.fact 52 (f := .free "len") rfl)
  have z_range := He.free_ok X G (c.fact 59 (f := .free "range") rfl)
  refine Cal.mk' (f := He.fAd K ("_law_trouble", none)) (fd := fd) g0 F.kp (FunD.bindsN F fun _ _ _ _ _ _ us hl => match us, hl with | [_, _], _ => rfl) (FunD.ok F sc_l_trouble (spM_len len_l_trouble) fun cdv A outer s H vs Q E hr hsp => ⟨t_l_trouble K E, ?_, body_pureM (N := ["_law_row", "_law_clean", "_law_name_here", "_law_one", "_law_k", "_law_divisor_here"]) (body_l_trouble xx) rfl vs H Q E hsp⟩)
  exact PSs.nox (pss_cons (ps_while PassesOwn.never (pt_cmpR op_lt (pe_ix ix_seq (pv 1) pe_int (fun _ _ => rfl)) (pe_callB call_len (by rfl) z_len (by decide +kernel) (pa_cons (pv 0) pa_nil)) (nomark _)) (pss_cons (ps_asg (pe_ix ix_seq (pv 0) (pe_ix ix_seq (pv 1) pe_int (fun _ _ => rfl)) (fun _ _ => rfl)) (pg_tup rfl (pgs_cons (pg_name (i := 2) sc_l_trouble.nd rfl (.inl rfl)) (pgs_cons (pg_name (i := 3) sc_l_trouble.nd rfl (.inl rfl)) pgs_nil))))
      (pss_cons (ps_for PassesOwn.never rfl (pi_range1 (by rfl) z_range (pa_cons (pe_ix ix_seq (pv 1) pe_int (fun _ _ => rfl)) pa_nil)) (pg_name (i := 4) sc_l_trouble.nd rfl (.inl rfl)) (pss_cons (ps_set (i := 5) sc_l_trouble.nd rfl (.inl rfl) (pe_callC C_l_divisor (hr.mono (by decide)) (by rfl) (pa_cons (pe_ix ix_seq (pe_ix ix_seq (pe_ix ix_seq (pv 0) (pv 4) (fun _ _ => rfl)) pe_int (fun _ _ => rfl)) pe_int (fun _ _ => rfl)) (pa_cons (pe_ix ix_seq (pv 3) pe_int (fun _ _ => rfl)) pa_nil))))
      (pss_one (ps_if (pt_cmpR (op_neA hr.units) (pe_op op_mod (pe_op op_sub (pe_ix ix_seq (pe_ix ix_seq (pe_ix ix_seq (pv 0) (pv 4) (fun _ _ => rfl)) pe_int (fun _ _ => rfl)) pe_int (fun _ _ => rfl)) (pe_ix ix_seq (pv 3) pe_int (fun _ _ => rfl))) (pv 5)) pe_int (nomark _)) (pss_one (ps_ret (pe_lst (pa_cons (pe_ix ix_seq (pe_ix ix_seq (pv 0) (pv 4) (fun _ _ => rfl)) pe_int (fun _ _ => rfl)) (pa_cons (pv 2) (pa_cons (pv 5) pa_nil)))))) pss_nil))))
      (pss_one (ps_asg (pe_op op_addA (pe_ix ix_seq (pv 1) pe_int (fun _ _ => rfl)) pe_int) (pg_sub (pv 1) pe_int set_list))))))
      (pss_one (ps_ret (pe_lst pa_nil))))
theorem c_l_asked (X : K.In h) (G : h.Ns mainGlobals mg) (c : He.SaysD fa fn K) (xx : exK K = true) (C_T_next_together : CalMt P w K mg base 5 (He.ga K "Tower") "next_together" ["self", "moment"] (spM K (R_T_next_together K)) (BDf K ["self", "moment"] [.int 0] 1 ["moment"])) (C_T_next_any : CalMt P w K mg base 2 (He.ga K "Tower") "next_any" ["self", "moment"] (spM K (R_T_next_any K)) (BDf K ["self", "moment"] [.int 0] 1 ["moment"])) : Cal P w K mg base 6 "_law_asked" ["_law_tower", "_law_begin", "_law_plain", "_law_all_bells"] (spM K (R_l_asked K)) := by
  obtain ⟨fd, F⟩ := c.def_ 32 (d := d_l_asked) rfl
  have g0 := He.glo_ok X G (c.fact 35 (f := .glo "_law_asked") rfl)
  obtain ⟨f_T_next_together, fd_T_next_together, c_T_next_together, m_T_next_together, F_T_next_together, B_T_next_together⟩ := C_T_next_together.ex
  obtain ⟨ds_T_next_together, vd_T_next_together, bd_T_next_together⟩ := B_T_next_together.dfl
  obtain ⟨gk_T_next_together, kb_T_next_together⟩ := B_T_next_together.kw
  obtain ⟨f_T_next_any, fd_T_next_any, c_T_next_any, m_T_next_any, F_T_next_any, B_T_next_any⟩ := C_T_next_any.ex
  obtain ⟨ds_T_next_any, vd_T_next_any, bd_T_next_any⟩ := B_T_next_any.dfl
  obtain ⟨gk_T_next_any, kb_T_next_any⟩ := B_T_next_any.kw
  refine Cal.mk' (f := He.fAd K ("_law_asked", none)) (fd := fd) g0 F.kp (FunD.bindsN F fun _ _ _ _ _ _ us hl => match us, hl with | [_, _, _, _], _ => rfl) (FunD.ok F sc_l_asked (spM_len len_l_asked) fun cdv A outer s H vs Q E hr hsp => ⟨t_l_asked K E, ?_, body_pureM (N := ["_law_tower", "_law_begin", "_law_plain", "_law_all_bells"]) (body_l_asked xx) rfl vs H Q E hsp⟩)
  exact (pss_cons (ps_if (PW.pt (pw_and (pt_val (pv 3)) (pw_and1 (pt_val (pv 2))))) (pss_one (ps_ret (pe_methE0 (pv 0) c_T_next_together m_T_next_together F_T_next_together (hr.mono (by decide)) bd_T_next_together vd_T_next_together (fun σ => passAt (takes_of rfl rfl rfl rfl) σ)))) pss_nil)
      (pss_cons (ps_if (PW.pt (pw_and (pt_val (pv 3)) (pw_and1 (pt_cmpR (op_eqA hr.units) (pe_op op_mod (pv 1) pe_int) pe_int (nomark _))))) (pss_one (ps_ret (pe_methKE0 (pv 0) c_T_next_together m_T_next_together F_T_next_together (hr.mono (by decide)) kb_T_next_together (fun σ => passAt (takes_of rfl rfl rfl rfl) σ) (pk_cons (pv 1) pk_nil)))) pss_nil)
      (pss_cons (ps_if (pt_val (pv 3)) (pss_one (ps_ret (pe_methE (pv 0) c_T_next_together m_T_next_together F_T_next_together (hr.mono (by decide)) B_T_next_together.full .nil (fun σ => passAt (takes_of rfl rfl rfl rfl) σ) (pa_cons (pv 1) pa_nil)))) pss_nil)
      (pss_cons (ps_if (pt_val (pv 2)) (pss_one (ps_ret (pe_methE0 (pv 0) c_T_next_any m_T_next_any F_T_next_any (hr.mono (by decide)) bd_T_next_any vd_T_next_any (fun σ => passAt (takes_of rfl rfl rfl rfl) σ)))) pss_nil)
      (pss_cons (ps_if (pt_cmpR (op_eqA hr.units) (pe_op op_mod (pv 1) pe_int) pe_int (nomark _)) (pss_one (ps_ret (pe_methKE0 (pv 0) c_T_next_any m_T_next_any F_T_next_any (hr.mono (by decide)) kb_T_next_any (fun σ => passAt (takes_of rfl rfl rfl rfl) σ) (pk_cons (pv 1) pk_nil)))) pss_nil)
      (pss_one (ps_ret (pe_methE (pv 0) c_T_next_any m_T_next_any F_T_next_any (hr.mono (by decide)) B_T_next_any.full .nil (fun σ => passAt (takes_of rfl rfl rfl rfl) σ) (pa_cons (pv 1) pa_nil)))))))))
theorem c_l_all_ring (X : K.In h) (G : h.Ns mainGlobals mg) (c : He.SaysD fa fn K) (xx : exK K = true) (C_l_asked : Cal P w K mg base 6 "_law_asked" ["_law_tower", "_law_begin", "_law_plain", "_law_all_bells"] (spM K (R_l_asked K))) (C_l_kinds : CalP P w K mg base 1 "_law_kinds" ["_law_e"] (fun a cls d => spM K (R_l_kinds K a cls d))) (C_l_fields : CalP P w K mg base 1 "_law_fields" ["_law_e"] (fun a cls d => spM K (R_l_fields K a cls d))) (C_l_trouble : Cal P w K mg base 2 "_law_trouble" ["_law_row", "_law_clean"] (spM K (R_l_trouble K))) (C_l_only : Cal P w K mg base 1 "_law_only" ["_law_place"] (spD K R_l_only)) (C_l_whole : Cal P w K mg base 1 "_law_whole" ["_law_found"] (spD K R_l_whole)) (C_l_divisor : Cal P w K mg base 1 "_law_divisor" ["_law_one", "_law_other"] (spD K R_l_divisor)) : Cal P w K mg base 7 "_law_all_ring" ["_law_tower", "_law_row", "_law_clean", "_law_begin", "_law_plain"] (spM K (R_l_all_ring K)) := by
  obtain ⟨fd, F⟩ := c.def_ 33 (d := d_l_all_ring) rfl
  have g0 := He.glo_ok X G (c.fact 36 (f := .glo "_law_all_ring") rfl)
  have z_isinstance := He.free_ok X G (c.fact 58 (f := .free "isinstance") rfl)
  have z_len := He.free_ok X G (c.fact 52 (f := .free "len") rfl)
  have z_str := He.free_ok X G (c.fact 64 (f := .free "str") rfl)
  have g_KnellError := He.glo_ok X G (c.fact 62 (f := .glo "KnellError") rfl)
  refine Cal.mk' (f := He.fAd K ("_law_all_ring", none)) (fd := fd) g0 F.kp (FunD.bindsN F fun _ _ _ _ _ _ us hl => match us, hl with | [_, _, _, _, _], _ => rfl) (FunD.ok F sc_l_all_ring (spM_len len_l_all_ring) fun cdv A outer s H vs Q E hr hsp => ⟨t_l_all_ring K E, ?_, body_pureM (N := ["_law_tower", "_law_row", "_law_clean", "_law_begin", "_law_plain", "_law_kinds_here", "_law_fields_here", "_law_told", "_law_e", "_law_trouble_here", "_law_wide", "_law_name_here", "_law_one"]) (body_l_all_ring xx) rfl vs H Q E hsp⟩)
  exact PSs.nox (pss_cons (ps_set (i := 5) sc_l_all_ring.nd rfl (.inl rfl) (pe_lst pa_nil))
      (pss_cons (ps_set (i := 6) sc_l_all_ring.nd rfl (.inl rfl) (pe_lst pa_nil))
      (pss_cons (ps_set (i := 7) sc_l_all_ring.nd rfl (.inl rfl) pe_non)
      (pss_cons (ps_try_as (i := 8) (tb := fun W => (tAsg (tCallS (spM K (R_l_asked K)) (WE W) (tCons (tVar 0) (tCons (tVar 3) (tCons (tVar 4) (tCons (tC (.bl true)) tNil))))) (gName 7))) (ts := fun a cls d => (tSeq (tAsg (tCall (spM K (R_l_kinds K a cls d)) [] E0 (tCons (tVar 8) tNil)) (gName 5))
  (tAsg (tCall (spM K (R_l_fields K a cls d)) [] E0 (tCons (tVar 8) tNil)) (gName 6)))) (Wout := fun _ _ _ _ => False) rfl rfl sc_l_all_ring.nd rfl rfl ⟨rfl, by decide, .inl g_KnellError⟩ takes0 (fun W pn xe tk _ => (pss_one (ps_set (i := 7) sc_l_all_ring.nd rfl (.inl rfl) (pe_callCS C_l_asked (hr.mono (by decide)) (by rfl) tk (pa_cons (pv 0) (pa_cons (pv 3) (pa_cons (pv 4) (pa_cons pe_bl pa_nil)))))))) (fun a oe cls d pn hz hf => (pss_cons (ps_set (i := 5) sc_l_all_ring.nd rfl (.inl rfl) (pe_callP C_l_kinds (hr.mono (by decide)) (by rfl) hz hf (pa_cons (pv 8) pa_nil)))
      (pss_one (ps_set (i := 6) sc_l_all_ring.nd rfl (.inl rfl) (pe_callP C_l_fields (hr.mono (by decide)) (by rfl) hz hf (pa_cons (pv 8) pa_nil)))))))
      (pss_cons (ps_set (i := 9) sc_l_all_ring.nd rfl (.inl rfl) (pe_callC C_l_trouble (hr.mono (by decide)) (by rfl) (pa_cons (pv 1) (pa_cons (pv 2) pa_nil))))
      (pss_cons (ps_if (pt_cmpR op_gt (pe_callB call_len (by rfl) z_len (by decide +kernel) (pa_cons (pv 9) pa_nil)) pe_int (nomark _)) (pss_cons (ps_if (PW.pt (pw_or (pt_cmp (pc_notN (pv 7))) (pw_or (pt_cmpR (op_neA hr.units) (pv 5) (pe_callC C_l_only (hr.mono (by decide)) (by rfl) (pa_cons pe_int pa_nil)) (nomark _)) (pw_or1 (pt_not (pt_val (pe_callC C_l_whole (hr.mono (by decide)) (by rfl) (pa_cons (pe_ix ix_seq (pv 6) pe_int (fun _ _ => rfl)) pa_nil)))))))) (pss_one (ps_ret pe_bl)) pss_nil)
      (pss_one (ps_ret (pe_and (pe_callB call_isi (by rfl) z_isinstance (by decide +kernel) (pa_cons (pe_ix ix_seq (pv 6) pe_int (fun _ _ => rfl)) (pa_cons (pe_bltn (v := .ty "str") (u := .type "str") (by rfl) z_str (by decide +kernel) rfl) pa_nil))) (pe_and (pe_callB call_isi (by rfl) z_isinstance (by decide +kernel) (pa_cons (pe_ix ix_seq (pv 6) pe_int (fun _ _ => rfl)) (pa_cons (pe_bltn (v := .ty "str") (u := .type "str") (by rfl) z_str (by decide +kernel) rfl) pa_nil))) (pe_one (pe_cmpR (op_eqA hr.units) (pv 6) (pv 9) (nomark _)))))))) pss_nil)
      (pss_cons (ps_if (PW.pt (pw_or (pt_cmpR (op_neA hr.units) (pv 5) (pe_lst pa_nil) (nomark _)) (pw_or (pt_not (pt_val (pe_callC C_l_whole (hr.mono (by decide)) (by rfl) (pa_cons (pv 7) pa_nil)))) (pw_or1 (pt_cmpR op_lt (pv 7) (pv 3) (nomark _)))))) (pss_one (ps_ret pe_bl)) pss_nil)
      (pss_cons (ps_set (i := 10) sc_l_all_ring.nd rfl (.inl rfl) pe_int)
      (pss_cons (ps_for PassesOwn.never rfl (pi_seq (pv 1)) (pg_tup rfl (pgs_cons (pg_name (i := 11) sc_l_all_ring.nd rfl (.inl rfl)) (pgs_cons (pg_name (i := 12) sc_l_all_ring.nd rfl (.inl rfl)) pgs_nil))) (pss_cons (ps_if (pt_cmpR (op_neA hr.units) (pe_op op_mod (pe_op op_sub (pv 7) (pe_ix ix_seq (pv 12) pe_int (fun _ _ => rfl))) (pe_ix ix_seq (pv 12) pe_int (fun _ _ => rfl))) pe_int (nomark _)) (pss_one (ps_ret pe_bl)) pss_nil)
      (pss_one (ps_set (i := 10) sc_l_all_ring.nd rfl (.inl rfl) (pe_op op_mulI (pe_op op_divI (pv 10) (pe_callC C_l_divisor (hr.mono (by decide)) (by rfl) (pa_cons (pv 10) (pa_cons (pe_ix ix_seq (pv 12) pe_int (fun _ _ => rfl)) pa_nil)))) (pe_ix ix_seq (pv 12) pe_int (fun _ _ => rfl)))))))
      (pss_one (ps_ret (pe_cmpR op_lt (pe_op op_sub (pv 7) (pv 10)) (pv 3) (nomark _)))))))))))))
theorem c_l_some_ring (X : K.In h) (G : h.Ns mainGlobals mg) (c : He.SaysD fa fn K) (xx : exK K = true) (C_l_asked : Cal P w K mg base 6 "_law_asked" ["_law_tower", "_law_begin", "_law_plain", "_law_all_bells"] (spM K (R_l_asked K))) (C_l_kinds : CalP P w K mg base 1 "_law_kinds" ["_law_e"] (fun a cls d => spM K (R_l_kinds K a cls d))) (C_l_only : Cal P w K mg base 1 "_law_only" ["_law_place"] (spD K R_l_only)) (C_l_whole : Cal P w K mg base 1 "_law_whole" ["_law_found"] (spD K R_l_whole)) : Cal P w K mg base 7 "_law_some_ring" ["_law_tower", "_law_row", "_law_begin", "_law_plain", "_law_held", "_law_emptied"] (spM K (R_l_some_ring K)) := by
  obtain ⟨fd, F⟩ := c.def_ 34 (d := d_l_some_ring) rfl
  have g0 := He.glo_ok X G (c.fact 37 (f := .glo "_law_some_ring") rfl)
  have z_isinstance := He.free_ok X G (c.fact 58 (f := .free "isinstance") rfl)
  have z_len := He.free_ok X G (c.fact 52 (f := .free "len") rfl)
  have z_list := He.free_ok X G (c.fact 65 (f := .free "list") rfl)
  have z_str := He.free_ok X G (c.fact 64 (f := .free "str") rfl)
  have z_tuple := He.free_ok X G (c.fact 63 (f := .free "tuple") rfl)
  have g_KnellError := He.glo_ok X G (c.fact 62 (f := .glo "KnellError") rfl)
  refine Cal.mk' (f := He.fAd K ("_law_some_ring", none)) (fd := fd) g0 F.kp (FunD.bindsN F fun _ _ _ _ _ _ us hl => match us, hl with | [_, _, _, _, _, _], _ => rfl) (FunD.ok F sc_l_some_ring (spM_len len_l_some_ring) fun cdv A outer s H vs Q E hr hsp => ⟨t_l_some_ring K E, ?_, body_pureM (N := ["_law_tower", "_law_row", "_law_begin", "_law_plain", "_law_held", "_law_emptied", "_law_kinds_here", "_law_told", "_law_e", "_law_name_here", "_law_one", "_law_due"]) (body_l_some_ring xx) rfl vs H Q E hsp⟩)
  exact PSs.nox (pss_cons (ps_set (i := 6) sc_l_some_ring.nd rfl (.inl rfl) (pe_lst pa_nil))
      (pss_cons (ps_set (i := 7) sc_l_some_ring.nd rfl (.inr rfl) pe_non)
      (pss_cons (ps_try_as (i := 8) (tb := fun W => (tAsg (tCallS (spM K (R_l_asked K)) (WE W) (tCons (tVar 0) (tCons (tVar 2) (tCons (tVar 3) (tCons (tC (.bl false)) tNil))))) (gName 7))) (ts := fun a cls d => (tAsg (tCall (spM K (R_l_kinds K a cls d)) [] E0 (tCons (tVar 8) tNil)) (gName 6))) (Wout := fun _ _ _ _ => False) rfl rfl sc_l_some_ring.nd rfl rfl ⟨rfl, by decide, .inl g_KnellError⟩ takes0 (fun W pn xe tk _ => (pss_one (ps_set (i := 7) sc_l_some_ring.nd rfl (.inr rfl) (pe_callCS C_l_asked (hr.mono (by decide)) (by rfl) tk (pa_cons (pv 0) (pa_cons (pv 2) (pa_cons (pv 3) (pa_cons pe_bl pa_nil)))))))) (fun a oe cls d pn hz hf => (pss_one (ps_set (i := 6) sc_l_some_ring.nd rfl (.inl rfl) (pe_callP C_l_kinds (hr.mono (by decide)) (by rfl) hz hf (pa_cons (pv 8) pa_nil))))))
      (pss_cons (ps_if (pt_cmpR (op_eqA hr.units) (pe_callB call_len (by rfl) z_len (by decide +kernel) (pa_cons (pv 1) pa_nil)) pe_int (nomark _)) (pss_one (ps_ret (pe_and (pe_cmp (pc_isN (pv 7))) (pe_one (pe_cmpR (op_eqA hr.units) (pv 6) (pe_callC C_l_only (hr.mono (by decide)) (by rfl) (pa_cons pe_int pa_nil)) (nomark _)))))) pss_nil)
      (pss_cons (ps_if (PW.pt (pw_or (pt_cmpR (op_neA hr.units) (pv 6) (pe_lst pa_nil) (nomark _)) (pw_or (pt_not (pt_val (pe_callB call_isi (by rfl) z_isinstance (by decide +kernel) (pa_cons (pv 7) (pa_cons (pe_bltn (v := .ty "tuple") (u := .type "tuple") (by rfl) z_tuple (by decide +kernel) rfl) pa_nil))))) (pw_or1 (pt_cmpR (op_neA hr.units) (pe_callB call_len (by rfl) z_len (by decide +kernel) (pa_cons (pv 7) pa_nil)) pe_int (nomark _)))))) (pss_one (ps_ret pe_bl)) pss_nil)
      (pss_cons (ps_if (PW.pt (pw_or (pt_not (pt_val (pe_callC C_l_whole (hr.mono (by decide)) (by rfl) (pa_cons (pe_ix ix_seq (pv 7) pe_int (fun _ _ => rfl)) pa_nil)))) (pw_or (pt_cmpR op_lt (pe_ix ix_seq (pv 7) pe_int (fun _ _ => rfl)) (pv 2) (nomark _)) (pw_or1 (pt_not (pt_val (pe_callB call_isi (by rfl) z_isinstance (by decide +kernel) (pa_cons (pe_ix ix_seq (pv 7) pe_int (fun _ _ => rfl)) (pa_cons (pe_bltn (v := .ty "list") (u := .type "list") (by rfl) z_list (by decide +kernel) rfl) pa_nil))))))))) (pss_one (ps_ret pe_bl)) pss_nil)
      (pss_cons (ps_for PassesOwn.never rfl (pi_seq (pv 1)) (pg_tup rfl (pgs_cons (pg_name (i := 9) sc_l_some_ring.nd rfl (.inl rfl)) (pgs_cons (pg_name (i := 10) sc_l_some_ring.nd rfl (.inl rfl)) pgs_nil))) (pss_one (ps_if (pt_cmpR op_lt (pe_op op_addA (pv 2) (pe_op op_mod (pe_op op_sub (pe_ix ix_seq (pv 10) pe_int (fun _ _ => rfl)) (pv 2)) (pe_ix ix_seq (pv 10) pe_int (fun _ _ => rfl)))) (pe_ix ix_seq (pv 7) pe_int (fun _ _ => rfl)) (nomark _)) (pss_one (ps_ret pe_bl)) pss_nil)))
      (pss_cons (ps_setLcV (i := 11) [("_law_name_here", 9), ("_law_one", 10)] [9, 10] rfl rfl sc_l_some_ring.nd rfl rfl (sw_true rfl rfl rfl (by decide +kernel)) (pi_seq (pv 1)) (blkOk_by (own := [("_law_name_here", 9), ("_law_one", 10)]) (N := ["_law_tower", "_law_row", "_law_begin", "_law_plain", "_law_held", "_law_emptied", "_law_kinds_here", "_law_told", "_law_e", "_law_name_here", "_law_one", "_law_due"]) (sc := defScope s_l_some_ring) (by decide +kernel)) (fun _ _ _ _ _ => (pg_tup rfl (pgs_cons (pg_name (i := 9) sc_l_some_ring.nd rfl (by first | exact .inl rfl | exact .inr rfl)) (pgs_cons (pg_name (i := 10) sc_l_some_ring.nd rfl (by first | exact .inl rfl | exact .inr rfl)) pgs_nil)))) (fun _ _ _ _ _ => (pts_one (pt_cmpR (op_eqA hr.units) (pe_op op_mod (pe_op op_sub (pe_ix ix_seq (pv 7) pe_int (fun _ _ => rfl)) (pe_ix ix_seq (pv 10) pe_int (fun _ _ => rfl))) (pe_ix ix_seq (pv 10) pe_int (fun _ _ => rfl))) pe_int (nomark _)))) (fun _ _ _ _ _ => (pv 9)))
      (pss_cons (ps_if (PW.pt (pw_or (pt_cmpR (op_eqA hr.units) (pe_callB call_len (by rfl) z_len (by decide +kernel) (pa_cons (pv 11) pa_nil)) pe_int (nomark _)) (pw_or (pt_cmpR (op_neA hr.units) (pe_ix ix_seq (pv 7) pe_int (fun _ _ => rfl)) (pv 11) (nomark _)) (pw_or1 (pt_cmpR op_gt (pe_callB call_len (by rfl) z_len (by decide +kernel) (pa_cons (pe_lcV [("_law_name_here", 9)] [9] rfl rfl sc_l_some_ring.nd (pi_seq (pe_ix ix_seq (pv 7) pe_int (fun _ _ => rfl))) (blkOk_by (own := [("_law_name_here", 9)]) (N := ["_law_tower", "_law_row", "_law_begin", "_law_plain", "_law_held", "_law_emptied", "_law_kinds_here", "_law_told", "_law_e", "_law_name_here", "_law_one", "_law_due"]) (sc := defScope s_l_some_ring) (by decide +kernel)) (fun _ _ _ _ _ => (pg_name (i := 9) sc_l_some_ring.nd rfl (by first | exact .inl rfl | exact .inr rfl))) (fun _ _ _ _ _ => (pts_one (pt_not (pt_val (pe_callB call_isi (by rfl) z_isinstance (by decide +kernel) (pa_cons (pv 9) (pa_cons (pe_bltn (v := .ty "str") (u := .type "str") (by rfl) z_str (by decide +kernel) rfl) pa_nil))))))) (fun _ _ _ _ _ => (pv 9))) pa_nil)) pe_int (nomark _)))))) (pss_one (ps_ret pe_bl)) pss_nil)
      (pss_cons (ps_if (pt_val (pv 5)) (pss_cons (ps_expr (pe_bm0 PySem.F.plainAttrs_list PySem.F.slot_list_clear PySem.F.type_list_clear mt_clear (pe_ix ix_seq (pv 7) pe_int (fun _ _ => rfl))))
      (pss_one (ps_set (i := 11) sc_l_some_ring.nd rfl (.inl rfl) (pe_lst pa_nil)))) pss_nil)
      (pss_cons (ps_expr (pe_bm PySem.F.plainAttrs_list PySem.F.slot_list_append PySem.F.type_list_append mt_append (pv 4) (pa_cons (pe_tup (pa_cons (pe_ix ix_seq (pv 7) pe_int (fun _ _ => rfl)) (pa_cons (pv 11) pa_nil))) pa_nil)))
      (pss_one (ps_ret pe_bl)))))))))))))
theorem c_l_bells (X : K.In h) (G : h.Ns mainGlobals mg) (c : He.SaysD fa fn K) (xx : exK K = true) (C_T_bells : CalMt P w K mg base 1 (He.ga K "Tower") "bells" ["self"] (spM K (R_T_bells K)) (fun fd => Binds K fd ["self"] [])) (C_l_is_beat : Cal P w K mg base 2 "_law_is_beat" ["_law_found", "_law_due"] (spD K R_l_is_beat)) : Cal P w K mg base 3 "_law_bells" ["_law_tower", "_law_row", "_law_held", "_law_emptied"] (spM K (R_l_bells K)) := by
  obtain ⟨fd, F⟩ := c.def_ 35 (d := d_l_bells) rfl
  have g0 := He.glo_ok X G (c.fact 38 (f := .glo "_law_bells") rfl)
  obtain ⟨f_T_bells, fd_T_bells, c_T_bells, m_T_bells, F_T_bells, B_T_bells⟩ := C_T_bells.ex
  have z_isinstance := He.free_ok X G (c.fact 58 (f := .free "isinstance") rfl)
  have z_len := He.free_ok X G (c.fact 52 (f := .free "len") rfl)
  have z_list := He.free_ok X G (c.fact 65 (f := .free "list") rfl)
  have z_range := He.free_ok X G (c.fact 59 (f := .free "range") rfl)
  have z_str := He.free_ok X G (c.fact 64 (f := .free "str") rfl)
  have z_tuple := He.free_ok X G (c.fact 63 (f := .free "tuple") rfl)
  refine Cal.mk' (f := He.fAd K ("_law_bells", none)) (fd := fd) g0 F.kp (FunD.bindsN F fun _ _ _ _ _ _ us hl => match us, hl with | [_, _, _, _], _ => rfl) (FunD.ok F sc_l_bells (spM_len len_l_bells) fun cdv A outer s H vs Q E hr hsp => ⟨t_l_bells K E, ?_, body_pureM (N := ["_law_tower", "_law_row", "_law_held", "_law_emptied", "_law_found", "_law_k", "_law_due"]) (body_l_bells xx) rfl vs H Q E hsp⟩)
  exact PSs.nox (pss_cons (ps_set (i := 4) sc_l_bells.nd rfl (.inl rfl) (pe_methE0 (pv 0) c_T_bells m_T_bells F_T_bells (hr.mono (by decide)) B_T_bells .nil passAtL))
      (pss_cons (ps_if (PW.pt (pw_or (pt_not (pt_val (pe_callB call_isi (by rfl) z_isinstance (by decide +kernel) (pa_cons (pv 4) (pa_cons (pe_bltn (v := .ty "list") (u := .type "list") (by rfl) z_list (by decide +kernel) rfl) pa_nil))))) (pw_or1 (pt_cmpR (op_neA hr.units) (pe_callB call_len (by rfl) z_len (by decide +kernel) (pa_cons (pv 4) pa_nil)) (pe_callB call_len (by rfl) z_len (by decide +kernel) (pa_cons (pv 1) pa_nil)) (nomark _))))) (pss_one (ps_ret pe_bl)) pss_nil)
      (pss_cons (ps_for PassesOwn.never rfl (pi_range1 (by rfl) z_range (pa_cons (pe_callB call_len (by rfl) z_len (by decide +kernel) (pa_cons (pv 1) pa_nil)) pa_nil)) (pg_name (i := 5) sc_l_bells.nd rfl (.inl rfl)) (pss_cons (ps_if (PW.pt (pw_or (pt_not (pt_val (pe_callB call_isi (by rfl) z_isinstance (by decide +kernel) (pa_cons (pe_ix ix_seq (pv 4) (pv 5) (fun _ _ => rfl)) (pa_cons (pe_bltn (v := .ty "tuple") (u := .type "tuple") (by rfl) z_tuple (by decide +kernel) rfl) pa_nil))))) (pw_or (pt_cmpR (op_neA hr.units) (pe_callB call_len (by rfl) z_len (by decide +kernel) (pa_cons (pe_ix ix_seq (pv 4) (pv 5) (fun _ _ => rfl)) pa_nil)) pe_int (nomark _)) (pw_or1 (pt_not (pt_val (pe_callB call_isi (by rfl) z_isinstance (by decide +kernel) (pa_cons (pe_ix ix_seq (pe_ix ix_seq (pv 4) (pv 5) (fun _ _ => rfl)) pe_int (fun _ _ => rfl)) (pa_cons (pe_bltn (v := .ty "str") (u := .type "str") (by rfl) z_str (by decide +kernel) rfl) pa_nil))))))))) (pss_one (ps_ret pe_bl)) pss_nil)
      (pss_one (ps_if (PW.pt (pw_or (pt_cmpR (op_neA hr.units) (pe_ix ix_seq (pe_ix ix_seq (pv 4) (pv 5) (fun _ _ => rfl)) pe_int (fun _ _ => rfl)) (pe_ix ix_seq (pe_ix ix_seq (pv 1) (pv 5) (fun _ _ => rfl)) pe_int (fun _ _ => rfl)) (nomark _)) (pw_or1 (pt_not (pt_val (pe_callC C_l_is_beat (hr.mono (by decide)) (by rfl) (pa_cons (pe_ix ix_seq (pe_ix ix_seq (pv 4) (pv 5) (fun _ _ => rfl)) pe_int (fun _ _ => rfl)) (pa_cons (pe_ix ix_seq (pe_ix ix_seq (pv 1) (pv 5) (fun _ _ => rfl)) pe_int (fun _ _ => rfl)) pa_nil)))))))) (pss_one (ps_ret pe_bl)) pss_nil))))
      (pss_cons (ps_set (i := 6) sc_l_bells.nd rfl (.inl rfl) (pe_callTy call_list_of (by rfl) z_list (by decide +kernel) (pa_cons (pv 1) pa_nil)))
      (pss_cons (ps_if (pt_val (pv 3)) (pss_cons (ps_expr (pe_bm0 PySem.F.plainAttrs_list PySem.F.slot_list_clear PySem.F.type_list_clear mt_clear (pv 4)))
      (pss_one (ps_set (i := 6) sc_l_bells.nd rfl (.inl rfl) (pe_lst pa_nil)))) pss_nil)
      (pss_cons (ps_expr (pe_bm PySem.F.plainAttrs_list PySem.F.slot_list_append PySem.F.type_list_append mt_append (pv 2) (pa_cons (pe_tup (pa_cons (pv 4) (pa_cons (pv 6) pa_nil))) pa_nil)))
      (pss_one (ps_ret pe_bl))))))))
theorem c_l_done (X : K.In h) (G : h.Ns mainGlobals mg) (c : He.SaysD fa fn K) (xx : exK K = true) (C_l_take : Cal P w K mg base 3 "_law_take" ["_law_tower", "_law_row", "_law_clean", "_law_name_here"] (spM K (R_l_take K))) (C_l_name : Cal P w K mg base 1 "_law_name" ["_law_row", "_law_names_here", "_law_number", "_law_share"] (spD K R_l_name)) (C_l_gap : Cal P w K mg base 1 "_law_gap" ["_law_number"] (spD K R_l_gap)) (C_l_cell_at : Cal P w K mg base 1 "_law_cell_at" ["_law_script", "_law_k"] (spD K R_l_cell_at)) (C_l_hang : Cal P w K mg base 3 "_law_hang" ["_law_tower", "_law_row", "_law_name_here", "_law_first", "_law_wide", "_law_plain"] (spM K (R_l_hang K))) (C_l_all_ring : Cal P w K mg base 7 "_law_all_ring" ["_law_tower", "_law_row", "_law_clean", "_law_begin", "_law_plain"] (spM K (R_l_all_ring K))) (C_l_some_ring : Cal P w K mg base 7 "_law_some_ring" ["_law_tower", "_law_row", "_law_begin", "_law_plain", "_law_held", "_law_emptied"] (spM K (R_l_some_ring K))) (C_l_bells : Cal P w K mg base 3 "_law_bells" ["_law_tower", "_law_row", "_law_held", "_law_emptied"] (spM K (R_l_bells K))) : Cal P w K mg base 8 "_law_done" ["_law_tower", "_law_row", "_law_clean", "_law_names_here", "_law_cell", "_law_script", "_law_held"] (spM K (R_l_done K)) := by
  obtain ⟨fd, F⟩ := c.def_ 36 (d := d_l_done) rfl
  have g0 := He.glo_ok X G (c.fact 39 (f := .glo "_law_done") rfl)
  have z_len := He.free_ok X G (c.fact 52 (f := .free "len") rfl)
  refine Cal.mk' (f := He.fAd K ("_law_done", none)) (fd := fd) g0 F.kp (FunD.bindsN F fun _ _ _ _ _ _ us hl => match us, hl with | [_, _, _, _, _, _, _], _ => rfl) (FunD.ok F sc_l_done (spM_len len_l_done) fun cdv A outer s H vs Q E hr hsp => ⟨t_l_done K E, ?_, body_pureM (N := ["_law_tower", "_law_row", "_law_clean", "_law_names_here", "_law_cell", "_law_script", "_law_held", "_law_way", "_law_number", "_law_begin", "_law_plain", "_law_wide", "_law_mixed", "_law_first"]) (body_l_done xx) rfl vs H Q E hsp⟩)
  exact PSs.nox (pss_cons (ps_set (i := 7) sc_l_done.nd rfl (.inl rfl) (pe_op op_mod (pv 4) pe_int))
      (pss_cons (ps_set (i := 8) sc_l_done.nd rfl (.inl rfl) (pe_op op_divI (pv 4) pe_int))
      (pss_cons (ps_set (i := 9) sc_l_done.nd rfl (.inl rfl) (pe_op op_sub (pe_op op_mod (pe_op op_mulI (pe_op op_divI (pv 8) pe_int) pe_int) (pe_op op_addA (pe_op op_mulI pe_int (pe_op op_pow pe_int pe_int)) pe_int)) (pe_op op_pow pe_int pe_int)))
      (pss_cons (ps_if (pt_cmpR (op_eqA hr.units) (pe_op op_mod (pv 8) pe_int) pe_int (nomark _)) (pss_one (ps_set (i := 9) sc_l_done.nd rfl (.inl rfl) (pe_op op_sub (pe_op op_mod (pe_op op_divI (pv 8) pe_int) pe_int) pe_int))) pss_nil)
      (pss_cons (ps_set (i := 10) sc_l_done.nd rfl (.inl rfl) (pe_cmpR op_in_seq (pv 7) (pe_tup (pa_cons pe_int (pa_cons pe_int (pa_cons pe_int pa_nil)))) rfl))
      (pss_cons (ps_if (pt_val (pv 10)) (pss_one (ps_set (i := 9) sc_l_done.nd rfl (.inl rfl) pe_int)) pss_nil)
      (pss_cons (ps_if (PW.pt (pw_or (pt_cmpR (op_eqA hr.units) (pv 7) pe_int (nomark _)) (pw_or1 (PW.pt (pw_and (pt_cmpR op_lt (pv 7) pe_int (nomark _)) (pw_and1 (pt_cmpR op_ge (pe_callB call_len (by rfl) z_len (by decide +kernel) (pa_cons (pv 1) pa_nil)) pe_int (nomark _)))))))) (pss_one (ps_ret (pe_callC C_l_take (hr.mono (by decide)) (by rfl) (pa_cons (pv 0) (pa_cons (pv 1) (pa_cons (pv 2) (pa_cons (pe_callC C_l_name (hr.mono (by decide)) (by rfl) (pa_cons (pv 1) (pa_cons (pv 3) (pa_cons (pv 8) (pa_cons pe_int pa_nil))))) pa_nil))))))) pss_nil)
      (pss_cons (ps_if (pt_cmpR op_lt (pv 7) pe_int (nomark _)) (pss_cons (ps_set (i := 11) sc_l_done.nd rfl (.inl rfl) (pe_callC C_l_gap (hr.mono (by decide)) (by rfl) (pa_cons (pe_op op_mod (pe_op op_mulI (pv 4) pe_int) (pe_op op_addA (pe_op op_pow pe_int pe_int) pe_int)) pa_nil)))
      (pss_cons (ps_if (pt_val (pv 10)) (pss_one (ps_set (i := 11) sc_l_done.nd rfl (.inl rfl) pe_int)) pss_nil)
      (pss_cons (ps_set (i := 12) sc_l_done.nd rfl (.inl rfl) (pe_op op_mod (pe_op op_mulI (pv 8) pe_int) pe_int))
      (pss_cons (ps_set (i := 13) sc_l_done.nd rfl (.inl rfl) (pe_op op_addA (pe_op op_sub (pe_op op_mod (pe_callC C_l_cell_at (hr.mono (by decide)) (by rfl) (pa_cons (pv 5) (pa_cons pe_int pa_nil))) (pe_op op_addA (pe_op op_mulI pe_int (pe_op op_pow pe_int pe_int)) pe_int)) (pe_op op_pow pe_int pe_int)) (pe_op op_mulI (pv 11) (pe_op op_sub (pv 12) (pe_op op_pow pe_int pe_int)))))
      (pss_cons (ps_if (PW.pt (pw_and (pt_cmpR (op_eqA hr.units) (pe_op op_mod (pe_callC C_l_cell_at (hr.mono (by decide)) (by rfl) (pa_cons (pv 5) (pa_cons pe_int pa_nil))) pe_int) pe_int (nomark _)) (pw_and1 (pt_cmpR (op_eqA hr.units) (pe_op op_mod (pe_op op_divI (pv 12) pe_int) pe_int) pe_int (nomark _))))) (pss_one (ps_set (i := 13) sc_l_done.nd rfl (.inl rfl) (pe_op op_addA (pe_op op_addA (pv 13) pe_int) (pe_op op_mod (pe_op op_divI (pv 12) pe_int) pe_int)))) pss_nil)
      (pss_one (ps_ret (pe_callC C_l_hang (hr.mono (by decide)) (by rfl) (pa_cons (pv 0) (pa_cons (pv 1) (pa_cons (pe_callC C_l_name (hr.mono (by decide)) (by rfl) (pa_cons (pv 1) (pa_cons (pv 3) (pa_cons (pv 8) (pa_cons pe_int pa_nil))))) (pa_cons (pv 13) (pa_cons (pv 11) (pa_cons (pv 10) pa_nil)))))))))))))) pss_nil)
      (pss_cons (ps_if (PW.pt (pw_or (pt_cmpR (op_eqA hr.units) (pv 7) pe_int (nomark _)) (pw_or1 (pt_cmpR (op_eqA hr.units) (pv 7) pe_int (nomark _))))) (pss_one (ps_ret (pe_callC C_l_all_ring (hr.mono (by decide)) (by rfl) (pa_cons (pv 0) (pa_cons (pv 1) (pa_cons (pv 2) (pa_cons (pv 9) (pa_cons (pv 10) pa_nil)))))))) pss_nil)
      (pss_cons (ps_if (PW.pt (pw_or (pt_cmpR (op_eqA hr.units) (pv 7) pe_int (nomark _)) (pw_or1 (pt_cmpR (op_eqA hr.units) (pv 7) pe_int (nomark _))))) (pss_one (ps_ret (pe_callC C_l_some_ring (hr.mono (by decide)) (by rfl) (pa_cons (pv 0) (pa_cons (pv 1) (pa_cons (pv 9) (pa_cons (pv 10) (pa_cons (pv 6) (pa_cons (pe_cmpR (op_eqA hr.units) (pe_op op_mod (pe_op op_divI (pv 8) pe_int) pe_int) pe_int (nomark _)) pa_nil))))))))) pss_nil)
      (pss_one (ps_ret (pe_callC C_l_bells (hr.mono (by decide)) (by rfl) (pa_cons (pv 0) (pa_cons (pv 1) (pa_cons (pv 6) (pa_cons (pe_cmpR (op_eqA hr.units) (pe_op op_mod (pe_op op_divI (pv 8) pe_int) pe_int) pe_int (nomark _)) pa_nil)))))))))))))))))
theorem c_l_made_good (X : K.In h) (G : h.Ns mainGlobals mg) (c : He.SaysD fa fn K) (xx : exK K = true) (C_l_trouble : Cal P w K mg base 2 "_law_trouble" ["_law_row", "_law_clean"] (spM K (R_l_trouble K))) (C_l_all_ring : Cal P w K mg base 7 "_law_all_ring" ["_law_tower", "_law_row", "_law_clean", "_law_begin", "_law_plain"] (spM K (R_l_all_ring K))) (C_l_take : Cal P w K mg base 3 "_law_take" ["_law_tower", "_law_row", "_law_clean", "_law_name_here"] (spM K (R_l_take K))) (C_l_new_name : Cal P w K mg base 1 "_law_new_name" ["_law_row", "_law_names_here"] (spD K R_l_new_name)) (C_l_hang : Cal P w K mg base 3 "_law_hang" ["_law_tower", "_law_row", "_law_name_here", "_law_first", "_law_wide", "_law_plain"] (spM K (R_l_hang K))) (C_l_some_ring : Cal P w K mg base 7 "_law_some_ring" ["_law_tower", "_law_row", "_law_begin", "_law_plain", "_law_held", "_law_emptied"] (spM K (R_l_some_ring K))) (C_l_bells : Cal P w K mg base 3 "_law_bells" ["_law_tower", "_law_row", "_law_held", "_law_emptied"] (spM K (R_l_bells K))) : Cal P w K mg base 8 "_law_made_good" ["_law_tower", "_law_row", "_law_clean", "_law_names_here", "_law_begin", "_law_held"] (spM K (R_l_made_good K)) := by
  obtain ⟨fd, F⟩ := c.def_ 37 (d := d_l_made_good) rfl
  have g0 := He.glo_ok X G (c.fact 40 (f := .glo "_law_made_good") rfl)
  have z_len := He.free_ok X G (c.fact 52 (f := .free "len") rfl)
  have z_range := He.free_ok X G (c.fact 59 (f := .free "range") rfl)
  refine Cal.mk' (f := He.fAd K ("_law_made_good", none)) (fd := fd) g0 F.kp (FunD.bindsN F fun _ _ _ _ _ _ us hl => match us, hl with | [_, _, _, _, _, _], _ => rfl) (FunD.ok F sc_l_made_good (spM_len len_l_made_good) fun cdv A outer s H vs Q E hr hsp => ⟨t_l_made_good K E, ?_, body_pureM (N := ["_law_tower", "_law_row", "_law_clean", "_law_names_here", "_law_begin", "_law_held", "_law_k", "_law_trouble_here", "_law_name_here"]) (body_l_made_good xx) rfl vs H Q E hsp⟩)
  exact PSs.nox (pss_cons (ps_for PassesOwn.never rfl (pi_range1 (by rfl) z_range (pa_cons pe_int pa_nil)) (pg_name (i := 6) sc_l_made_good.nd rfl (.inl rfl)) (pss_cons (ps_set (i := 7) sc_l_made_good.nd rfl (.inl rfl) (pe_callC C_l_trouble (hr.mono (by decide)) (by rfl) (pa_cons (pv 1) (pa_cons (pv 2) pa_nil))))
      (pss_cons (ps_if (pt_not (pt_val (pe_callC C_l_all_ring (hr.mono (by decide)) (by rfl) (pa_cons (pv 0) (pa_cons (pv 1) (pa_cons (pv 2) (pa_cons (pv 4) (pa_cons pe_bl pa_nil)))))))) (pss_one (ps_ret pe_bl)) pss_nil)
      (pss_one (ps_if (PW.pt (pw_and (pt_cmpR op_gt (pe_callB call_len (by rfl) z_len (by decide +kernel) (pa_cons (pv 7) pa_nil)) pe_int (nomark _)) (pw_and1 (pt_not (pt_val (pe_callC C_l_take (hr.mono (by decide)) (by rfl) (pa_cons (pv 0) (pa_cons (pv 1) (pa_cons (pv 2) (pa_cons (pe_ix ix_seq (pv 7) pe_int (fun _ _ => rfl)) pa_nil)))))))))) (pss_one (ps_ret pe_bl)) pss_nil)))))
      (pss_cons (ps_set (i := 8) sc_l_made_good.nd rfl (.inl rfl) (pe_callC C_l_new_name (hr.mono (by decide)) (by rfl) (pa_cons (pv 1) (pa_cons (pv 3) pa_nil))))
      (pss_cons (ps_if (PW.pt (pw_or (pt_not (pt_val (pe_callC C_l_take (hr.mono (by decide)) (by rfl) (pa_cons (pv 0) (pa_cons (pv 1) (pa_cons (pv 2) (pa_cons (pv 8) pa_nil))))))) (pw_or1 (pt_not (pt_val (pe_callC C_l_hang (hr.mono (by decide)) (by rfl) (pa_cons (pv 0) (pa_cons (pv 1) (pa_cons (pv 8) (pa_cons (pv 4) (pa_cons pe_int (pa_cons pe_bl pa_nil)))))))))))) (pss_one (ps_ret pe_bl)) pss_nil)
      (pss_cons (ps_if (PW.pt (pw_or (pt_not (pt_val (pe_callC C_l_some_ring (hr.mono (by decide)) (by rfl) (pa_cons (pv 0) (pa_cons (pv 1) (pa_cons (pv 4) (pa_cons pe_bl (pa_cons (pv 5) (pa_cons pe_bl pa_nil))))))))) (pw_or1 (pt_not (pt_val (pe_callC C_l_take (hr.mono (by decide)) (by rfl) (pa_cons (pv 0) (pa_cons (pv 1) (pa_cons (pv 2) (pa_cons (pv 8) pa_nil)))))))))) (pss_one (ps_ret pe_bl)) pss_nil)
      (pss_one (ps_ret (pe_callC C_l_bells (hr.mono (by decide)) (by rfl) (pa_cons (pv 0) (pa_cons (pv 1) (pa_cons (pv 5) (pa_cons pe_bl pa_nil)))))))))))
theorem c_l_clash_made (X : K.In h) (G : h.Ns mainGlobals mg) (c : He.SaysD fa fn K) (xx : exK K = true) (C_C_init : CalCl P w K mg base 1 (He.ga K "Clash") ["self", "first", "second", "divisor"] (spM K (R_C_init K))) (C_l_fieldsT : Cal P w K mg base 1 "_law_fields" ["_law_e"] (spM K (R_l_fieldsT K))) (C_l_kindsT : Cal P w K mg base 1 "_law_kinds" ["_law_e"] (spM K (R_l_kindsT K))) (C_l_only : Cal P w K mg base 1 "_law_only" ["_law_place"] (spD K R_l_only)) : Cal P w K mg base 3 "_law_clash_made" ["_law_names_here", "_law_cell"] (spM K (R_l_clash_made K)) := by
  obtain ⟨fd, F⟩ := c.def_ 38 (d := d_l_clash_made) rfl
  have g0 := He.glo_ok X G (c.fact 41 (f := .glo "_law_clash_made") rfl)
  obtain ⟨f_C_init, fd_C_init, o_C_init, i_C_init, t_C_init, F_C_init, B_C_init⟩ := C_C_init.ex
  have g_Clash := He.glo_ok X G (c.fact 0 (f := .glo "Clash") rfl)
  refine Cal.mk' (f := He.fAd K ("_law_clash_made", none)) (fd := fd) g0 F.kp (FunD.bindsN F fun _ _ _ _ _ _ us hl => match us, hl with | [_, _], _ => rfl) (FunD.ok F sc_l_clash_made (spM_len len_l_clash_made) fun cdv A outer s H vs Q E hr hsp => ⟨t_l_clash_made K E, ?_, body_pureM (N := ["_law_names_here", "_law_cell", "_law_e"]) (body_l_clash_made xx) rfl vs H Q E hsp⟩)
  exact PSs.nox (pss_cons (ps_set (i := 2) sc_l_clash_made.nd rfl (.inl rfl) (pe_mkV (pmk_oex o_C_init i_C_init t_C_init F_C_init (hr.mono (by decide)) B_C_init .nil passL (by rfl) g_Clash (pa_cons (pe_ix ix_seq (pv 0) pe_int (fun _ _ => rfl)) (pa_cons (pe_ix ix_seq (pv 0) pe_int (fun _ _ => rfl)) (pa_cons (pe_op op_addA pe_int (pe_op op_mod (pv 1) (pe_op op_pow pe_int pe_int))) pa_nil))))))
      (pss_one (ps_ret (pe_and (pe_cmpR (op_eqA hr.units) (pe_callC C_l_fieldsT (hr.mono (by decide)) (by rfl) (pa_cons (pv 2) pa_nil)) (pe_lst (pa_cons (pe_ix ix_seq (pv 0) pe_int (fun _ _ => rfl)) (pa_cons (pe_ix ix_seq (pv 0) pe_int (fun _ _ => rfl)) (pa_cons (pe_op op_addA pe_int (pe_op op_mod (pv 1) (pe_op op_pow pe_int pe_int))) pa_nil)))) (nomark _)) (pe_one (pe_cmpR (op_eqA hr.units) (pe_callC C_l_kindsT (hr.mono (by decide)) (by rfl) (pa_cons (pv 2) pa_nil)) (pe_callC C_l_only (hr.mono (by decide)) (by rfl) (pa_cons pe_int pa_nil)) (nomark _)))))))
theorem c_law (X : K.In h) (G : h.Ns mainGlobals mg) (c : He.SaysD fa fn K) (xx : exK K = true) (C_l_names : Cal P w K mg base 1 "_law_names" ["_law_cell"] (spD K R_l_names)) (C_l_cell_at : Cal P w K mg base 1 "_law_cell_at" ["_law_script", "_law_k"] (spD K R_l_cell_at)) (C_l_clash_made : Cal P w K mg base 3 "_law_clash_made" ["_law_names_here", "_law_cell"] (spM K (R_l_clash_made K))) (C_T_init : CalMk P w K mg base 1 (He.ga K "Tower") ["self"] (spM K (R_T_init K))) (C_l_done : Cal P w K mg base 8 "_law_done" ["_law_tower", "_law_row", "_law_clean", "_law_names_here", "_law_cell", "_law_script", "_law_held"] (spM K (R_l_done K))) (C_l_made_good : Cal P w K mg base 8 "_law_made_good" ["_law_tower", "_law_row", "_law_clean", "_law_names_here", "_law_begin", "_law_held"] (spM K (R_l_made_good K))) {f : Addr} {fd : FuncData} (F : FunD K "law" "law" (defArgs s_law) (defBody s_law) (defScope s_law) [] [] f fd) : FnOk P w K mg base (L2.CX P w) 9 f fd ["_law_script"] (spM K (R_law K)) := by
  obtain ⟨f_T_init, fd_T_init, k_T_init, F_T_init, B_T_init⟩ := C_T_init.ex
  have z_int := He.free_ok X G (c.fact 57 (f := .free "int") rfl)
  have z_range := He.free_ok X G (c.fact 59 (f := .free "range") rfl)
  have g_Tower := He.glo_ok X G (c.fact 10 (f := .glo "Tower") rfl)
  refine FunD.ok F sc_law (spM_len len_law) fun cdv A outer s H vs Q E hr hsp => ⟨t_law K E, ?_, body_pureM (N := ["_law_script", "_law_names_here", "_law_towers", "_law_rows", "_law_cleans", "_law_held", "_law_cell", "_law_at", "_law_begin", "_law_found", "_law_due"]) (body_law xx) rfl vs H Q E hsp⟩
  exact PSs.nox (pss_cons (ps_set (i := 1) sc_law.nd rfl (.inl rfl) (pe_callC C_l_names (hr.mono (by decide)) (by rfl) (pa_cons (pe_callC C_l_cell_at (hr.mono (by decide)) (by rfl) (pa_cons (pv 0) (pa_cons pe_int pa_nil))) pa_nil)))
      (pss_cons (ps_if (pt_not (pt_val (pe_callC C_l_clash_made (hr.mono (by decide)) (by rfl) (pa_cons (pv 1) (pa_cons (pe_callC C_l_cell_at (hr.mono (by decide)) (by rfl) (pa_cons (pv 0) (pa_cons pe_int pa_nil))) pa_nil))))) (pss_one (ps_ret pe_bl)) pss_nil)
      (pss_cons (ps_set (i := 2) sc_law.nd rfl (.inl rfl) (pe_lst (pa_cons (pe_make0 k_T_init F_T_init (hr.mono (by decide)) (by rfl) g_Tower B_T_init .nil passL) (pa_cons (pe_make0 k_T_init F_T_init (hr.mono (by decide)) (by rfl) g_Tower B_T_init .nil passL) pa_nil))))
      (pss_cons (ps_set (i := 3) sc_law.nd rfl (.inl rfl) (pe_lst (pa_cons (pe_lst pa_nil) (pa_cons (pe_lst pa_nil) pa_nil))))
      (pss_cons (ps_set (i := 4) sc_law.nd rfl (.inl rfl) (pe_lst (pa_cons (pe_lst (pa_cons pe_int pa_nil)) (pa_cons (pe_lst (pa_cons pe_int pa_nil)) pa_nil))))
      (pss_cons (ps_set (i := 5) sc_law.nd rfl (.inl rfl) (pe_lst pa_nil))
      (pss_cons (ps_for PassesOwn.never rfl (pi_seq (pe_slice sl_list (pv 0) (po_some pe_int) (po_some pe_int))) (pg_name (i := 6) sc_law.nd rfl (.inl rfl)) (pss_cons (ps_set (i := 7) sc_law.nd rfl (.inl rfl) (pe_callTy call_int1 (by rfl) z_int (by decide +kernel) (pa_cons (pe_cmpR (op_eqA hr.units) (pe_op op_mod (pe_op op_divI (pe_op op_mod (pe_op op_mulI (pv 6) pe_int) pe_int) pe_int) pe_int) pe_int (nomark _)) pa_nil)))
      (pss_one (ps_if (pt_not (pt_val (pe_callC C_l_done (hr.mono (by decide)) (by rfl) (pa_cons (pe_ix ix_seq (pv 2) (pv 7) (fun _ _ => rfl)) (pa_cons (pe_ix ix_seq (pv 3) (pv 7) (fun _ _ => rfl)) (pa_cons (pe_ix ix_seq (pv 4) (pv 7) (fun _ _ => rfl)) (pa_cons (pv 1) (pa_cons (pv 6) (pa_cons (pv 0) (pa_cons (pv 5) pa_nil)))))))))) (pss_one (ps_ret pe_bl)) pss_nil))))
      (pss_cons (ps_set (i := 8) sc_law.nd rfl (.inl rfl) (pe_op op_sub (pe_op op_mod (pe_op op_divI (pe_callC C_l_cell_at (hr.mono (by decide)) (by rfl) (pa_cons (pv 0) (pa_cons pe_int pa_nil))) pe_int) (pe_op op_addA (pe_op op_mulI pe_int (pe_op op_pow pe_int pe_int)) pe_int)) (pe_op op_pow pe_int pe_int)))
      (pss_cons (ps_for PassesOwn.never rfl (pi_range1 (by rfl) z_range (pa_cons pe_int pa_nil)) (pg_name (i := 7) sc_law.nd rfl (.inl rfl)) (pss_one (ps_if (pt_not (pt_val (pe_callC C_l_made_good (hr.mono (by decide)) (by rfl) (pa_cons (pe_ix ix_seq (pv 2) (pv 7) (fun _ _ => rfl)) (pa_cons (pe_ix ix_seq (pv 3) (pv 7) (fun _ _ => rfl)) (pa_cons (pe_ix ix_seq (pv 4) (pv 7) (fun _ _ => rfl)) (pa_cons (pv 1) (pa_cons (pv 8) (pa_cons (pv 5) pa_nil))))))))) (pss_one (ps_ret pe_bl)) pss_nil)))
      (pss_cons (ps_for PassesOwn.never rfl (pi_seq (pv 5)) (pg_tup rfl (pgs_cons (pg_name (i := 9) sc_law.nd rfl (.inl rfl)) (pgs_cons (pg_name (i := 10) sc_law.nd rfl (.inl rfl)) pgs_nil))) (pss_one (ps_if (pt_cmpR (op_neA hr.units) (pv 9) (pv 10) (nomark _)) (pss_one (ps_ret pe_bl)) pss_nil)))
      (pss_one (ps_ret pe_bl))))))))))))
end
abbrev R0 : PySem.W.OpenRow := PySem.W.OpenLaw.row PySem.Challenge.rw_knell_k10_whole_tower
def loose0 : List PySem.Str := ["KnellError", "NoBeat", "NoBell", "TooMany", "Twice", "NoName", "Clash", "beat", "rings", "next_from", "weights", "clash", "met", "smaller", "first_clash", "together", "Tower", "_law_cell_at", "_law_whole", "_law_divisor", "_law_names", "_law_name", "_law_new_name", "_law_gap", "_law_kinds", "_law_only", "_law_fields", "_law_hang", "_law_is_beat", "_law_take"]
def loose1 : List PySem.Str := ["_law_trouble", "_law_asked", "_law_all_ring", "_law_some_ring", "_law_bells", "_law_done", "_law_made_good", "_law_clash_made"]
abbrev loose : List PySem.Str := loose0 ++ loose1
abbrev hk : PySem.W.Hook := hookX 4 fa fn exK
def ob (s : PySem.W.SharedT) : AlX := obsXG 4 fa fn exK (HandSHeadRun.getT s)
theorem ob_eq (s : PySem.W.SharedT) : ob s = hk.obs s.abs := obsXG_eq (HandSHeadRun.getT_eq s)
theorem run (w : World) : HandSHeadRun.RunEq R0 (PySem.W.view R0.prog [44]) hk ob 4000 loose w := by
  intro os
  kernel_rfl
theorem facts {P : Program} {w : World} {K : PySem.W.Frag} {h : Heap} {mg : Str → Option Value} {f : Addr} (X : K.In h) (G : h.Ns mainGlobals mg) (hfa : mg ("law" : Str) = some (.ref f)) (c : He.SaysD fa fn K) (xx : exK K = true) :
    ∃ (fd : FuncData) (sp : Sp), (∀ (s : Shared) (u : Value), BindsTo s fd ⟨[u], []⟩ [("_law_script", u)]) ∧ (∀ (H : Hp) (a : Addr) (ns : List Int), ns.length ≤ 63 → Only H → SqL K H a (ns.map V.int) → sp [.ref a] H (fun v _ => v = .bl true) fun _ _ _ => False) ∧
      ∀ base : Heap, K.In base → base.Ns mainGlobals mg → FnOk P w K mg base (L2.CX P w) 9 f fd ["_law_script"] sp := by
  obtain ⟨fd, F⟩ := c.def_ 39 (d := d_law) rfl
  have e := hfa.symm.trans (He.glo_ok X G (c.fact 42 (f := .glo "law") rfl))
  cases e
  obtain ⟨h1, h2⟩ := law_endM (x := "_law_script") (R := R_law K) F (fun _ _ _ _ _ _ us hl => match us, hl with | [_], _ => rfl) law_holds
  refine ⟨fd, spM K (R_law K), h1, h2, fun base _ _ => ?_⟩
  have C_l_names := c_l_names (P := P) (w := w) (base := base) X G c xx 
  have C_l_cell_at := c_l_cell_at (P := P) (w := w) (base := base) X G c xx 
  have C_C_init := c_C_init (P := P) (w := w) (base := base) X G c xx 
  have C_l_fieldsT := c_l_fieldsT (P := P) (w := w) (base := base) X G c xx 
  have C_l_kindsT := c_l_kindsT (P := P) (w := w) (base := base) X G c xx 
  have C_l_only := c_l_only (P := P) (w := w) (base := base) X G c xx 
  have C_l_clash_made := c_l_clash_made (P := P) (w := w) (base := base) X G c xx C_C_init C_l_fieldsT C_l_kindsT C_l_only
  have C_T_init := c_T_init (P := P) (w := w) (base := base) X G c xx 
  have C_T_take := c_T_take (P := P) (w := w) (base := base) X G c xx 
  have C_l_kinds := c_l_kinds (P := P) (w := w) (base := base) X G c xx 
  have C_l_whole := c_l_whole (P := P) (w := w) (base := base) X G c xx 
  have C_l_is_beat := c_l_is_beat (P := P) (w := w) (base := base) X G c xx C_l_whole
  have C_l_take := c_l_take (P := P) (w := w) (base := base) X G c xx C_T_take C_l_kinds C_l_only C_l_is_beat
  have C_l_name := c_l_name (P := P) (w := w) (base := base) X G c xx 
  have C_l_gap := c_l_gap (P := P) (w := w) (base := base) X G c xx 
  have C_beat := c_beat (P := P) (w := w) (base := base) X G c xx 
  have C_T_hang := c_T_hang (P := P) (w := w) (base := base) X G c xx C_beat
  have C_l_hang := c_l_hang (P := P) (w := w) (base := base) X G c xx C_T_hang C_l_kinds C_l_only
  have C_T_bells := c_T_bells (P := P) (w := w) (base := base) X G c xx 
  have C_weights := c_weights (P := P) (w := w) (base := base) X G c xx 
  have C_clash := c_clash (P := P) (w := w) (base := base) X G c xx C_weights
  have C_met := c_met (P := P) (w := w) (base := base) X G c xx C_clash C_weights C_beat
  have C_first_clash := c_first_clash (P := P) (w := w) (base := base) X G c xx C_clash
  have C_smaller := c_smaller (P := P) (w := w) (base := base) X G c xx 
  have C_together := c_together (P := P) (w := w) (base := base) X G c xx C_met C_first_clash C_weights C_smaller
  have C_next_from := c_next_from (P := P) (w := w) (base := base) X G c xx 
  have C_T_next_together := c_T_next_together (P := P) (w := w) (base := base) X G c xx C_T_bells C_together C_C_init C_next_from
  have C_rings := c_rings (P := P) (w := w) (base := base) X G c xx 
  have C_T_next_any := c_T_next_any (P := P) (w := w) (base := base) X G c xx C_T_bells C_next_from C_rings
  have C_l_asked := c_l_asked (P := P) (w := w) (base := base) X G c xx C_T_next_together C_T_next_any
  have C_l_fields := c_l_fields (P := P) (w := w) (base := base) X G c xx 
  have C_l_divisor := c_l_divisor (P := P) (w := w) (base := base) X G c xx 
  have C_l_trouble := c_l_trouble (P := P) (w := w) (base := base) X G c xx C_l_divisor
  have C_l_all_ring := c_l_all_ring (P := P) (w := w) (base := base) X G c xx C_l_asked C_l_kinds C_l_fields C_l_trouble C_l_only C_l_whole C_l_divisor
  have C_l_some_ring := c_l_some_ring (P := P) (w := w) (base := base) X G c xx C_l_asked C_l_kinds C_l_only C_l_whole
  have C_l_bells := c_l_bells (P := P) (w := w) (base := base) X G c xx C_T_bells C_l_is_beat
  have C_l_done := c_l_done (P := P) (w := w) (base := base) X G c xx C_l_take C_l_name C_l_gap C_l_cell_at C_l_hang C_l_all_ring C_l_some_ring C_l_bells
  have C_l_new_name := c_l_new_name (P := P) (w := w) (base := base) X G c xx 
  have C_l_made_good := c_l_made_good (P := P) (w := w) (base := base) X G c xx C_l_trouble C_l_all_ring C_l_take C_l_new_name C_l_hang C_l_some_ring C_l_bells
  exact (c_law (P := P) (w := w) (base := base) X G c xx C_l_names C_l_cell_at C_l_clash_made C_T_init C_l_done C_l_made_good) F

end Kn
open PySem PySem.W PySem.Calls PyProof.Rows
theorem PySem.Challenge.cw_knell_k10_whole_tower_holds : PySem.Challenge.rw_knell_k10_whole_tower.Holds := by
  w_on; o_law
  refine HandSHeadRun.head_any (r := OpenLaw.row PySem.Challenge.rw_knell_k10_whole_tower) (q := view (OpenLaw.row PySem.Challenge.rw_knell_k10_whole_tower).prog [44]) (H := Kn.hk) (ob := Kn.ob) (M := 4000) (loose := Kn.loose) (d := HandSHeadRun.topDef (OpenLaw.row PySem.Challenge.rw_knell_k10_whole_tower).prog 44) (kwd := []) Kn.ob_eq
    (by kernel_rfl) (fun s => by kernel_rfl) Kn.run (by kernel_rfl) (by kernel_rfl) (by kernel_rfl) (by rfl) (by first | assumption | decide +kernel) (by decide +kernel) ⟨rfl, rfl, rfl, rfl, rfl, by decide +kernel⟩ ?hw ?hc
  case hw => w_witness2
  case hc =>
    refine Kn.walk_end (l := PySem.Challenge.rw_knell_k10_whole_tower) (n := 63) (k := 9) (x := "_law_script") rfl (by decide) (by kernel_rfl) ⟨rfl, by decide, by decide⟩ ?F
    case F =>
      intro w mg fa h Y G hmg0
      obtain ⟨K, KX, c, xx⟩ := Y
      have hmg : mg ("law" : PySem.Str) = some (.ref fa) := by
        have e : (HandSHeadRun.topDef (OpenLaw.row PySem.Challenge.rw_knell_k10_whole_tower).prog 44).name = ("law" : PySem.Str) := by kernel_rfl
        rw [← e]
        exact hmg0
      obtain ⟨fd, sp, hb, hs, hF⟩ := Kn.facts (P := (PySem.Challenge.rw_knell_k10_whole_tower).prog) (w := w) KX G hmg c xx
      exact ⟨K, fd, sp, KX, hb, hs, hF⟩
