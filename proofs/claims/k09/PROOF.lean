import PyProof.Rows.All
import Wide.All
import OpenK.AllK
import Wide.FinOn
import KE.KStateDown
import Lean
import HandS.ForMost
import HandS.ForExc
import HandS.IsInst
import HandS.ExcIs
import HandS.Wide
import HandS.Defaults
import HandS.More
import HandS.Head0
import HandS.Head1
import HandS.Head2
import HandS.HeadHook1
import HandS.HeadHook2
import HandS.HeadEnd
import HandS.TryMany
import HandS.HotCalls
import PySem.Challenge.RW_knell_k09_whole_roll
set_option Elab.async false
set_option linter.all false
set_option maxRecDepth 100000
set_option maxHeartbeats 16000000
/-! A level above the hand layer: values told as plain data, the heap out of sight. -/
namespace Kn
open PySem PySem.Spec L2

/-! ### data -/
inductive D where
  | non | bl (b : Bool) | int (i : Int) | str (s : Str) | tup (ds : List D) | lst (ds : List D) | fro (ds : List D) | obj (v : V)

mutual
inductive Rep (K : PySem.W.Frag) (H : Hp) : V → D → Prop
  | non : Rep K H .non .non
  | bl (b : Bool) : Rep K H (.bl b) (.bl b)
  | int (i : Int) : Rep K H (.int i) (.int i)
  | str (x : Str) : Rep K H (.str x) (.str x)
  | tup {a : Addr} {xs : List V} {ds : List D} : H a = some (.tup xs) → RepAll K H xs ds → Rep K H (.ref a) (.tup ds)
  | lst {a : Addr} {xs : List V} {ds : List D} : H a = some (.lst xs) → RepAll K H xs ds → Rep K H (.ref a) (.lst ds)
  | fro {a : Addr} {xs : List V} {ds : List D} : SqL K H a xs → RepAll K H xs ds → Rep K H (.ref a) (.fro ds)
  | obj (v : V) : Rep K H v (.obj v)
inductive RepAll (K : PySem.W.Frag) (H : Hp) : List V → List D → Prop
  | nil : RepAll K H [] []
  | cons {v : V} {vs : List V} {d : D} {ds : List D} : Rep K H v d → RepAll K H vs ds → RepAll K H (v :: vs) (d :: ds)
end

abbrev Le (H H' : Hp) : Prop := ∀ a o, H a = some o → H' a = some o
theorem Le.rd {H H' : Hp} {a : Addr} {u : HO} (e : Le H H') (h : Rd H a u) : Rd H' a u := by
  rcases h with h | ⟨o, h⟩
  · exact .inl (e a _ h)
  · exact .inr ⟨o, e a _ h⟩
theorem Le.l {K : PySem.W.Frag} {H H' : Hp} {a : Addr} {xs : List V} (e : Le H H') (h : SqL K H a xs) : SqL K H' a xs := by
  rcases h with h | h
  · exact .inl (Le.rd e h)
  · exact .inr h
theorem Le.refl (H : Hp) : Le H H := fun _ _ h => h
theorem Le.trans {H H1 H2 : Hp} (a : Le H H1) (b : Le H1 H2) : Le H H2 := fun x o h => b x o (a x o h)
theorem Le.none {H H' : Hp} {p : Addr} (e : Le H H') (h : H' p = Option.none) : H p = Option.none := by
  cases h1 : H p with
  | none => rfl
  | some o =>
    rw [e p o h1] at h
    cases h
theorem Le.new {H : Hp} {p : Addr} {o : HO} (h : H p = Option.none) : Le H (upd H p o) := fun a u e => by
  rw [upd_ne (ne_of_none e h)]
  exact e
/-- an object that H does not know may change -/
theorem Le.mut {H H' : Hp} {p : Addr} {o : HO} (e : Le H H') (h : H p = Option.none) : Le H (upd H' p o) := fun a u ha => by
  rw [upd_ne (ne_of_none ha h)]
  exact e a u ha

section
variable {K : PySem.W.Frag} {H H' : Hp}
mutual
theorem Rep.mono (e : Le H H') : ∀ {v : V} {d : D}, Rep K H v d → Rep K H' v d
  | _, _, .non => .non
  | _, _, .bl b => .bl b
  | _, _, .int i => .int i
  | _, _, .str x => .str x
  | _, _, .tup h r => .tup (e _ _ h) (RepAll.mono e r)
  | _, _, .lst h r => .lst (e _ _ h) (RepAll.mono e r)
  | _, _, .fro h r => .fro (Le.l e h) (RepAll.mono e r)
  | _, _, .obj v => .obj v
theorem RepAll.mono (e : Le H H') : ∀ {vs : List V} {ds : List D}, RepAll K H vs ds → RepAll K H' vs ds
  | _, _, .nil => .nil
  | _, _, .cons r t => .cons (Rep.mono e r) (RepAll.mono e t)
end
theorem RepAll.length : ∀ {vs : List V} {ds : List D}, RepAll K H vs ds → vs.length = ds.length
  | _, _, .nil => rfl
  | _, _, .cons _ t => congrArg Nat.succ (RepAll.length t)
theorem RepAll.get : ∀ {vs : List V} {ds : List D} {i : Nat} {v : V}, RepAll K H vs ds → vs[i]? = some v → ∃ d, ds[i]? = some d ∧ Rep K H v d
  | _, _, _, _, .nil, e => by simp at e
  | _, _, 0, _, .cons r _, e => by simp at e; subst e; exact ⟨_, rfl, r⟩
  | _, _, i + 1, v, .cons _ t, e => by
    obtain ⟨d, h1, h2⟩ := RepAll.get (i := i) (v := v) t (by simpa using e)
    exact ⟨d, by simpa using h1, h2⟩
theorem RepAll.getD : ∀ {vs : List V} {ds : List D} {i : Nat} {d : D}, RepAll K H vs ds → ds[i]? = some d → ∃ v, vs[i]? = some v ∧ Rep K H v d
  | _, _, _, _, .nil, e => by simp at e
  | _, _, 0, _, .cons r _, e => by simp at e; subst e; exact ⟨_, rfl, r⟩
  | _, _, i + 1, d, .cons _ t, e => by
    obtain ⟨v, h1, h2⟩ := RepAll.getD (i := i) (d := d) t (by simpa using e)
    exact ⟨v, by simpa using h1, h2⟩
theorem RepAll.append : ∀ {vs ws : List V} {ds es : List D}, RepAll K H vs ds → RepAll K H ws es → RepAll K H (vs ++ ws) (ds ++ es)
  | _, _, _, _, .nil, s => s
  | _, _, _, _, .cons r t, s => .cons r (RepAll.append t s)
theorem RepAll.set {v : V} {d : D} (q : Rep K H v d) : ∀ {vs : List V} {ds : List D} (i : Nat), RepAll K H vs ds → RepAll K H (vs.set i v) (ds.set i d)
  | _, _, _, .nil => .nil
  | _, _, 0, .cons _ t => .cons q t
  | _, _, i + 1, .cons r t => .cons r (RepAll.set q i t)
theorem RepAll.take : ∀ {vs : List V} {ds : List D} (n : Nat), RepAll K H vs ds → RepAll K H (vs.take n) (ds.take n)
  | _, _, 0, _ => .nil
  | _, _, _ + 1, .nil => .nil
  | _, _, n + 1, .cons r t => .cons r (RepAll.take n t)
theorem RepAll.drop : ∀ {vs : List V} {ds : List D} (n : Nat), RepAll K H vs ds → RepAll K H (vs.drop n) (ds.drop n)
  | _, _, 0, r => r
  | _, _, _ + 1, .nil => .nil
  | _, _, n + 1, .cons _ t => RepAll.drop n t
theorem RepAll.ints : ∀ (ns : List Int), RepAll K H (ns.map V.int) (ns.map D.int)
  | [] => .nil
  | n :: ns => .cons (.int n) (RepAll.ints ns)
theorem RepAll.ints_inv : ∀ {ns : List Int} {vs : List V}, RepAll K H vs (ns.map D.int) → vs = ns.map V.int
  | [], _, .nil => rfl
  | n :: ns, _, .cons r t => by
    cases r
    rw [RepAll.ints_inv t] <;> rfl
theorem Rep.int_inv {v : V} {i : Int} (r : Rep K H v (.int i)) : v = .int i := by cases r; rfl
theorem Rep.bl_inv {v : V} {b : Bool} (r : Rep K H v (.bl b)) : v = .bl b := by cases r; rfl
theorem Rep.str_inv {v : V} {x : Str} (r : Rep K H v (.str x)) : v = .str x := by cases r; rfl
theorem Rep.non_inv {v : V} (r : Rep K H v .non) : v = .non := by cases r; rfl
theorem Rep.obj_inv {v w : V} (r : Rep K H v (.obj w)) : v = w := by cases r; rfl
/-- a list, of either kind -/
def lstOf : D → Option (List D)
  | .lst ds => some ds
  | .fro ds => some ds
  | _ => none
def seqOf : D → Option (List D)
  | .lst ds => some ds
  | .fro ds => some ds
  | .tup ds => some ds
  | _ => none
theorem Rep.list {v : V} {d : D} {ds : List D} (r : Rep K H v d) (h : lstOf d = some ds) : ∃ a xs, v = .ref a ∧ SqL K H a xs ∧ RepAll K H xs ds := by
  cases r with
  | lst e r => cases h; exact ⟨_, _, rfl, SqL.of e, r⟩
  | fro e r => cases h; exact ⟨_, _, rfl, e, r⟩
  | _ => cases h
theorem Rep.seq {v : V} {d : D} {ds : List D} (r : Rep K H v d) (h : seqOf d = some ds) : ∃ a xs, v = .ref a ∧ (SqL K H a xs ∨ SqT K H a xs) ∧ RepAll K H xs ds := by
  cases r with
  | lst e r => cases h; exact ⟨_, _, rfl, .inl (SqL.of e), r⟩
  | fro e r => cases h; exact ⟨_, _, rfl, .inl e, r⟩
  | tup e r => cases h; exact ⟨_, _, rfl, .inr (SqT.of e), r⟩
  | _ => cases h
theorem Rep.tup_inv {v : V} {ds : List D} (r : Rep K H v (.tup ds)) : ∃ a xs, v = .ref a ∧ H a = some (.tup xs) ∧ RepAll K H xs ds := by
  cases r with
  | tup e r => exact ⟨_, _, rfl, e, r⟩
theorem Rep.lst_inv {v : V} {ds : List D} (r : Rep K H v (.lst ds)) : ∃ a xs, v = .ref a ∧ H a = some (.lst xs) ∧ RepAll K H xs ds := by
  cases r with
  | lst e r => exact ⟨_, _, rfl, e, r⟩
end

/-! ### how the heap grows; what a state is -/
structure Gr (Hv H Hv' H' : Hp) : Prop where
  big : Le H H'
  vis : Le Hv Hv'
  sub : Le Hv' H'
  old : ∀ a, H a ≠ none → Hv' a = Hv a
theorem Gr.refl {Hv H : Hp} (s : Le Hv H) : Gr Hv H Hv H := ⟨Le.refl _, Le.refl _, s, fun _ _ => rfl⟩
theorem Gr.trans {Hv H Hv1 H1 Hv2 H2 : Hp} (a : Gr Hv H Hv1 H1) (b : Gr Hv1 H1 Hv2 H2) : Gr Hv H Hv2 H2 :=
  ⟨Le.trans a.big b.big, Le.trans a.vis b.vis, b.sub, fun x hx => by
    rw [b.old x ?_, a.old x hx]
    intro z
    cases e : H x with
    | none => exact hx e
    | some o =>
      rw [a.big x o e] at z
      cases z⟩
theorem Gr.new {Hv H : Hp} {p : Addr} {o : HO} (s : Le Hv H) (hp : H p = none) : Gr Hv H (upd Hv p o) (upd H p o) :=
  ⟨Le.new hp, Le.new (Le.none s hp), fun a u e => by
    by_cases h : a = p
    · subst h
      rw [upd_same] at e ⊢
      exact e
    · rw [upd_ne h] at e ⊢
      exact s a u e, fun a ha => by
    rw [upd_ne]
    rintro rfl
    exact ha hp⟩
/-- a new object that is not shown -/
theorem Gr.hid {Hv H Hv' H' : Hp} {p : Addr} {o : HO} (g : Gr Hv H Hv' H') (hp : H p = none) (hv : Hv' p = none) : Gr Hv H Hv' (upd H' p o) :=
  ⟨Le.mut g.big hp, g.vis, fun a u e => by
    rw [upd_ne (ne_of_none e hv)]
    exact g.sub a u e, g.old⟩
/-- a hidden object is shown -/
theorem Gr.show' {Hv H Hv' H' : Hp} {p : Addr} {o : HO} (g : Gr Hv H Hv' H') (hp : H p = none) (hv : Hv' p = none) (ho : H' p = some o) : Gr Hv H (upd Hv' p o) H' :=
  ⟨g.big, Le.trans g.vis (Le.new hv), fun a u e => by
    by_cases h : a = p
    · subst h
      rw [upd_same] at e
      rw [ho, e]
    · rw [upd_ne h] at e
      exact g.sub a u e, fun a ha => by
    rw [upd_ne ?_]
    · exact g.old a ha
    · rintro rfl
      exact ha hp⟩

inductive SD where
  | dat (d : D) | own (ds : List D)
abbrev Rho := List (Option SD)
/-- the entry's heaps, the scope's visible heap -/
structure Bs where
  v : Hp
  h : Hp
  s : Hp
structure At (K : PySem.W.Frag) (b : Bs) (σ : L2.St) (Hv H : Hp) (ρ : Rho) : Prop where
  gr : Gr b.v b.h Hv H
  sc : Le b.s Hv
  len : σ.length = ρ.length
  dat : ∀ (i : Nat) (d : D), ρ[i]? = some (some (.dat d)) → ∃ v, σ[i]? = some (some v) ∧ Rep K Hv v d
  own : ∀ (i : Nat) (ds : List D), ρ[i]? = some (some (.own ds)) → ∃ p xs, σ[i]? = some (some (.ref p)) ∧ Hv p = none ∧ b.h p = none ∧ H p = some (.lst xs) ∧ RepAll K Hv xs ds
  dis : ∀ (i j : Nat) (p : Addr) (ds es : List D), i ≠ j → ρ[i]? = some (some (.own ds)) → ρ[j]? = some (some (.own es)) → σ[i]? = some (some (.ref p)) → σ[j]? ≠ some (some (.ref p))
section
variable {K : PySem.W.Frag} {b : Bs} {σ : L2.St} {Hv H Hv' H' : Hp} {ρ : Rho}
theorem At.grow (A : At K b σ Hv H ρ) (g : Gr Hv H Hv' H') : At K b σ Hv' H' ρ := by
  refine ⟨A.gr.trans g, Le.trans A.sc g.vis, A.len, fun i d h => ?_, fun i ds h => ?_, A.dis⟩
  · obtain ⟨v, e, r⟩ := A.dat i d h
    exact ⟨v, e, r.mono g.vis⟩
  · obtain ⟨p, xs, e, h1, h2, h3, r⟩ := A.own i ds h
    refine ⟨p, xs, e, ?_, h2, g.big _ _ h3, r.mono g.vis⟩
    rw [g.old p (by rw [h3]; exact fun z => nomatch z)]
    exact h1
theorem At.sub (A : At K b σ Hv H ρ) : Le Hv H := A.gr.sub
/-- a slot is set to data -/
theorem At.setDat {i : Nat} {v : V} {d : D} (A : At K b σ Hv H ρ) (r : Rep K Hv v d) : At K b (σ.set i (some v)) Hv H (ρ.set i (some (.dat d))) := by
  refine ⟨A.gr, A.sc, by simp [A.len], fun j e h => ?_, fun j ds h => ?_, fun j k p ds es hjk h1 h2 h3 => ?_⟩
  · by_cases hj : i = j
    · subst hj
      by_cases hl : i < ρ.length
      · rw [List.getElem?_set_self hl] at h
        cases h
        exact ⟨v, List.getElem?_set_self (by rw [A.len]; exact hl), r⟩
      · rw [List.getElem?_eq_none (by simpa using hl)] at h
        cases h
    · rw [List.getElem?_set_ne hj] at h
      obtain ⟨w, e1, r1⟩ := A.dat j e h
      exact ⟨w, by rw [List.getElem?_set_ne hj]; exact e1, r1⟩
  · have hj : i ≠ j := by
      rintro rfl
      by_cases hl : i < ρ.length
      · rw [List.getElem?_set_self hl] at h
        cases h
      · rw [List.getElem?_eq_none (by simpa using hl)] at h
        cases h
    rw [List.getElem?_set_ne hj] at h
    obtain ⟨p, xs, e1, q⟩ := A.own j ds h
    exact ⟨p, xs, by rw [List.getElem?_set_ne hj]; exact e1, q⟩
  · have ne : ∀ {j : Nat} {ds : List D}, (ρ.set i (some (.dat d)))[j]? = some (some (.own ds)) → i ≠ j := fun {j ds} h => by
      rintro rfl
      by_cases hl : i < ρ.length
      · rw [List.getElem?_set_self hl] at h
        cases h
      · rw [List.getElem?_eq_none (by simpa using hl)] at h
        cases h
    have n1 := ne h1
    have n2 := ne h2
    rw [List.getElem?_set_ne n1] at h1 h3
    rw [List.getElem?_set_ne n2] at h2 ⊢
    exact A.dis j k p ds es hjk h1 h2 h3
/-- a slot is forgotten -/
theorem At.forget {i : Nat} {o : Option V} (A : At K b σ Hv H ρ) : At K b (σ.set i o) Hv H (ρ.set i none) := by
  have ne : ∀ {j : Nat} {s : SD}, (ρ.set i none)[j]? = some (some s) → i ≠ j := fun {j s} h => by
    rintro rfl
    by_cases hl : i < ρ.length
    · rw [List.getElem?_set_self hl] at h
      cases h
    · rw [List.getElem?_eq_none (by simpa using hl)] at h
      cases h
  refine ⟨A.gr, A.sc, by simp [A.len], fun j e h => ?_, fun j ds h => ?_, fun j k p ds es hjk h1 h2 h3 => ?_⟩
  · have n := ne h
    rw [List.getElem?_set_ne n] at h
    obtain ⟨w, e1, r1⟩ := A.dat j e h
    exact ⟨w, by rw [List.getElem?_set_ne n]; exact e1, r1⟩
  · have n := ne h
    rw [List.getElem?_set_ne n] at h
    obtain ⟨p, xs, e1, q⟩ := A.own j ds h
    exact ⟨p, xs, by rw [List.getElem?_set_ne n]; exact e1, q⟩
  · have n1 := ne h1
    have n2 := ne h2
    rw [List.getElem?_set_ne n1] at h1 h3
    rw [List.getElem?_set_ne n2] at h2 ⊢
    exact A.dis j k p ds es hjk h1 h2 h3
/-- less is known -/
theorem At.weak {ρ' : Rho} (A : At K b σ Hv H ρ) (hl : ρ'.length = ρ.length) (h : ∀ (i : Nat) (s : SD), ρ'[i]? = some (some s) → ρ[i]? = some (some s)) : At K b σ Hv H ρ' :=
  ⟨A.gr, A.sc, A.len.trans hl.symm, fun i d e => A.dat i d (h i _ e), fun i ds e => A.own i ds (h i _ e), fun i j p ds es hij h1 h2 h3 => A.dis i j p ds es hij (h i _ h1) (h j _ h2) h3⟩
/-- a new list that the frame alone knows -/
theorem At.setOwn {i : Nat} {p : Addr} {xs : List V} {ds : List D} (A : At K b σ Hv H ρ) (hv : Hv p = none) (hb : b.h p = none) (ho : H p = some (.lst xs)) (r : RepAll K Hv xs ds)
    (nw : ∀ (j : Nat) (es : List D), j ≠ i → ρ[j]? = some (some (.own es)) → σ[j]? ≠ some (some (.ref p))) : At K b (σ.set i (some (.ref p))) Hv H (ρ.set i (some (.own ds))) := by
  refine ⟨A.gr, A.sc, by simp [A.len], fun j e h => ?_, fun j es h => ?_, fun j k q es fs hjk h1 h2 h3 => ?_⟩
  · have hj : i ≠ j := by
      rintro rfl
      by_cases hl : i < ρ.length
      · rw [List.getElem?_set_self hl] at h
        cases h
      · rw [List.getElem?_eq_none (by simpa using hl)] at h
        cases h
    rw [List.getElem?_set_ne hj] at h
    obtain ⟨w, e1, r1⟩ := A.dat j e h
    exact ⟨w, by rw [List.getElem?_set_ne hj]; exact e1, r1⟩
  · by_cases hj : i = j
    · subst hj
      by_cases hl : i < ρ.length
      · rw [List.getElem?_set_self hl] at h
        cases h
        exact ⟨p, xs, List.getElem?_set_self (by rw [A.len]; exact hl), hv, hb, ho, r⟩
      · rw [List.getElem?_eq_none (by simpa using hl)] at h
        cases h
    · rw [List.getElem?_set_ne hj] at h
      obtain ⟨q, ys, e1, z⟩ := A.own j es h
      exact ⟨q, ys, by rw [List.getElem?_set_ne hj]; exact e1, z⟩
  · have ln : ∀ {j : Nat} {es : List D}, (ρ.set i (some (.own ds)))[j]? = some (some (.own es)) → j < σ.length := fun {j es} h => by
      have := (List.getElem?_eq_some_iff.mp h).1
      rw [List.length_set] at this
      rw [A.len]
      exact this
    by_cases hj : i = j
    · subst hj
      rw [List.getElem?_set_self (ln h1)] at h3
      have eq : p = q := by simpa using h3
      subst eq
      rw [List.getElem?_set_ne hjk] at h2 ⊢
      exact nw k fs (Ne.symm hjk) h2
    · rw [List.getElem?_set_ne hj] at h1 h3
      by_cases hk : i = k
      · subst hk
        rw [List.getElem?_set_self (ln h2)]
        intro z
        have eq : p = q := by simpa using z
        subst eq
        exact nw j es (Ne.symm hj) h1 h3
      · rw [List.getElem?_set_ne hk] at h2 ⊢
        exact A.dis j k q es fs hjk h1 h2 h3
end
end Kn
namespace Kn
open PySem PySem.Spec L2

/-! ### judgements: what an expression, a test, arguments come to -/
section
variable (K : PySem.W.Frag) (b : Bs)
def EvD (te : TE) (ρ : Rho) (d : D) : Prop := ∀ (σ : L2.St) (Hv H : Hp) (Q : VK), At K b σ Hv H ρ → (∀ v Hv' H', Gr Hv H Hv' H' → Rep K Hv' v d → Q v H') → te σ H Q
/-- a new list that is not yet shown -/
def EvF (te : TE) (ρ : Rho) (ds : List D) : Prop := ∀ (σ : L2.St) (Hv H : Hp) (Q : VK), At K b σ Hv H ρ →
  (∀ p xs Hv' H', Gr Hv H Hv' H' → H p = none → Hv' p = none → H' p = some (.lst xs) → RepAll K Hv' xs ds → Q (.ref p) H') → te σ H Q
def EvB (tt : TT) (ρ : Rho) (c : Bool) : Prop := ∀ (σ : L2.St) (Hv H : Hp) (Q : Bool → Hp → Prop), At K b σ Hv H ρ → (∀ Hv' H', Gr Hv H Hv' H' → Q c H') → tt σ H Q
def EvA (ta : TA) (ρ : Rho) (ds : List D) : Prop := ∀ (σ : L2.St) (Hv H : Hp) (Q : List V → Hp → Prop), At K b σ Hv H ρ → (∀ vs Hv' H', Gr Hv H Hv' H' → RepAll K Hv' vs ds → Q vs H') → ta σ H Q
def EvO (to : TO) (ρ : Rho) (o : Option Int) : Prop := ∀ (σ : L2.St) (Hv H : Hp) (Q : Option Int → Hp → Prop), At K b σ Hv H ρ → (∀ Hv' H', Gr Hv H Hv' H' → Q o H') → to σ H Q
end
/-- operations by data -/
def RD (K : PySem.W.Frag) (r : R2) (d e z : D) : Prop := ∀ (x y : V) (Hv H : Hp) (Q : VK), Le Hv H → Rep K Hv x d → Rep K Hv y e → (∀ v Hv' H', Gr Hv H Hv' H' → Rep K Hv' v z → Q v H') → r x y H Q
def UD (K : PySem.W.Frag) (r : V → Hp → VK → Prop) (d z : D) : Prop := ∀ (x : V) (Hv H : Hp) (Q : VK), Le Hv H → Rep K Hv x d → (∀ v Hv' H', Gr Hv H Hv' H' → Rep K Hv' v z → Q v H') → r x H Q
def CD (K : PySem.W.Frag) (r : List V → Hp → VK → Prop) (ds : List D) (z : D) : Prop := ∀ (xs : List V) (Hv H : Hp) (Q : VK), Le Hv H → RepAll K Hv xs ds → (∀ v Hv' H', Gr Hv H Hv' H' → Rep K Hv' v z → Q v H') → r xs H Q

section
variable {K : PySem.W.Frag} {b : Bs} {ρ : Rho} {te ta tb tc : TE} {tt tu : TT} {tA : TA} {d e z f : D} {ds : List D}
theorem evd_is (h : EvD K b te ρ d) (e : d = z) : EvD K b te ρ z := e ▸ h
theorem evb_is {c c' : Bool} (h : EvB K b tt ρ c) (e : c = c') : EvB K b tt ρ c' := e ▸ h
theorem evd_var {i : Nat} (h : ρ[i]? = some (some (.dat d))) : EvD K b (tVar i) ρ d := fun σ Hv H Q A q => by
  obtain ⟨v, e, r⟩ := A.dat i d h
  exact ⟨v, e, q v Hv H (Gr.refl A.sub) r⟩
theorem evd_c {v : V} (r : ∀ H, Rep K H v d) : EvD K b (tC v) ρ d := fun σ Hv H Q A q => q v Hv H (Gr.refl A.sub) (r Hv)
theorem evd_int {i : Int} : EvD K b (tC (.int i)) ρ (.int i) := evd_c fun _ => .int i
theorem evd_bl {c : Bool} : EvD K b (tC (.bl c)) ρ (.bl c) := evd_c fun _ => .bl c
theorem evd_str {x : Str} : EvD K b (tC (.str x)) ρ (.str x) := evd_c fun _ => .str x
theorem evd_non : EvD K b (tC .non) ρ .non := evd_c fun _ => .non
theorem evd_obj {v : V} : EvD K b (tC v) ρ (.obj v) := evd_c fun _ => .obj v
theorem evd_op {r : R2} (ha : EvD K b ta ρ d) (hb : EvD K b tb ρ e) (hr : RD K r d e z) : EvD K b (tOp r ta tb) ρ z := fun σ Hv H Q A q =>
  ha σ Hv H _ A fun x Hv1 H1 g1 r1 => hb σ Hv1 H1 _ (A.grow g1) fun y Hv2 H2 g2 r2 =>
    hr x y Hv2 H2 Q g2.sub (r1.mono g2.vis) r2 fun v Hv3 H3 g3 r3 => q v Hv3 H3 ((g1.trans g2).trans g3) r3
theorem evd_un {r : V → Hp → VK → Prop} (ha : EvD K b ta ρ d) (hr : UD K r d z) : EvD K b (tUn r ta) ρ z := fun σ Hv H Q A q =>
  ha σ Hv H _ A fun x Hv1 H1 g1 r1 => hr x Hv1 H1 Q g1.sub r1 fun v Hv3 H3 g3 r3 => q v Hv3 H3 (g1.trans g3) r3
theorem eva_nil : EvA K b tNil ρ [] := fun σ Hv H Q A q => q [] Hv H (Gr.refl A.sub) .nil
theorem eva_cons (ha : EvD K b ta ρ d) (hr : EvA K b tA ρ ds) : EvA K b (tCons ta tA) ρ (d :: ds) := fun σ Hv H Q A q =>
  ha σ Hv H _ A fun x Hv1 H1 g1 r1 => hr σ Hv1 H1 _ (A.grow g1) fun vs Hv2 H2 g2 r2 => q (x :: vs) Hv2 H2 (g1.trans g2) (.cons (r1.mono g2.vis) r2)
theorem evd_cb {r : List V → Hp → VK → Prop} (ha : EvA K b tA ρ ds) (hr : CD K r ds z) : EvD K b (tCB r tA) ρ z := fun σ Hv H Q A q =>
  ha σ Hv H _ A fun xs Hv1 H1 g1 r1 => hr xs Hv1 H1 Q g1.sub r1 fun v Hv3 H3 g3 r3 => q v Hv3 H3 (g1.trans g3) r3
/-- a new list, shown -/
theorem evd_f (h : EvF K b te ρ ds) : EvD K b te ρ (.lst ds) := fun σ Hv H Q A q =>
  h σ Hv H Q A fun p xs Hv' H' g hp hv ho r => q (.ref p) (upd Hv' p (.lst xs)) H' (g.show' hp hv ho) (.lst upd_same (r.mono (Le.new hv)))
theorem evf_lst (ha : EvA K b tA ρ ds) (hz : ds.length ≤ 100000) : EvF K b (tLst tA) ρ ds := fun σ Hv H Q A q =>
  ha σ Hv H _ A fun xs Hv1 H1 g1 r1 => by
    refine ⟨by rw [r1.length]; exact Nat.le_trans hz (by decide), fun p hp => ?_⟩
    have hp0 : H p = none := Le.none g1.big hp
    have hv0 : Hv1 p = none := Le.none g1.sub hp
    exact q p xs Hv1 _ (g1.hid hp0 hv0) hp0 hv0 upd_same r1
theorem evd_lst (ha : EvA K b tA ρ ds) (hz : ds.length ≤ 100000) : EvD K b (tLst tA) ρ (.lst ds) := evd_f (evf_lst ha hz)
theorem evd_tup (ha : EvA K b tA ρ ds) (hz : ds.length ≤ 100000) : EvD K b (tTup tA) ρ (.tup ds) := fun σ Hv H Q A q =>
  ha σ Hv H _ A fun xs Hv1 H1 g1 r1 => by
    refine ⟨by rw [r1.length]; exact Nat.le_trans hz (by decide), fun p hp => ?_⟩
    have hv0 : Hv1 p = none := Le.none g1.sub hp
    exact q (.ref p) _ _ (g1.trans (Gr.new g1.sub hp)) (.tup upd_same (r1.mono (Le.new hv0)))
/-! tests -/
theorem evb_test {c : Bool} (h : EvD K b te ρ (.bl c)) : EvB K b (tTest te) ρ c := fun σ Hv H Q A q =>
  h σ Hv H _ A fun v Hv1 H1 g r => ⟨c, r.bl_inv, q Hv1 H1 g⟩
theorem evb_B {c : Bool} (h : EvD K b te ρ (.bl c)) : EvB K b (tB te) ρ c := fun σ Hv H Q A q =>
  h σ Hv H _ A fun v Hv1 H1 g r => ⟨c, r.bl_inv, q Hv1 H1 g⟩
theorem evb_not {c : Bool} (h : EvB K b tt ρ c) : EvB K b (tNot tt) ρ (!c) := fun σ Hv H Q A q => h σ Hv H _ A fun Hv1 H1 g => q Hv1 H1 g
theorem evb_and {c c' : Bool} (h : EvB K b tt ρ c) (h2 : c = true → EvB K b tu ρ c') : EvB K b (tAnd tt tu) ρ (c && c') := fun σ Hv H Q A q => h σ Hv H _ A fun Hv1 H1 g => by
  cases c with
  | true =>
    show tu σ H1 Q
    exact h2 rfl σ Hv1 H1 Q (A.grow g) fun Hv2 H2 g2 => q Hv2 H2 (g.trans g2)
  | false =>
    show Q false H1
    exact q Hv1 H1 g
theorem evb_or {c c' : Bool} (h : EvB K b tt ρ c) (h2 : c = false → EvB K b tu ρ c') : EvB K b (tOr tt tu) ρ (c || c') := fun σ Hv H Q A q => h σ Hv H _ A fun Hv1 H1 g => by
  cases c with
  | true =>
    show Q true H1
    exact q Hv1 H1 g
  | false =>
    show tu σ H1 Q
    exact h2 rfl σ Hv1 H1 Q (A.grow g) fun Hv2 H2 g2 => q Hv2 H2 (g.trans g2)
theorem evd_andV {c c' : Bool} (h : EvD K b ta ρ (.bl c)) (h2 : c = true → EvD K b tb ρ (.bl c')) : EvD K b (tAndV ta tb) ρ (.bl (c && c')) := fun σ Hv H Q A q => h σ Hv H _ A fun v Hv1 H1 g r => ⟨c, r.bl_inv, by
  cases c with
  | true =>
    show tb σ H1 Q
    exact h2 rfl σ Hv1 H1 Q (A.grow g) fun v2 Hv2 H2 g2 r2 => q v2 Hv2 H2 (g.trans g2) r2
  | false =>
    show Q (.bl false) H1
    exact q _ Hv1 H1 g (.bl false)⟩
theorem evd_orV {c c' : Bool} (h : EvD K b ta ρ (.bl c)) (h2 : c = false → EvD K b tb ρ (.bl c')) : EvD K b (tOrV ta tb) ρ (.bl (c || c')) := fun σ Hv H Q A q => h σ Hv H _ A fun v Hv1 H1 g r => ⟨c, r.bl_inv, by
  cases c with
  | true =>
    show Q (.bl true) H1
    exact q _ Hv1 H1 g (.bl true)
  | false =>
    show tb σ H1 Q
    exact h2 rfl σ Hv1 H1 Q (A.grow g) fun v2 Hv2 H2 g2 r2 => q v2 Hv2 H2 (g.trans g2) r2⟩
theorem evd_notV {c : Bool} (h : EvD K b ta ρ (.bl c)) : EvD K b (tNotV ta) ρ (.bl (!c)) := fun σ Hv H Q A q => h σ Hv H _ A fun v Hv1 H1 g r => ⟨c, r.bl_inv, q _ Hv1 H1 g (.bl _)⟩
theorem evd_chain {r r' : R2} {c c' : Bool} (ha : EvD K b ta ρ d) (hb : EvD K b tb ρ e) (hr : RD K r d e (.bl c)) (hc : c = true → EvD K b tc ρ f) (hr' : c = true → RD K r' e f (.bl c')) : EvD K b (tChain r r' ta tb tc) ρ (.bl (c && c')) := fun σ Hv H Q A q =>
  ha σ Hv H _ A fun x Hv1 H1 g1 r1 => hb σ Hv1 H1 _ (A.grow g1) fun y Hv2 H2 g2 r2 =>
    hr x y Hv2 H2 _ g2.sub (r1.mono g2.vis) r2 fun v Hv3 H3 g3 r3 => ⟨c, r3.bl_inv, by
      cases c with
      | true =>
        show tc σ H3 _
        exact hc rfl σ Hv3 H3 _ (A.grow ((g1.trans g2).trans g3)) fun w Hv4 H4 g4 r4 => hr' rfl y w Hv4 H4 Q g4.sub (r2.mono (Le.trans g3.vis g4.vis)) r4 fun v5 Hv5 H5 g5 r5 => q v5 Hv5 H5 ((((g1.trans g2).trans g3).trans g4).trans g5) r5
      | false =>
        show Q (.bl false) H3
        exact q _ Hv3 H3 ((g1.trans g2).trans g3) (.bl false)⟩
theorem evd_isN {c : Bool} (ha : EvD K b ta ρ d) (hc : ∀ H v, Rep K H v d → decide (v = .non) = c) : EvD K b (tIsN ta) ρ (.bl c) := fun σ Hv H Q A q =>
  ha σ Hv H _ A fun x Hv1 H1 g1 r1 => by
    show Q (.bl (decide (x = .non))) H1
    rw [hc Hv1 x r1]
    exact q _ Hv1 H1 g1 (.bl _)
theorem evd_notN {c : Bool} (ha : EvD K b ta ρ d) (hc : ∀ H v, Rep K H v d → decide (v = .non) = c) : EvD K b (tNotN ta) ρ (.bl (!c)) := fun σ Hv H Q A q =>
  ha σ Hv H _ A fun x Hv1 H1 g1 r1 => by
    show Q (.bl (!decide (x = .non))) H1
    rw [hc Hv1 x r1]
    exact q _ Hv1 H1 g1 (.bl _)
def isNon : D → Bool
  | .non => true
  | _ => false
def notObj : D → Bool
  | .obj _ => false
  | _ => true
theorem rep_non (h : notObj d = true) : ∀ (H : Hp) (v : V), Rep K H v d → decide (v = .non) = isNon d := fun H v r => by
  cases r with
  | obj v => cases h
  | _ => simp [isNon]
end

/-! ### operations -/
section
variable {K : PySem.W.Frag} {d e z : D}
theorem rd_int {C : Int → Int → Prop} {g : Int → Int → Int} {i j : Int} (h : C i j) : RD K (rI C fun i j => .int (g i j)) (.int i) (.int j) (.int (g i j)) := fun x y Hv H Q l r1 r2 q =>
  ⟨i, j, r1.int_inv, r2.int_inv, h, q _ Hv H (Gr.refl l) (.int _)⟩
theorem rd_int0 {g : Int → Int → Int} {i j : Int} : RD K (rI0 fun i j => .int (g i j)) (.int i) (.int j) (.int (g i j)) := fun x y Hv H Q l r1 r2 q =>
  ⟨i, j, r1.int_inv, r2.int_inv, q _ Hv H (Gr.refl l) (.int _)⟩
theorem rd_cmp {g : Int → Int → Bool} {i j : Int} : RD K (rI0 fun i j => .bl (g i j)) (.int i) (.int j) (.bl (g i j)) := fun x y Hv H Q l r1 r2 q =>
  ⟨i, j, r1.int_inv, r2.int_inv, q _ Hv H (Gr.refl l) (.bl _)⟩
theorem RD.l {r r' : R2} (h : RD K r d e z) : RD K (fun x y H Q => r x y H Q ∨ r' x y H Q) d e z := fun x y Hv H Q l r1 r2 q => .inl (h x y Hv H Q l r1 r2 q)
theorem RD.r {r r' : R2} (h : RD K r' d e z) : RD K (fun x y H Q => r x y H Q ∨ r' x y H Q) d e z := fun x y Hv H Q l r1 r2 q => .inr (h x y Hv H Q l r1 r2 q)
abbrev rStrAdd : R2 := fun x y H Q => ∃ i j, x = .str i ∧ y = .str j ∧ i.length + j.length ≤ sizeLine ∧ Q (.str (i ++ j)) H
/-- + of ints, of texts, of lists -/
def rAddA : R2 := fun x y H Q => (rI0 (fun i j => .int (i + j)) x y H Q ∨ rStrAdd x y H Q) ∨ rCat x y H Q
abbrev rSubI : R2 := rI0 fun i j => .int (i - j)
abbrev rMulI : R2 := rI IntMulOk fun i j => .int (i * j)
def CDivN' (_ j : Int) : Prop := j ≠ 0 ∧ j.natAbs.log2 < 9000
abbrev rDivI : R2 := rI CDivN' fun i j => .int (i.fdiv j)
abbrev rModI : R2 := rI (fun _ j => 0 < j) fun i j => .int (i % j)
abbrev rPowI : R2 := rI CPow fun i j => .int (i ^ j.toNat)
abbrev rLtI : R2 := rI0 fun i j => .bl (decide (i < j))
abbrev rLeI : R2 := rI0 fun i j => .bl (decide (i ≤ j))
abbrev rGtI : R2 := rI0 fun i j => .bl (decide (j < i))
abbrev rGeI : R2 := rI0 fun i j => .bl (decide (j ≤ i))
def rEqA (K : PySem.W.Frag) : R2 := fun x y H Q => rEq x y H Q ∨ rEqD K x y H Q
def rNeA (K : PySem.W.Frag) : R2 := fun x y H Q => rNe x y H Q ∨ rNeD K x y H Q
section
variable {X : Cx}
theorem op_addA : OpR X (binaryOp .Add) rAddA := (op_add.or op_add_str).or op_cat
theorem op_mulI : OpR X (binaryOp .Mult) rMulI := opI fun _ _ _ _ _ _ _ hc q => PyProof.Rows.mul_int q hc
theorem op_divI : OpR X (binaryOp .FloorDiv) rDivI := opI fun i j _ _ _ _ _ hc q => PyProof.Rows.floordiv_int hc.1 q (.inl (PyProof.noPylong_of_log2 hc.2))
theorem op_eqA (hu : X.A.units + 64 < cLine) : OpR X (compareOp .Eq) (rEqA X.K) := op_eq.or (op_eqD hu)
theorem op_neA (hu : X.A.units + 64 < cLine) : OpR X (compareOp .NotEq) (rNeA X.K) := op_ne.or (op_neD hu)
end
theorem rd_add {i j : Int} : RD K rAddA (.int i) (.int j) (.int (i + j)) := RD.l (RD.l rd_int0)
theorem rd_addS {i j : Str} (h : i.length + j.length ≤ 100000) : RD K rAddA (.str i) (.str j) (.str (i ++ j)) := RD.l (RD.r fun x y Hv H Q l r1 r2 q =>
  ⟨i, j, r1.str_inv, r2.str_inv, Nat.le_trans h (by decide), q _ Hv H (Gr.refl l) (.str _)⟩)
theorem rd_addL {ds es : List D} (h : ds.length + es.length ≤ 100000) : RD K rAddA (.lst ds) (.lst es) (.lst (ds ++ es)) := RD.r fun x y Hv H Q l r1 r2 q => by
  obtain ⟨a, xs, rfl, h1, q1⟩ := r1.lst_inv
  obtain ⟨c, ys, rfl, h2, q2⟩ := r2.lst_inv
  refine ⟨a, c, xs, ys, rfl, rfl, l _ _ h1, l _ _ h2, by rw [q1.length, q2.length]; exact Nat.le_trans h (by decide), fun p hp => ?_⟩
  have hv := Le.none l hp
  exact q _ _ _ (Gr.new l hp) (.lst upd_same ((q1.append q2).mono (Le.new hv)))
theorem rd_sub {i j : Int} : RD K rSubI (.int i) (.int j) (.int (i - j)) := rd_int0
theorem rd_mul {i j : Int} (h : IntMulOk i j) : RD K rMulI (.int i) (.int j) (.int (i * j)) := rd_int h
theorem rd_div {i j : Int} (h : CDivN' i j) : RD K rDivI (.int i) (.int j) (.int (i.fdiv j)) := rd_int h
theorem rd_divP {i j : Int} (h0 : 0 < j) (h : j.natAbs.log2 < 9000) : RD K rDivI (.int i) (.int j) (.int (i / j)) := by
  have e : i.fdiv j = i / j := Int.fdiv_eq_ediv_of_nonneg i (by omega)
  rw [← e]
  exact rd_int ⟨by omega, h⟩
theorem rd_mod {i j : Int} (h : 0 < j) : RD K rModI (.int i) (.int j) (.int (i % j)) := rd_int h
theorem rd_pow {i j : Int} (h : CPow i j) : RD K rPowI (.int i) (.int j) (.int (i ^ j.toNat)) := rd_int h
theorem rd_lt {i j : Int} : RD K rLtI (.int i) (.int j) (.bl (decide (i < j))) := rd_cmp
theorem rd_le {i j : Int} : RD K rLeI (.int i) (.int j) (.bl (decide (i ≤ j))) := rd_cmp
theorem rd_gt {i j : Int} : RD K rGtI (.int i) (.int j) (.bl (decide (j < i))) := rd_cmp
theorem rd_ge {i j : Int} : RD K rGeI (.int i) (.int j) (.bl (decide (j ≤ i))) := rd_cmp
/-! == -/
theorem rd_eqI {i j : Int} : RD K (rEqA K) (.int i) (.int j) (.bl (decide (i = j))) := RD.l fun x y Hv H Q l r1 r2 q => by
  have e1 := r1.int_inv
  have e2 := r2.int_inv
  subst e1 e2
  refine ⟨rfl, ?_⟩
  rw [show decide (V.int i = V.int j) = decide (i = j) by simp]
  exact q _ Hv H (Gr.refl l) (.bl _)
theorem rd_neI {i j : Int} : RD K (rNeA K) (.int i) (.int j) (.bl (!decide (i = j))) := RD.l fun x y Hv H Q l r1 r2 q => by
  have e1 := r1.int_inv
  have e2 := r2.int_inv
  subst e1 e2
  refine ⟨rfl, ?_⟩
  rw [show decide (V.int i = V.int j) = decide (i = j) by simp]
  exact q _ Hv H (Gr.refl l) (.bl _)
theorem rd_eqS {i j : Str} : RD K (rEqA K) (.str i) (.str j) (.bl (decide (i = j))) := RD.l fun x y Hv H Q l r1 r2 q => by
  have e1 := r1.str_inv
  have e2 := r2.str_inv
  subst e1 e2
  refine ⟨rfl, ?_⟩
  rw [show decide (V.str i = V.str j) = decide (i = j) by simp]
  exact q _ Hv H (Gr.refl l) (.bl _)
theorem rd_neS {i j : Str} : RD K (rNeA K) (.str i) (.str j) (.bl (!decide (i = j))) := RD.l fun x y Hv H Q l r1 r2 q => by
  have e1 := r1.str_inv
  have e2 := r2.str_inv
  subst e1 e2
  refine ⟨rfl, ?_⟩
  rw [show decide (V.str i = V.str j) = decide (i = j) by simp]
  exact q _ Hv H (Gr.refl l) (.bl _)
theorem rd_eqB {i j : Bool} : RD K (rEqA K) (.bl i) (.bl j) (.bl (decide (i = j))) := RD.l fun x y Hv H Q l r1 r2 q => by
  have e1 := r1.bl_inv
  have e2 := r2.bl_inv
  subst e1 e2
  refine ⟨rfl, ?_⟩
  rw [show decide (V.bl i = V.bl j) = decide (i = j) by simp]
  exact q _ Hv H (Gr.refl l) (.bl _)
theorem rd_neB {i j : Bool} : RD K (rNeA K) (.bl i) (.bl j) (.bl (!decide (i = j))) := RD.l fun x y Hv H Q l r1 r2 q => by
  have e1 := r1.bl_inv
  have e2 := r2.bl_inv
  subst e1 e2
  refine ⟨rfl, ?_⟩
  rw [show decide (V.bl i = V.bl j) = decide (i = j) by simp]
  exact q _ Hv H (Gr.refl l) (.bl _)
end
/-! == of data at any depth -/
mutual
def D.py : D → PyData
  | .non => .none
  | .bl b => .bool b
  | .int i => .int i
  | .str s => .str s
  | .tup ds => .tuple (pyAll ds)
  | .lst ds => .list (pyAll ds)
  | .fro ds => .list (pyAll ds)
  | .obj _ => .none
def pyAll : List D → List PyData
  | [] => []
  | d :: ds => d.py :: pyAll ds
end
mutual
/-- nothing opaque in it -/
def D.plain : D → Bool
  | .tup ds => plainAll ds
  | .lst ds => plainAll ds
  | .fro ds => plainAll ds
  | .obj _ => false
  | _ => true
def plainAll : List D → Bool
  | [] => true
  | d :: ds => d.plain && plainAll ds
end
section
variable {K : PySem.W.Frag} {H : Hp}
mutual
theorem Rep.dp : ∀ {v : V} {d : D}, Rep K H v d → d.plain = true → Dp K H v d.py
  | _, _, .non, _ => .non
  | _, _, .bl b, _ => .bl b
  | _, _, .int i, _ => .int i
  | _, _, .str x, _ => .str x
  | _, _, .tup h r, p => .tup (SqT.of h) (RepAll.dp r p)
  | _, _, .lst h r, p => .lst (SqL.of h) (RepAll.dp r p)
  | _, _, .fro h r, p => .lst h (RepAll.dp r p)
  | _, _, .obj v, p => by cases p
theorem RepAll.dp : ∀ {vs : List V} {ds : List D}, RepAll K H vs ds → plainAll ds = true → DpAll K H vs (pyAll ds)
  | _, _, .nil, _ => .nil
  | _, _, .cons (d := d) (ds := ds) r t, p => by
    have p' : (d.plain && plainAll ds) = true := p
    rw [Bool.and_eq_true] at p'
    exact .cons (Rep.dp r p'.1) (RepAll.dp t p'.2)
end
end
def okD (d : D) : Bool := d.plain && SeqAt.shaped d.py
theorem rd_eqD {K : PySem.W.Frag} {d e : D} (hd : okD d = true) (he : okD e = true) : RD K (rEqA K) d e (.bl (PyData.eqv d.py e.py)) := RD.r fun x y Hv H Q l r1 r2 q => by
  obtain ⟨p1, s1⟩ := Bool.and_eq_true_iff.mp hd
  obtain ⟨p2, s2⟩ := Bool.and_eq_true_iff.mp he
  exact ⟨_, _, (r1.mono l).dp p1, (r2.mono l).dp p2, s1, s2, q _ Hv H (Gr.refl l) (.bl _)⟩
theorem rd_neD {K : PySem.W.Frag} {d e : D} (hd : okD d = true) (he : okD e = true) : RD K (rNeA K) d e (.bl (!PyData.eqv d.py e.py)) := RD.r fun x y Hv H Q l r1 r2 q => by
  obtain ⟨p1, s1⟩ := Bool.and_eq_true_iff.mp hd
  obtain ⟨p2, s2⟩ := Bool.and_eq_true_iff.mp he
  exact ⟨_, _, (r1.mono l).dp p1, (r2.mono l).dp p2, s1, s2, q _ Hv H (Gr.refl l) (.bl _)⟩

/-! ### subscripts, slices -/
section
variable {K : PySem.W.Frag} {b : Bs} {ρ : Rho} {te : TE} {tl th : TO} {d e z : D} {ds : List D}
theorem atI_map {α β : Type} {xs : List α} {ys : List β} {i : Int} {y : β} (hl : xs.length = ys.length) (h : atI ys i = some y) : ∃ j, ixN xs.length i = some j ∧ ys[j]? = some y := by
  unfold atI at h
  rw [← hl] at h
  cases e : ixN xs.length i with
  | none => rw [e] at h; cases h
  | some j => rw [e] at h; exact ⟨j, rfl, h⟩
theorem rep_at {Hv : Hp} {xs : List V} {i : Int} (r : RepAll K Hv xs ds) (h : atI ds i = some z) : ∃ v, atI xs i = some v ∧ Rep K Hv v z := by
  obtain ⟨j, e1, e2⟩ := atI_map (xs := xs) r.length h
  obtain ⟨v, e3, q⟩ := r.getD e2
  refine ⟨v, ?_, q⟩
  unfold atI
  rw [e1]
  exact e3
theorem rd_ix {i : Int} (h : seqOf d = some ds) (hi : atI ds i = some z) : RD K (rIx K) d (.int i) z := fun x y Hv H Q l r1 r2 q => by
  obtain ⟨a, xs, rfl, hs, r⟩ := r1.seq h
  have e2 := r2.int_inv
  subst e2
  obtain ⟨v, e3, rv⟩ := rep_at r hi
  rcases hs with hs | hs
  · exact .inl ⟨a, xs, i, v, rfl, rfl, Le.l l hs, e3, q _ Hv H (Gr.refl l) rv⟩
  · refine .inr (.inl ⟨a, xs, i, v, rfl, rfl, ?_, e3, q _ Hv H (Gr.refl l) rv⟩)
    rcases hs with hs | hs
    · exact .inl (Le.rd l hs)
    · exact .inr hs
theorem rd_ixS {i : Int} {x : Str} {c : Nat} (hz : x.length ≤ 100000) (hi : atI x.cps.toList i = some c) : RD K (rIx K) (.str x) (.int i) (.str ⟨#[c]⟩) := fun a y Hv H Q l r1 r2 q => by
  have e1 := r1.str_inv
  have e2 := r2.int_inv
  subst e1 e2
  exact .inr (.inr ⟨x, i, c, rfl, rfl, Nat.le_trans hz (by decide), hi, q _ Hv H (Gr.refl l) (.str _)⟩)
theorem evo_none : EvO K b tNoPart ρ none := fun σ Hv H Q A q => q Hv H (Gr.refl A.sub)
theorem evo_some {i : Int} (h : EvD K b te ρ (.int i)) : EvO K b (tPart te) ρ (some i) := fun σ Hv H Q A q => h σ Hv H _ A fun v Hv1 H1 g r => ⟨i, r.int_inv, q Hv1 H1 g⟩
def cutD (ds : List D) (lo hi : Option Int) : List D := (ds.drop (HT.sIx ds.length 0 lo)).take (HT.sIx ds.length ds.length hi - HT.sIx ds.length 0 lo)
theorem rep_cut {Hv : Hp} {xs : List V} {lo hi : Option Int} (r : RepAll K Hv xs ds) : RepAll K Hv (cutV xs lo hi) (cutD ds lo hi) := by
  unfold cutV cutD
  rw [r.length]
  exact (r.drop _).take _
theorem evf_sl {lo hi : Option Int} (h : EvD K b te ρ d) (hd : lstOf d = some ds) (h1 : EvO K b tl ρ lo) (h2 : EvO K b th ρ hi) : EvF K b (tSl (rSlL K) te tl th) ρ (cutD ds lo hi) := fun σ Hv H Q A q =>
  h σ Hv H _ A fun v Hv1 H1 g1 r1 => h1 σ Hv1 H1 _ (A.grow g1) fun Hv2 H2 g2 => h2 σ Hv2 H2 _ (A.grow (g1.trans g2)) fun Hv3 H3 g3 => by
    obtain ⟨a, xs, rfl, hs, r⟩ := r1.list hd
    have g := (g1.trans g2).trans g3
    refine ⟨a, xs, rfl, Le.l g3.sub (Le.l (Le.trans g2.vis g3.vis) hs), fun p hp => ?_⟩
    have hp0 : H p = none := Le.none g.big hp
    have hv0 : Hv3 p = none := Le.none g3.sub hp
    exact q p _ Hv3 _ (g.hid hp0 hv0) hp0 hv0 upd_same (rep_cut (r.mono (Le.trans g2.vis g3.vis)))
end

/-! ### built-in functions -/
section
variable {K : PySem.W.Frag} {d e z : D} {ds : List D}
abbrev rLen (K : PySem.W.Frag) : List V → Hp → VK → Prop := fun xs H Q => ∃ x n, xs = [x] ∧ LenV K x H n ∧ Q (.int n) H
theorem RepAll.one {Hv : Hp} {xs : List V} (r : RepAll K Hv xs [d]) : ∃ x, xs = [x] ∧ Rep K Hv x d := by
  cases r with
  | cons r1 r2 => cases r2; exact ⟨_, rfl, r1⟩
theorem RepAll.two {Hv : Hp} {xs : List V} (r : RepAll K Hv xs [d, e]) : ∃ x y, xs = [x, y] ∧ Rep K Hv x d ∧ Rep K Hv y e := by
  cases r with
  | cons r1 r2 =>
    cases r2 with
    | cons r3 r4 => cases r4; exact ⟨_, _, rfl, r1, r3⟩
theorem cd_len (h : seqOf d = some ds) : CD K (rLen K) [d] (.int ds.length) := fun xs Hv H Q l r0 q => by
  obtain ⟨x, rfl, r1⟩ := r0.one
  obtain ⟨a, ys, rfl, hs, r⟩ := r1.seq h
  refine ⟨_, ds.length, rfl, ?_, q _ Hv H (Gr.refl l) (.int _)⟩
  rcases hs with hs | hs
  · exact .inl ⟨ys, Le.l l hs, r.length.symm⟩
  · refine .inr ⟨ys, ?_, r.length.symm⟩
    rcases hs with hs | hs
    · exact .inl (Le.rd l hs)
    · exact .inr hs
theorem cd_lenS {x : Str} (h : x.length ≤ 100000) : CD K (rLen K) [.str x] (.int x.length) := fun xs Hv H Q l r0 q => by
  obtain ⟨y, rfl, r⟩ := r0.one
  have e := r.str_inv
  subst e
  exact ⟨_, x.length, rfl, ⟨Nat.le_trans h (by decide), rfl⟩, q _ Hv H (Gr.refl l) (.int _)⟩
abbrev rAbs : List V → Hp → VK → Prop := fun xs H Q => ∃ i, xs = [.int i] ∧ Q (.int (if i < 0 then -i else i)) H
theorem cd_abs {i : Int} : CD K rAbs [.int i] (.int (if i < 0 then -i else i)) := fun xs Hv H Q l r0 q => by
  obtain ⟨y, rfl, r⟩ := r0.one
  have e := r.int_inv
  subst e
  exact ⟨i, rfl, q _ Hv H (Gr.refl l) (.int _)⟩
abbrev rMax2 : List V → Hp → VK → Prop := fun xs H Q => ∃ i j, xs = [.int i, .int j] ∧ Q (.int (if j > i then j else i)) H
abbrev rMin2 : List V → Hp → VK → Prop := fun xs H Q => ∃ i j, xs = [.int i, .int j] ∧ Q (.int (if j < i then j else i)) H
theorem cd_max2 {i j : Int} : CD K rMax2 [.int i, .int j] (.int (if j > i then j else i)) := fun xs Hv H Q l r q => by
  obtain ⟨x, y, rfl, r1, r2⟩ := r.two
  have e1 := r1.int_inv
  have e2 := r2.int_inv
  subst e1 e2
  exact ⟨i, j, rfl, q _ Hv H (Gr.refl l) (.int _)⟩
theorem cd_min2 {i j : Int} : CD K rMin2 [.int i, .int j] (.int (if j < i then j else i)) := fun xs Hv H Q l r q => by
  obtain ⟨x, y, rfl, r1, r2⟩ := r.two
  have e1 := r1.int_inv
  have e2 := r2.int_inv
  subst e1 e2
  exact ⟨i, j, rfl, q _ Hv H (Gr.refl l) (.int _)⟩
abbrev rInt1 : List V → Hp → VK → Prop := fun xs H Q => (∃ i, xs = [.int i] ∧ Q (.int i) H) ∨ ∃ k, xs = [.bl k] ∧ Q (.int (if k then 1 else 0)) H
theorem cd_intB {c : Bool} : CD K rInt1 [.bl c] (.int (if c then 1 else 0)) := fun xs Hv H Q l r0 q => by
  obtain ⟨x, rfl, r⟩ := r0.one
  have e := r.bl_inv
  subst e
  exact .inr ⟨c, rfl, q _ Hv H (Gr.refl l) (.int _)⟩
theorem cd_sum {ns : List Int} (h : lstOf d = some (ns.map D.int)) : CD K (rSum K) [d] (.int ns.sum) := fun xs Hv H Q l r0 q => by
  obtain ⟨x, rfl, r⟩ := r0.one
  obtain ⟨a, ys, rfl, hs, r⟩ := r.list h
  have e := r.ints_inv
  subst e
  exact ⟨a, ns, rfl, Le.l l hs, q _ Hv H (Gr.refl l) (.int _)⟩
abbrev rListOf (K : PySem.W.Frag) : List V → Hp → VK → Prop := fun xs H Q => ∃ p ys, xs = [.ref p] ∧ (SqL K H p ys ∨ SqT K H p ys) ∧ ∀ l, H l = none → Q (.ref l) (upd H l (.lst ys))
theorem evf_listOf {b : Bs} {ρ : Rho} {ta : TE} (h : EvD K b ta ρ d) (hd : seqOf d = some ds) : EvF K b (tCB (rListOf K) (tCons ta tNil)) ρ ds := fun σ Hv H Q A q =>
  h σ Hv H _ A fun v Hv1 H1 g1 r1 => by
    obtain ⟨a, xs, rfl, hs, r⟩ := r1.seq hd
    refine ⟨a, xs, rfl, ?_, fun p hp => ?_⟩
    · rcases hs with hs | hs
      · exact .inl (Le.l g1.sub hs)
      · refine .inr ?_
        rcases hs with hs | hs
        · exact .inl (Le.rd g1.sub hs)
        · exact .inr hs
    · have hp0 : H p = none := Le.none g1.big hp
      have hv0 : Hv1 p = none := Le.none g1.sub hp
      exact q p _ Hv1 _ (g1.hid hp0 hv0) hp0 hv0 upd_same r
/-! isinstance -/
def tyD : D → Option String
  | .non => some "NoneType"
  | .bl _ => some "bool"
  | .int _ => some "int"
  | .str _ => some "str"
  | .tup _ => some "tuple"
  | .lst _ => some "list"
  | _ => none
theorem Rep.ty {Hv H : Hp} {x : V} {t : String} (l : Le Hv H) (r : Rep K Hv x d) (h : tyD d = some t) : TyX K H x (.type t) := by
  cases r with
  | non => cases h; exact .base .non
  | bl c => cases h; exact .base (.bl c)
  | int i => cases h; exact .base (.int i)
  | str s => cases h; exact .base (.str s)
  | tup e r => cases h; exact .base (.tup (l _ _ e))
  | lst e r => cases h; exact .base (.lst (l _ _ e))
  | fro e r => cases h
  | obj v => cases h
theorem cd_isi {t c : String} {k : Bool} (h : tyD d = some t) (hk : kitB t c = some k) : CD K (rIsi K) [d, .obj (.ty c)] (.bl k) := fun xs Hv H Q l r q => by
  obtain ⟨x, y, rfl, r1, r2⟩ := r.two
  have e2 := r2.obj_inv
  subst e2
  exact ⟨x, .ty c, .type t, .type c, k, rfl, .ty c, r1.ty l h, kit_ty hk, q _ Hv H (Gr.refl l) (.bl _)⟩
end

/-! ### promises -/
inductive Out where
  | ret (d : D) | exc (c : Value)
/-- called with such data, this comes of it -/
def spD (K : PySem.W.Frag) (R : List D → Out → Prop) : Sp := fun vs H Q E => ∃ (ds : List D) (o : Out) (Hv : Hp), Le Hv H ∧ RepAll K Hv vs ds ∧ R ds o ∧
  match o with
  | .ret d => ∀ v Hv' H', Gr Hv H Hv' H' → Rep K Hv' v d → Q v H'
  | .exc c => ∀ Hv' H', Gr Hv H Hv' H' → E c none H'
section
variable {K : PySem.W.Frag} {b : Bs} {ρ : Rho} {tA : TA} {d : D} {ds : List D} {R : List D → Out → Prop}
theorem evd_call {E : XK} (ha : EvA K b tA ρ ds) (hr : R ds (.ret d)) : EvD K b (tCall (spD K R) [] E tA) ρ d := fun σ Hv H Q A q =>
  ha σ Hv H _ A fun vs Hv1 H1 g1 r1 => ⟨ds, .ret d, Hv1, g1.sub, by rw [List.append_nil]; exact r1, hr, fun v Hv2 H2 g2 r2 => q v Hv2 H2 (g1.trans g2) r2⟩
theorem evd_callDef {E : XK} {es : List D} {dvs : List V} (ha : EvA K b tA ρ ds) (hd : ∀ H, RepAll K H dvs es) (hr : R (ds ++ es) (.ret d)) : EvD K b (tCall (spD K R) dvs E tA) ρ d := fun σ Hv H Q A q =>
  ha σ Hv H _ A fun vs Hv1 H1 g1 r1 => ⟨ds ++ es, .ret d, Hv1, g1.sub, r1.append (hd Hv1), hr, fun v Hv2 H2 g2 r2 => q v Hv2 H2 (g1.trans g2) r2⟩
/-- a call within a try -/
theorem evd_callS {W : WX} (ha : EvA K b tA ρ ds) (hr : R ds (.ret d)) : EvD K b (tCallS (spD K R) (WE W) tA) ρ d := fun σ Hv H Q A q =>
  ha σ Hv H _ A fun vs Hv1 H1 g1 r1 => ⟨ds, .ret d, Hv1, g1.sub, r1, hr, fun v Hv2 H2 g2 r2 => q v Hv2 H2 (g1.trans g2) r2⟩
end
end Kn
namespace Kn
open PySem PySem.Spec L2

/-! ### statements -/
structure DE where
  nx : Rho → Prop
  rt : D → Prop
  bk : Rho → Prop := fun _ => False
  ct : Rho → Prop := fun _ => False
/-- the ends are served -/
structure Cn (K : PySem.W.Frag) (b : Bs) (N : DE) (E : Ends) : Prop where
  nx : ∀ σ Hv H ρ, At K b σ Hv H ρ → N.nx ρ → E.nx σ H
  rt : ∀ v Hv H d, Gr b.v b.h Hv H → Rep K Hv v d → N.rt d → E.rt v H
  bk : ∀ σ Hv H ρ, At K b σ Hv H ρ → N.bk ρ → E.bk σ H
  ct : ∀ σ Hv H ρ, At K b σ Hv H ρ → N.ct ρ → E.ct σ H
def StD (K : PySem.W.Frag) (b : Bs) (t : TS) (N : DE) (ρ : Rho) : Prop := ∀ (σ : L2.St) (Hv H : Hp) (E : Ends), At K b σ Hv H ρ → Cn K b N E → t E σ H

section
variable {K : PySem.W.Frag} {b : Bs} {ρ : Rho} {te ta tb : TE} {tt : TT} {tA : TA} {t u : TS} {d e z : D} {ds : List D} {N : DE}
theorem st_seq (h : StD K b t { N with nx := fun ρ' => StD K b u N ρ' } ρ) : StD K b (tSeq t u) N ρ := fun σ Hv H E A C =>
  h σ Hv H _ A ⟨fun σ' Hv' H' ρ' A' q => q σ' Hv' H' E A' C, C.rt, C.bk, C.ct⟩
theorem st_next (h : N.nx ρ) : StD K b tNext N ρ := fun σ Hv H E A C => C.nx σ Hv H ρ A h
theorem st_brk (h : N.bk ρ) : StD K b tBreak N ρ := fun σ Hv H E A C => C.bk σ Hv H ρ A h
theorem st_cont (h : N.ct ρ) : StD K b tCont N ρ := fun σ Hv H E A C => C.ct σ Hv H ρ A h
theorem st_set {i : Nat} (h : EvD K b te ρ d) (k : N.nx (ρ.set i (some (.dat d)))) : StD K b (tAsg te (gName i)) N ρ := fun σ Hv H E A C =>
  h σ Hv H _ A fun v Hv1 H1 g r => C.nx _ Hv1 H1 _ ((A.grow g).setDat r) k
/-- a new list that the frame alone knows -/
theorem st_own {i : Nat} (h : EvF K b te ρ ds) (k : N.nx (ρ.set i (some (.own ds)))) : StD K b (tAsg te (gName i)) N ρ := fun σ Hv H E A C =>
  h σ Hv H _ A fun p xs Hv1 H1 g hp hv ho r => C.nx _ Hv1 H1 _ ((A.grow g).setOwn hv (Le.none A.gr.big hp) ho r fun j es _ hj hq => by
    obtain ⟨q, ys, e, _, _, e3, _⟩ := A.own j es hj
    rw [e] at hq
    cases hq
    rw [hp] at e3
    cases e3) k
theorem st_ret (h : EvD K b te ρ d) (k : N.rt d) : StD K b (tRet te) N ρ := fun σ Hv H E A C =>
  h σ Hv H _ A fun v Hv1 H1 g r => C.rt v Hv1 H1 d (A.gr.trans g) r k
theorem st_retN (k : N.rt .non) : StD K b tRetN N ρ := fun σ Hv H E A C => C.rt .non Hv H .non A.gr .non k
theorem st_drop (h : EvD K b te ρ d) (k : N.nx ρ) : StD K b (tDrop te) N ρ := fun σ Hv H E A C =>
  h σ Hv H _ A fun v Hv1 H1 g r => C.nx σ Hv1 H1 ρ (A.grow g) k
theorem st_if {c : Bool} (h : EvB K b tt ρ c) (h1 : c = true → StD K b t N ρ) (h2 : c = false → StD K b u N ρ) : StD K b (tIfS tt t u) N ρ := fun σ Hv H E A C =>
  h σ Hv H _ A fun Hv1 H1 g => by
    cases c with
    | true =>
      show t E σ H1
      exact h1 rfl σ Hv1 H1 E (A.grow g) C
    | false =>
      show u E σ H1
      exact h2 rfl σ Hv1 H1 E (A.grow g) C
/-- a, b = x, y -/
theorem st_par {i j : Nat} (ha : EvA K b tA ρ [d, e]) (k : N.nx ((ρ.set i (some (.dat d))).set j (some (.dat e)))) : StD K b (tPar i j tA) N ρ := fun σ Hv H E A C =>
  ha σ Hv H _ A fun vs Hv1 H1 g r => by
    obtain ⟨x, y, rfl, r1, r2⟩ := r.two
    exact ⟨x, y, rfl, C.nx _ Hv1 H1 _ (((A.grow g).setDat r1).setDat r2) k⟩
/-- less is known of the state -/
theorem st_weak {ρ' : Rho} (hl : ρ'.length = ρ.length) (hw : ∀ (i : Nat) (s : SD), ρ'[i]? = some (some s) → ρ[i]? = some (some s)) (h : StD K b t N ρ') : StD K b t N ρ := fun σ Hv H E A C => h σ Hv H E (A.weak hl hw) C
theorem st_mono {N' : DE} (h : StD K b t N ρ) (h1 : ∀ r, N.nx r → N'.nx r) (h2 : ∀ r, N.rt r → N'.rt r) (h3 : ∀ r, N.bk r → N'.bk r) (h4 : ∀ r, N.ct r → N'.ct r) : StD K b t N' ρ := fun σ Hv H E A C =>
  h σ Hv H E A ⟨fun s a c r A' q => C.nx s a c r A' (h1 r q), fun v a c r A' q w => C.rt v a c r A' q (h2 r w), fun s a c r A' q => C.bk s a c r A' (h3 r q), fun s a c r A' q => C.ct s a c r A' (h4 r q)⟩
/-- a hidden list is shown -/
theorem st_pub {i : Nat} (h : ρ[i]? = some (some (.own ds))) (k : StD K b t N (ρ.set i (some (.dat (.lst ds))))) : StD K b t N ρ := fun σ Hv H E A C => by
  obtain ⟨p, xs, e, h1, h2, h3, r⟩ := A.own i ds h
  have hs : σ.set i (some (.ref p)) = σ := by
    apply List.ext_getElem?
    intro j
    by_cases hj : i = j
    · subst hj
      rw [List.getElem?_set_self (List.getElem?_eq_some_iff.mp e).1, e]
    · rw [List.getElem?_set_ne hj]
  have g : Gr b.v b.h (upd Hv p (.lst xs)) H := A.gr.show' h2 h1 h3
  -- the state with the slot forgotten, over the larger visible heap
  have A1 : At K b (σ.set i none) Hv H (ρ.set i none) := A.forget
  have A2 : At K b (σ.set i none) (upd Hv p (.lst xs)) H (ρ.set i none) := by
    refine ⟨g, Le.trans A.sc (Le.new h1), A1.len, fun j e hj => ?_, fun j es hj => ?_, A1.dis⟩
    · obtain ⟨v, e1, r1⟩ := A1.dat j e hj
      exact ⟨v, e1, r1.mono (Le.new h1)⟩
    · obtain ⟨q, ys, e1, q1, q2, q3, q4⟩ := A1.own j es hj
      have hji : i ≠ j := by
        rintro rfl
        have hl : i < ρ.length := (List.getElem?_eq_some_iff.mp h).1
        rw [List.getElem?_set_self hl] at hj
        cases hj
      have hqp : q ≠ p := by
        rintro rfl
        rw [List.getElem?_set_ne hji] at hj e1
        exact A.dis i j q ds es hji h hj e e1
      refine ⟨q, ys, e1, ?_, q2, q3, q4.mono (Le.new h1)⟩
      rw [upd_ne hqp]
      exact q1
  have A3 := A2.setDat (i := i) (v := .ref p) (d := .lst ds) (.lst upd_same (r.mono (Le.new h1)))
  rw [List.set_set, List.set_set, hs] at A3
  exact k σ _ H E A3 C
/-- x.append(e), x a list that the frame alone knows -/
theorem st_append {i : Nat} (h : ρ[i]? = some (some (.own ds))) (he : EvD K b te ρ d) (hz : ds.length < 100000) (k : N.nx (ρ.set i (some (.own (ds ++ [d]))))) :
    StD K b (tDrop (tBM K "list" rAppend (tVar i) (tCons te tNil))) N ρ := fun σ Hv H E A C => by
  obtain ⟨p, xs, e, h1, h2, h3, r⟩ := A.own i ds h
  have hs : σ.set i (some (.ref p)) = σ := by
    apply List.ext_getElem?
    intro j
    by_cases hj : i = j
    · subst hj
      rw [List.getElem?_set_self (List.getElem?_eq_some_iff.mp e).1, e]
    · rw [List.getElem?_set_ne hj]
  refine ⟨.ref p, e, .inl ⟨rfl, xs, SqL.of h3⟩, ?_⟩
  refine he σ Hv H _ A fun v Hv1 H1 g rv => ?_
  have A1 := A.grow g
  obtain ⟨p', xs', e', h1', h2', h3', r'⟩ := A1.own i ds h
  rw [e] at e'
  cases e'
  refine ⟨p, xs', v, rfl, rfl, h3', by rw [r'.length]; exact Nat.lt_of_lt_of_le hz (by decide), ?_⟩
  have g1 : Gr b.v b.h Hv1 (upd H1 p (.lst (xs' ++ [v]))) := ⟨Le.mut A1.gr.big h2, A1.gr.vis, fun a u q => by
    rw [upd_ne (ne_of_none q h1')]
    exact A1.gr.sub a u q, A1.gr.old⟩
  have A2 : At K b σ Hv1 (upd H1 p (.lst (xs' ++ [v]))) (ρ.set i none) := by
    have ne : ∀ {j : Nat} {s : SD}, (ρ.set i none)[j]? = some (some s) → i ≠ j := fun {j s} hj => by
      rintro rfl
      have hl : i < ρ.length := (List.getElem?_eq_some_iff.mp h).1
      rw [List.getElem?_set_self hl] at hj
      cases hj
    refine ⟨g1, A1.sc, by simp [A.len], fun j f hj => ?_, fun j es hj => ?_, fun j k q es fs hjk q1 q2 q3 => ?_⟩
    · have n := ne hj
      rw [List.getElem?_set_ne n] at hj
      exact A1.dat j f hj
    · have n := ne hj
      rw [List.getElem?_set_ne n] at hj
      obtain ⟨q, ys, e1, q1, q2, q3, q4⟩ := A1.own j es hj
      have hqp : q ≠ p := by
        rintro rfl
        exact A1.dis i j q ds es n h hj e e1
      exact ⟨q, ys, e1, q1, q2, by rw [upd_ne hqp]; exact q3, q4⟩
    · have n1 := ne q1
      have n2 := ne q2
      rw [List.getElem?_set_ne n1] at q1
      rw [List.getElem?_set_ne n2] at q2
      exact A1.dis j k q es fs hjk q1 q2 q3
  have A3 := A2.setOwn (i := i) (p := p) (xs := xs' ++ [v]) (ds := ds ++ [d]) h1' h2 upd_same (r'.append (.cons rv .nil)) fun j es hj q1 q2 => by
    rw [List.getElem?_set_ne (Ne.symm hj)] at q1
    exact A1.dis i j p ds es (Ne.symm hj) h q1 e q2
  rw [hs, List.set_set] at A3
  exact C.nx σ Hv1 _ _ A3 k
/-- x[j] = e, x a list that the frame alone knows -/
theorem st_setItem {i j : Nat} {ti : TE} {n : Int} (h : ρ[i]? = some (some (.own ds))) (he : EvD K b te ρ d) (hi : EvD K b ti ρ (.int n)) (hj : ixN ds.length n = some j) (k : N.nx (ρ.set i (some (.own (ds.set j d))))) :
    StD K b (tAsg te (gSub (tVar i) ti rSetL)) N ρ := fun σ Hv H E A C => by
  refine he σ Hv H _ A fun v Hv0 H0 g0 rv => ?_
  have A0 := A.grow g0
  obtain ⟨p, xs, e, h1, h2, h3, r⟩ := A0.own i ds h
  have hs : σ.set i (some (.ref p)) = σ := by
    apply List.ext_getElem?
    intro j
    by_cases hj : i = j
    · subst hj
      rw [List.getElem?_set_self (List.getElem?_eq_some_iff.mp e).1, e]
    · rw [List.getElem?_set_ne hj]
  refine ⟨.ref p, e, ?_⟩
  refine hi σ Hv0 H0 _ A0 fun iv Hv1 H1 g ri => ?_
  have ei := ri.int_inv
  subst ei
  have A1 := A0.grow g
  obtain ⟨p', xs', e', h1', h2', h3', r'⟩ := A1.own i ds h
  rw [e] at e'
  cases e'
  refine ⟨p, xs', n, j, rfl, rfl, h3', by rw [r'.length]; exact hj, ?_⟩
  have g1 : Gr b.v b.h Hv1 (upd H1 p (.lst (xs'.set j v))) := ⟨Le.mut A1.gr.big h2, A1.gr.vis, fun a u q => by
    rw [upd_ne (ne_of_none q h1')]
    exact A1.gr.sub a u q, A1.gr.old⟩
  have A2 : At K b σ Hv1 (upd H1 p (.lst (xs'.set j v))) (ρ.set i none) := by
    have ne : ∀ {j : Nat} {s : SD}, (ρ.set i none)[j]? = some (some s) → i ≠ j := fun {j s} hj => by
      rintro rfl
      have hl : i < ρ.length := (List.getElem?_eq_some_iff.mp h).1
      rw [List.getElem?_set_self hl] at hj
      cases hj
    refine ⟨g1, A1.sc, by simp [A.len], fun j f hj => ?_, fun j es hj => ?_, fun j k q es fs hjk q1 q2 q3 => ?_⟩
    · have n := ne hj
      rw [List.getElem?_set_ne n] at hj
      exact A1.dat j f hj
    · have n := ne hj
      rw [List.getElem?_set_ne n] at hj
      obtain ⟨q, ys, e1, q1, q2, q3, q4⟩ := A1.own j es hj
      have hqp : q ≠ p := by
        rintro rfl
        exact A1.dis i j q ds es n h hj e e1
      exact ⟨q, ys, e1, q1, q2, by rw [upd_ne hqp]; exact q3, q4⟩
    · have n1 := ne q1
      have n2 := ne q2
      rw [List.getElem?_set_ne n1] at q1
      rw [List.getElem?_set_ne n2] at q2
      exact A1.dis j k q es fs hjk q1 q2 q3
  have A3 := A2.setOwn (i := i) (p := p) (xs := xs'.set j v) (ds := ds.set j d) h1' h2 upd_same (r'.set (rv.mono g.vis) j) fun j es hj q1 q2 => by
    rw [List.getElem?_set_ne (Ne.symm hj)] at q1
    exact A1.dis i j p ds es (Ne.symm hj) h q1 e q2
  rw [hs, List.set_set] at A3
  exact C.nx σ Hv1 _ _ A3 k
/-- len of a hidden list -/
theorem evd_lenOwn {i : Nat} (h : ρ[i]? = some (some (.own ds))) : EvD K b (tCB (rLen K) (tCons (tVar i) tNil)) ρ (.int ds.length) := fun σ Hv H Q A q => by
  obtain ⟨p, xs, e, h1, h2, h3, r⟩ := A.own i ds h
  exact ⟨.ref p, e, .ref p, ds.length, rfl, .inl ⟨xs, SqL.of h3, r.length.symm⟩, q _ Hv H (Gr.refl A.sub) (.int _)⟩

/-! ### while -/
theorem st_while (I : Nat → Rho → Prop) (m0 : Nat) (h0 : I m0 ρ)
    (hs : ∀ m ρ', I m ρ' → ∃ c, EvB K b tt ρ' c ∧ (c = true → StD K b t { N with nx := fun ρ2 => ∃ m', m' < m ∧ I m' ρ2, ct := fun ρ2 => ∃ m', m' < m ∧ I m' ρ2, bk := N.nx } ρ') ∧ (c = false → N.nx ρ')) : StD K b (tWhile tt t) N ρ := fun σ Hv H E A C => by
  refine ⟨fun m σ H => ∃ Hv ρ', At K b σ Hv H ρ' ∧ I m ρ', ⟨m0, Hv, ρ, A, h0⟩, ?_⟩
  rintro m σ1 H1 ⟨Hv1, ρ1, A1, i1⟩
  obtain ⟨c, hc, h1, h2⟩ := hs m ρ1 i1
  refine hc σ1 Hv1 H1 _ A1 fun Hv2 H2 g => ?_
  cases c with
  | true =>
    show ∃ Nn, _
    refine ⟨fun σ' H' => ∃ m', m' < m ∧ ∃ Hv ρ', At K b σ' Hv H' ρ' ∧ I m' ρ', fun σ' H' q => q, ?_⟩
    exact h1 rfl σ1 Hv2 H2 _ (A1.grow g) ⟨fun σ' Hv' H' ρ' A' ⟨m', hm, i'⟩ => ⟨m', hm, Hv', ρ', A', i'⟩, C.rt, fun σ' Hv' H' ρ' A' q => C.nx σ' Hv' H' ρ' A' q, fun σ' Hv' H' ρ' A' ⟨m', hm, i'⟩ => ⟨m', hm, Hv', ρ', A', i'⟩⟩
  | false =>
    show E.nx σ1 H2
    exact C.nx σ1 Hv2 H2 ρ1 (A1.grow g) (h2 rfl)

/-! ### targets -/
/-- what a target does with data x: the slots js are stored -/
def GtD (K : PySem.W.Frag) (g : TG) (x : D) (js : List Nat) (f : Rho → Rho) : Prop := ∀ (b : Bs) (v : V) (σ : L2.St) (Hv H : Hp) (ρ : Rho) (Q : L2.St → Hp → Prop), At K b σ Hv H ρ → Rep K Hv v x →
  (∀ σ', (∀ vs : List Nat, (∀ j ∈ js, j ∈ vs) → wipe σ' vs = wipe σ vs) → At K b σ' Hv H (f ρ) → Q σ' H) → g v σ H Q
theorem wipe_get : ∀ (vs : List Nat) (σ : L2.St) (i : Nat), (wipe σ vs)[i]? = if i ∈ vs ∧ i < σ.length then some none else σ[i]?
  | [], σ, i => by simp [wipe]
  | v :: vs, σ, i => by
    show ((wipe σ vs).set v none)[i]? = _
    rw [List.getElem?_set, wipe_length]
    by_cases hv : v = i
    · subst hv
      by_cases hl : v < σ.length
      · simp [hl]
      · simp [hl]
    · have hiv : ¬ i = v := fun z => hv z.symm
      rw [if_neg hv, wipe_get vs σ i]
      simp [hiv]
theorem wipe_set {σ : L2.St} {vs : List Nat} {j : Nat} {o : Option V} (h : j ∈ vs) : wipe (σ.set j o) vs = wipe σ vs := by
  apply List.ext_getElem?
  intro i
  rw [wipe_get, wipe_get, List.length_set]
  by_cases hi : i ∈ vs ∧ i < σ.length
  · rw [if_pos hi, if_pos hi]
  · rw [if_neg hi, if_neg hi]
    by_cases hj : j = i
    · subst hj
      have : ¬ j < σ.length := fun z => hi ⟨h, z⟩
      rw [List.getElem?_eq_none (by simpa using this), List.getElem?_eq_none (by simpa using this)]
    · rw [List.getElem?_set_ne hj]
theorem wipe_wipe {σ : L2.St} {vs : List Nat} : wipe (wipe σ vs) vs = wipe σ vs := by
  apply List.ext_getElem?
  intro i
  rw [wipe_get, wipe_get, wipe_length]
  by_cases hi : i ∈ vs ∧ i < σ.length
  · rw [if_pos hi, if_pos hi]
  · rw [if_neg hi, if_neg hi]
def wipeD (ρ : Rho) : List Nat → Rho
  | [] => ρ
  | v :: vs => (wipeD ρ vs).set v none
theorem At.wipe {σ : L2.St} {Hv H : Hp} (A : At K b σ Hv H ρ) : ∀ vs : List Nat, At K b (wipe σ vs) Hv H (wipeD ρ vs)
  | [] => A
  | v :: vs => (A.wipe vs).forget
theorem gt_name {i : Nat} {x : D} : GtD K (gName i) x [i] (fun ρ => ρ.set i (some (.dat x))) := fun b v σ Hv H ρ Q A r q =>
  q _ (fun vs h => wipe_set (h i List.mem_cons_self)) (A.setDat r)
theorem gt_tup2 {i j : Nat} {x y : D} : GtD K (gTup K 2 (gCons (gName i) (gCons (gName j) gNil))) (.tup [x, y]) [i, j] (fun ρ => (ρ.set i (some (.dat x))).set j (some (.dat y))) := fun b v σ Hv H ρ Q A r q => by
  obtain ⟨a, xs, rfl, ha, rr⟩ := r.tup_inv
  obtain ⟨v1, v2, rfl, r1, r2⟩ := rr.two
  refine ⟨a, _, rfl, SqT.of (A.sub _ _ ha), rfl, v1, [v2], rfl, v2, [], rfl, rfl, ?_⟩
  exact q _ (fun vs h => by rw [wipe_set (h j (by simp)), wipe_set (h i (by simp))]) ((A.setDat r1).setDat r2)
theorem gt_tup3 {i j l : Nat} {x y w : D} : GtD K (gTup K 3 (gCons (gName i) (gCons (gName j) (gCons (gName l) gNil)))) (.tup [x, y, w]) [i, j, l] (fun ρ => ((ρ.set i (some (.dat x))).set j (some (.dat y))).set l (some (.dat w))) := fun b v σ Hv H ρ Q A r q => by
  obtain ⟨a, xs, rfl, ha, rr⟩ := r.tup_inv
  cases rr with
  | cons r1 rr =>
    obtain ⟨v2, v3, rfl, r2, r3⟩ := rr.two
    refine ⟨a, _, rfl, SqT.of (A.sub _ _ ha), rfl, _, [v2, v3], rfl, v2, [v3], rfl, v3, [], rfl, rfl, ?_⟩
    exact q _ (fun vs h => by rw [wipe_set (h l (by simp)), wipe_set (h j (by simp)), wipe_set (h i (by simp))]) (((A.setDat r1).setDat r2).setDat r3)
theorem gt_lst2 {i j : Nat} {x y : D} : GtD K (gLst K 2 (gCons (gName i) (gCons (gName j) gNil))) (.lst [x, y]) [i, j] (fun ρ => (ρ.set i (some (.dat x))).set j (some (.dat y))) := fun b v σ Hv H ρ Q A r q => by
  obtain ⟨a, xs, rfl, ha, rr⟩ := r.lst_inv
  obtain ⟨v1, v2, rfl, r1, r2⟩ := rr.two
  refine ⟨a, _, rfl, SqL.of (A.sub _ _ ha), rfl, v1, [v2], rfl, v2, [], rfl, rfl, ?_⟩
  exact q _ (fun vs h => by rw [wipe_set (h j (by simp)), wipe_set (h i (by simp))]) ((A.setDat r1).setDat r2)
/-- target = value -/
theorem st_asg {g : TG} {js : List Nat} {f : Rho → Rho} (h : EvD K b te ρ d) (hg : GtD K g d js f) (k : N.nx (f ρ)) : StD K b (tAsg te g) N ρ := fun σ Hv H E A C =>
  h σ Hv H _ A fun v Hv1 H1 gr r => hg b v σ Hv1 H1 ρ _ (A.grow gr) r fun σ' _ A' => C.nx σ' Hv1 H1 _ A' k
/-- a walk told by the data it yields, item by item; pn: what stands while it is walked -/
structure SrcD (K : PySem.W.Frag) (b : Bs) (wi : TI) (ρ : Rho) (ds : List D) : Prop where
  run : ∀ (σ : L2.St) (Hv H : Hp) (R : It → Hp → Prop), At K b σ Hv H ρ →
    (∀ (J : It) (Hv1 H1 : Hp), Gr Hv H Hv1 H1 →
      (∀ (i : Nat) (Hv2 H2 : Hp), Le Hv1 Hv2 → Le Hv2 H2 → i < ds.length → J.go i H2) →
      (∀ (i : Nat) (Hv2 H2 : Hp) (x : V) (H' : Hp) (d : D), Le Hv1 Hv2 → Le Hv2 H2 → ds[i]? = some d → J.yld i H2 x H' → ∃ Hv', Gr Hv2 H2 Hv' H' ∧ Rep K Hv' x d) →
      (∀ (Hv2 H2 : Hp), Le Hv1 Hv2 → Le Hv2 H2 → J.stop ds.length H2) → R J H1) → wi σ H R
/-- for -/
theorem st_for {wi : TI} {g : TG} {js : List Nat} {f : D → Rho → Rho} (hw : SrcD K b wi ρ ds) (hg : ∀ x ∈ ds, GtD K g x js (f x)) (I : Nat → Rho → Prop) (h0 : I 0 ρ)
    (hs : ∀ (s : Hp) (i : Nat) (x : D) (ρ' : Rho), ds[i]? = some x → I i ρ' → StD K ⟨b.v, b.h, s⟩ t { N with nx := I (i + 1), ct := I (i + 1), bk := N.nx } (f x ρ'))
    (hd : ∀ ρ', I ds.length ρ' → N.nx ρ') : StD K b (tFor wi g t) N ρ := fun σ Hv H E A C => by
  refine hw.run σ Hv H _ A fun J Hv1 H1 gr hgo hy hst => ?_
  have A1 := A.grow gr
  refine ⟨fun i m σ H => m = ds.length - i ∧ i ≤ ds.length ∧ ∃ Hv ρ', At K ⟨b.v, b.h, Hv1⟩ σ Hv H ρ' ∧ I i ρ', ⟨ds.length, by simp, Nat.zero_le _, Hv1, ρ, ⟨A1.gr, Le.refl _, A1.len, A1.dat, A1.own, A1.dis⟩, h0⟩, ?_⟩
  have back : ∀ {σ : L2.St} {Hv H : Hp} {ρ' : Rho}, At K ⟨b.v, b.h, Hv1⟩ σ Hv H ρ' → At K b σ Hv H ρ' := fun A' => ⟨A'.gr, Le.trans A1.sc A'.sc, A'.len, A'.dat, A'.own, A'.dis⟩
  rintro i m σ2 H2 ⟨rfl, hi, Hv2, ρ2, A2, i2⟩
  by_cases hlt : i < ds.length
  · refine .inr ⟨hgo i Hv2 H2 A2.sc A2.sub hlt, fun σ' H' => ∃ Hv ρ', At K ⟨b.v, b.h, Hv1⟩ σ' Hv H' ρ' ∧ I (i + 1) ρ', fun σ' H' ⟨Hv', ρ', A', i'⟩ => ⟨ds.length - (i + 1), by omega, rfl, hlt, Hv', ρ', A', i'⟩, fun x H' y => ?_⟩
    have hx : ds[i]? = some ds[i] := List.getElem?_eq_getElem hlt
    obtain ⟨Hv3, g3, r3⟩ := hy i Hv2 H2 x H' ds[i] A2.sc A2.sub hx y
    refine hg ds[i] (List.getElem_mem hlt) _ x σ2 Hv3 H' ρ2 _ (A2.grow g3) r3 fun σ4 _ A4 => ?_
    exact hs Hv1 i ds[i] ρ2 hx i2 σ4 Hv3 H' _ A4 ⟨fun σ' Hv' H' ρ' A' q => ⟨Hv', ρ', A', q⟩, fun v Hv' H' e' g' r' q => C.rt v Hv' H' e' g' r' q, fun σ' Hv' H' ρ' A' q => C.nx σ' Hv' H' ρ' (back A') q, fun σ' Hv' H' ρ' A' q => ⟨Hv', ρ', A', q⟩⟩
  · have e : i = ds.length := by omega
    subst e
    exact .inl ⟨hst Hv2 H2 A2.sc A2.sub, C.nx σ2 Hv2 H2 ρ2 (back A2) (hd ρ2 i2)⟩
/-! sources -/
/-- over a list or a tuple -/
def iSeq (K : PySem.W.Frag) (tl : TE) : TI := fun σ H R => iList K tl σ H R ∨ iTup K tl σ H R
theorem src_list {tl : TE} (h : EvD K b tl ρ d) (hd : lstOf d = some ds) : SrcD K b (iList K tl) ρ ds := ⟨fun σ Hv H R A q => h σ Hv H _ A fun v Hv1 H1 g r => by
  obtain ⟨a, xs, rfl, hs, rr⟩ := r.list hd
  have at_ : ∀ {i : Nat} {e : D}, ds[i]? = some e → ∃ v, xs[i]? = some v ∧ Rep K Hv1 v e := fun he => rr.getD he
  refine ⟨a, rfl, ⟨xs, Le.l g.sub hs⟩, q _ Hv1 H1 g (fun i Hv2 H2 l1 l2 hi => ?_) (fun i Hv2 H2 x H' e l1 l2 he y => ?_) fun Hv2 H2 l1 l2 => ⟨xs, Le.l l2 (Le.l l1 hs), by rw [rr.length]; exact Nat.le_refl _⟩⟩
  · obtain ⟨v, hv, _⟩ := at_ (List.getElem?_eq_getElem hi)
    exact ⟨xs, v, Le.l l2 (Le.l l1 hs), hv⟩
  · obtain ⟨rfl, hy⟩ := y
    obtain ⟨v, hv, rv⟩ := at_ he
    have := hy xs (Le.l l2 (Le.l l1 hs))
    rw [hv] at this
    cases this
    exact ⟨Hv2, Gr.refl l2, rv.mono l1⟩⟩
theorem Le.tp {H H' : Hp} {a : Addr} {xs : List V} (e : Le H H') (h : SqT K H a xs) : SqT K H' a xs := by
  rcases h with h | h
  · exact .inl (Le.rd e h)
  · exact .inr h
theorem src_tup {tl : TE} (h : EvD K b tl ρ (.tup ds)) : SrcD K b (iTup K tl) ρ ds := ⟨fun σ Hv H R A q => h σ Hv H _ A fun v Hv1 H1 g r => by
  obtain ⟨a, xs, rfl, hs0, rr⟩ := r.tup_inv
  have hs : SqT K Hv1 a xs := SqT.of hs0
  have at_ : ∀ {i : Nat} {e : D}, ds[i]? = some e → ∃ v, xs[i]? = some v ∧ Rep K Hv1 v e := fun he => rr.getD he
  refine ⟨a, rfl, ⟨xs, Le.tp g.sub hs⟩, q _ Hv1 H1 g (fun i Hv2 H2 l1 l2 hi => ?_) (fun i Hv2 H2 x H' e l1 l2 he y => ?_) fun Hv2 H2 l1 l2 => ⟨xs, Le.tp l2 (Le.tp l1 hs), by rw [rr.length]; exact Nat.le_refl _⟩⟩
  · obtain ⟨v, hv, _⟩ := at_ (List.getElem?_eq_getElem hi)
    exact ⟨xs, v, Le.tp l2 (Le.tp l1 hs), hv⟩
  · obtain ⟨rfl, hy⟩ := y
    obtain ⟨v, hv, rv⟩ := at_ he
    have := hy xs (Le.tp l2 (Le.tp l1 hs))
    rw [hv] at this
    cases this
    exact ⟨Hv2, Gr.refl l2, rv.mono l1⟩⟩
theorem src_seqL {tl : TE} (h : EvD K b tl ρ d) (hd : lstOf d = some ds) : SrcD K b (iSeq K tl) ρ ds := ⟨fun σ Hv H R A q => .inl ((src_list h hd).run σ Hv H R A q)⟩
theorem src_seqT {tl : TE} (h : EvD K b tl ρ (.tup ds)) : SrcD K b (iSeq K tl) ρ ds := ⟨fun σ Hv H R A q => .inr ((src_tup h).run σ Hv H R A q)⟩
theorem pi_seq {X : Cx} {tg l : Expr} {tl : TE} (hl : PE X l tl) : PI X tg l (iSeq X.K tl) := ⟨fun pins s σ H R I h => h.elim (fun q => (pi_list hl).run pins s σ H R I q) (fun q => (pi_tup hl).run pins s σ H R I q)⟩
theorem src_rng1 {n : Int} (ha : EvA K b tA ρ [.int n]) (h1 : -(2 ^ 62) ≤ n) (h2 : n < 2 ^ 62) : SrcD K b (iRng1 tA) ρ ((List.range n.toNat).map fun i => .int (i : Nat)) := ⟨fun σ Hv H R A q => ha σ Hv H _ A fun vs Hv1 H1 g r => by
  obtain ⟨v, rfl, rv⟩ := r.one
  have e := rv.int_inv
  subst e
  refine ⟨n, rfl, h1, h2, q _ Hv1 H1 g (fun i Hv2 H2 l1 l2 hi => by rw [List.length_map, List.length_range] at hi; exact hi) (fun i Hv2 H2 x H' e l1 l2 he y => ?_) fun Hv2 H2 l1 l2 => by rw [List.length_map, List.length_range]; exact Nat.le_refl _⟩
  obtain ⟨rfl, rfl⟩ := y
  refine ⟨Hv2, Gr.refl l2, ?_⟩
  rw [List.getElem?_map] at he
  by_cases hi : i < n.toNat
  · rw [List.getElem?_range hi] at he
    cases he
    rw [Int.zero_add]
    exact .int _
  · rw [List.getElem?_eq_none (by simpa using hi)] at he
    cases he⟩
theorem src_rng2 {m n : Int} (ha : EvA K b tA ρ [.int m, .int n]) (h1 : -(2 ^ 62) ≤ m ∧ m < 2 ^ 62 ∧ -(2 ^ 62) ≤ n ∧ n < 2 ^ 62) : SrcD K b (iRng2 tA) ρ ((List.range (n - m).toNat).map fun i => .int (m + (i : Nat))) := ⟨fun σ Hv H R A q => ha σ Hv H _ A fun vs Hv1 H1 g r => by
  obtain ⟨v, w, rfl, rv, rw'⟩ := r.two
  have e := rv.int_inv
  have e2 := rw'.int_inv
  subst e e2
  refine ⟨m, n, rfl, h1, q _ Hv1 H1 g (fun i Hv2 H2 l1 l2 hi => by rw [List.length_map, List.length_range] at hi; exact hi) (fun i Hv2 H2 x H' e l1 l2 he y => ?_) fun Hv2 H2 l1 l2 => by rw [List.length_map, List.length_range]; exact Nat.le_refl _⟩
  obtain ⟨rfl, rfl⟩ := y
  refine ⟨Hv2, Gr.refl l2, ?_⟩
  rw [List.getElem?_map] at he
  by_cases hi : i < (n - m).toNat
  · rw [List.getElem?_range hi] at he
    cases he
    exact .int _
  · rw [List.getElem?_eq_none (by simpa using hi)] at he
    cases he⟩
theorem src_rng3 {m n c : Int} {k : Nat} (ha : EvA K b tA ρ [.int m, .int n, .int c]) (h1 : RgC m n c k) : SrcD K b (iRng3 tA) ρ ((List.range k).map fun i => .int (m + (i : Nat) * c)) := ⟨fun σ Hv H R A q => ha σ Hv H _ A fun vs Hv1 H1 g r => by
  cases r with
  | cons r1 r =>
    obtain ⟨w, w2, rfl, rw', rw2⟩ := r.two
    have e := r1.int_inv
    have e2 := rw'.int_inv
    have e3 := rw2.int_inv
    subst e e2 e3
    refine ⟨m, n, c, k, rfl, h1, q _ Hv1 H1 g (fun i Hv2 H2 l1 l2 hi => by rw [List.length_map, List.length_range] at hi; exact hi) (fun i Hv2 H2 x H' e l1 l2 he y => ?_) fun Hv2 H2 l1 l2 => by rw [List.length_map, List.length_range]; exact Nat.le_refl _⟩
    obtain ⟨rfl, rfl⟩ := y
    refine ⟨Hv2, Gr.refl l2, ?_⟩
    rw [List.getElem?_map] at he
    by_cases hi : i < k
    · rw [List.getElem?_range hi] at he
      cases he
      exact .int _
    · rw [List.getElem?_eq_none (by simpa using hi)] at he
      cases he⟩
/-- the items with their places -/
def enumD (ds : List D) : List D := (List.range ds.length).map fun i => .tup [.int (i : Nat), ds[i]?.getD .non]
theorem enumD_get {i : Nat} {e : D} (h : (enumD ds)[i]? = some e) : ∃ x, ds[i]? = some x ∧ e = .tup [.int (i : Nat), x] := by
  unfold enumD at h
  rw [List.getElem?_map] at h
  by_cases hi : i < ds.length
  · rw [List.getElem?_range hi] at h
    cases h
    exact ⟨ds[i], List.getElem?_eq_getElem hi, by
      show D.tup [.int (i : Nat), ds[i]?.getD .non] = _
      rw [List.getElem?_eq_getElem hi] <;> rfl⟩
  · rw [List.getElem?_eq_none (by simpa using hi)] at h
    cases h
theorem enumD_length : (enumD ds).length = ds.length := by simp [enumD]
theorem src_enum (ha : EvA K b tA ρ [d]) (hd : lstOf d = some ds) : SrcD K b (iEnum K tA) ρ (enumD ds) := ⟨fun σ Hv H R A q => ha σ Hv H _ A fun vs Hv1 H1 g r0 => by
  obtain ⟨v, rfl, r⟩ := r0.one
  obtain ⟨a, xs, rfl, hs, rr⟩ := r.list hd
  refine ⟨a, xs, rfl, Le.l g.sub hs, q _ Hv1 H1 g (fun i Hv2 H2 l1 l2 hi => ?_) (fun i Hv2 H2 x H' e l1 l2 he y => ?_) fun Hv2 H2 l1 l2 => ⟨xs, Le.l l2 (Le.l l1 hs), by rw [rr.length, enumD_length]; exact Nat.le_refl _⟩⟩
  · rw [enumD_length] at hi
    obtain ⟨v, hv, _⟩ := rr.getD (List.getElem?_eq_getElem hi)
    exact ⟨xs, v, Le.l l2 (Le.l l1 hs), hv⟩
  · obtain ⟨x0, hx0, rfl⟩ := enumD_get he
    obtain ⟨T, w, rfl, hT, rfl, hy⟩ := y
    obtain ⟨v, hv, rv⟩ := rr.getD hx0
    have := hy xs (Le.l l2 (Le.l l1 hs))
    rw [hv] at this
    cases this
    exact ⟨_, Gr.new l2 hT, .tup upd_same (.cons (.int _) (.cons (rv.mono (Le.trans l1 (Le.new (Le.none l2 hT)))) .nil))⟩⟩
def zipD : List D → List D → List D
  | x :: xs, y :: ys => .tup [x, y] :: zipD xs ys
  | _, _ => []
theorem zipD_get : ∀ {ds es : List D} {i : Nat} {e : D}, (zipD ds es)[i]? = some e → ∃ x y, ds[i]? = some x ∧ es[i]? = some y ∧ e = .tup [x, y]
  | [], _, _, _, h => by simp [zipD] at h
  | _ :: _, [], _, _, h => by simp [zipD] at h
  | x :: xs, y :: ys, 0, e, h => by
    simp [zipD] at h
    exact ⟨x, y, rfl, rfl, h.symm⟩
  | x :: xs, y :: ys, i + 1, e, h => by
    obtain ⟨a, c, h1, h2, h3⟩ := zipD_get (ds := xs) (es := ys) (i := i) (by simpa [zipD] using h)
    exact ⟨a, c, by simpa using h1, by simpa using h2, h3⟩
theorem zipD_length : ∀ (ds es : List D), (zipD ds es).length = min ds.length es.length
  | [], _ => by simp [zipD]
  | _ :: _, [] => by simp [zipD]
  | x :: xs, y :: ys => by
    simp only [zipD, List.length_cons, zipD_length xs ys]
    omega
theorem src_zip {es : List D} (ha : EvA K b tA ρ [d, e]) (hd : lstOf d = some ds) (he : lstOf e = some es) : SrcD K b (iZip K tA) ρ (zipD ds es) := ⟨fun σ Hv H R A q => ha σ Hv H _ A fun vs Hv1 H1 g r => by
  obtain ⟨v, w, rfl, r1, r2⟩ := r.two
  obtain ⟨a, xs, rfl, hs, rr⟩ := r1.list hd
  obtain ⟨c, ys, rfl, ht, rs⟩ := r2.list he
  refine ⟨a, c, xs, ys, rfl, Le.l g.sub hs, Le.l g.sub ht, q _ Hv1 H1 g (fun i Hv2 H2 l1 l2 hi => ?_) (fun i Hv2 H2 x H' e l1 l2 he y => ?_) fun Hv2 H2 l1 l2 => ⟨xs, ys, Le.l l2 (Le.l l1 hs), Le.l l2 (Le.l l1 ht), by rw [rr.length, rs.length, zipD_length]; omega⟩⟩
  · rw [zipD_length] at hi
    obtain ⟨v, hv, _⟩ := rr.getD (List.getElem?_eq_getElem (show i < ds.length by omega))
    obtain ⟨w, hw, _⟩ := rs.getD (List.getElem?_eq_getElem (show i < es.length by omega))
    exact ⟨xs, ys, v, w, Le.l l2 (Le.l l1 hs), Le.l l2 (Le.l l1 ht), hv, hw⟩
  · obtain ⟨x0, y0, hx0, hy0, rfl⟩ := zipD_get he
    obtain ⟨T, w, w2, rfl, hT, rfl, hy, hy2⟩ := y
    obtain ⟨v, hv, rv⟩ := rr.getD hx0
    obtain ⟨v2, hv2, rv2⟩ := rs.getD hy0
    have e1 := hy xs (Le.l l2 (Le.l l1 hs))
    rw [hv] at e1
    cases e1
    have e2 := hy2 ys (Le.l l2 (Le.l l1 ht))
    rw [hv2] at e2
    cases e2
    exact ⟨_, Gr.new l2 hT, .tup upd_same (.cons (rv.mono (Le.trans l1 (Le.new (Le.none l2 hT)))) (.cons (rv2.mono (Le.trans l1 (Le.new (Le.none l2 hT)))) .nil))⟩⟩

/-! ### comprehensions -/
theorem evf_lc {wi : TI} {g : TG} {js vs : List Nat} {f : D → Rho → Rho} (p : D → Bool) (m : D → D) (hw : SrcD K b wi ρ ds) (hg : ∀ x ∈ ds, GtD K g x js (f x)) (hj : ∀ j ∈ js, j ∈ vs) (hz : ds.length ≤ 100000)
    (ht : ∀ (x : D), x ∈ ds → EvB K b tt (f x (wipeD ρ vs)) (p x)) (he : ∀ (x : D), x ∈ ds → p x = true → EvD K b te (f x (wipeD ρ vs)) (m x)) :
    EvF K b (tLc wi g tt te vs) ρ ((ds.filter p).map m) := fun σ Hv H Q A q => by
  refine hw.run σ Hv H _ A fun J Hv1 H1 gr hgo hy hst => ?_
  have A1 := A.grow gr
  intro Dl hD
  have hDv : Hv1 Dl = none := Le.none gr.sub hD
  refine ⟨fun i k H => k = ds.length - i ∧ i ≤ ds.length ∧ ∃ Hv' acc, Gr Hv1 H1 Hv' H ∧ Hv' Dl = none ∧ H Dl = some (.lst acc) ∧ RepAll K Hv' acc (((ds.take i).filter p).map m),
    ⟨ds.length, by simp, Nat.zero_le _, Hv1, [], (Gr.refl gr.sub).hid hD hDv, hDv, upd_same, by simpa using RepAll.nil⟩, ?_⟩
  rintro i k H2 ⟨rfl, hi, Hv2, acc, g2, hn, ha, r⟩
  by_cases hlt : i < ds.length
  · refine .inr ⟨hgo i Hv2 H2 g2.vis g2.sub hlt, fun H' => ∃ Hv' acc, Gr Hv1 H1 Hv' H' ∧ Hv' Dl = none ∧ H' Dl = some (.lst acc) ∧ RepAll K Hv' acc (((ds.take (i + 1)).filter p).map m), fun H' q => ⟨ds.length - (i + 1), by omega, rfl, hlt, q⟩, fun x H' y => ?_⟩
    have hx : ds[i]? = some ds[i] := List.getElem?_eq_getElem hlt
    have hm : ds[i] ∈ ds := List.getElem_mem hlt
    obtain ⟨Hv3, g3, r3⟩ := hy i Hv2 H2 x H' ds[i] g2.vis g2.sub hx y
    have A3 : At K b (wipe σ vs) Hv3 H' (wipeD ρ vs) := ((A1.grow g2).grow g3).wipe vs
    refine hg ds[i] hm b x (wipe σ vs) Hv3 H' _ _ A3 r3 fun σ4 w4 A4 => ⟨by rw [w4 vs hj, wipe_wipe], ?_⟩
    refine ht ds[i] hm σ4 Hv3 H' _ A4 fun Hv5 H5 g5 => ?_
    have hn5 : Hv5 Dl = none := by
      have z1 : H' Dl ≠ none := by rw [g3.big _ _ ha]; exact fun z => nomatch z
      have z2 : H2 Dl ≠ none := by rw [ha]; exact fun z => nomatch z
      rw [g5.old Dl z1, g3.old Dl z2]
      exact hn
    have ha5 : H5 Dl = some (.lst acc) := g5.big _ _ (g3.big _ _ ha)
    have r5 : RepAll K Hv5 acc (((ds.take i).filter p).map m) := r.mono (Le.trans g3.vis g5.vis)
    have gg : Gr Hv1 H1 Hv5 H5 := (g2.trans g3).trans g5
    have et : ds.take (i + 1) = ds.take i ++ [ds[i]] := by rw [List.take_add_one, hx] <;> rfl
    cases hp : p ds[i] with
    | false =>
      show ∃ Hv' acc, _
      refine ⟨Hv5, acc, gg, hn5, ha5, ?_⟩
      rw [et, List.filter_append, List.map_append, List.filter_cons, hp]
      simpa using r5
    | true =>
      show te σ4 H5 _
      refine he ds[i] hm hp σ4 Hv5 H5 _ (A4.grow g5) fun y Hv6 H6 g6 ry => ?_
      have z5 : H5 Dl ≠ none := by rw [ha5]; exact fun z => nomatch z
      have hn6 : Hv6 Dl = none := by
        rw [g6.old Dl z5]
        exact hn5
      have ha6 := g6.big _ _ ha5
      refine ⟨acc, ha6, ?_, Hv6, acc ++ [y], (gg.trans g6).hid hD hn6, hn6, upd_same, ?_⟩
      · have h1 := r5.length
        rw [List.length_map] at h1
        have h2 := List.length_filter_le p (ds.take i)
        rw [List.length_take] at h2
        exact Nat.lt_of_lt_of_le (show acc.length < 100000 by omega) (by decide)
      · rw [et, List.filter_append, List.map_append, List.filter_cons, hp]
        exact (r5.mono g6.vis).append (.cons ry .nil)
  · have e : i = ds.length := by omega
    subst e
    refine .inl ⟨hst Hv2 H2 g2.vis g2.sub, ?_⟩
    rw [List.take_length] at r
    exact q Dl acc Hv2 H2 (gr.trans g2) (Le.none gr.big hD) hn ha r
theorem evb_yes : EvB K b tYes ρ true := fun σ Hv H Q A q => q Hv H (Gr.refl A.sub)
theorem evf_lc0 {wi : TI} {g : TG} {js vs : List Nat} {f : D → Rho → Rho} (m : D → D) (hw : SrcD K b wi ρ ds) (hg : ∀ x ∈ ds, GtD K g x js (f x)) (hj : ∀ j ∈ js, j ∈ vs) (hz : ds.length ≤ 100000)
    (he : ∀ (x : D), x ∈ ds → EvD K b te (f x (wipeD ρ vs)) (m x)) : EvF K b (tLc wi g tYes te vs) ρ (ds.map m) := by
  have h := evf_lc (K := K) (b := b) (ρ := ρ) (tt := tYes) (te := te) (p := fun _ => true) m hw hg hj hz (fun x _ => evb_yes) (fun x hx _ => he x hx)
  rw [List.filter_eq_self.mpr (fun _ _ => rfl)] at h
  exact h
end

/-! ### a def -/
def rho0 (n : Nat) (ds : List D) : Rho := ds.map (fun d => some (.dat d)) ++ List.replicate (n - ds.length) none
def Exc (b : Bs) (E : XK) (c : Value) : Prop := ∀ Hv H, Gr b.v b.h Hv H → E c none H
/-- what is to be shown of a def's reading -/
def BodyD (K : PySem.W.Frag) (n : Nat) (t : XK → TS) (R : List D → Out → Prop) : Prop := ∀ (ds : List D) (o : Out) (b : Bs) (E : XK), R ds o → (∀ c, o = .exc c → Exc b E c) →
  StD K b (t E) { nx := fun _ => o = .ret .non, rt := fun d => o = .ret d } (rho0 n ds)
theorem at_entry {K : PySem.W.Frag} {H Hv : Hp} {vs : List V} {ds : List D} {N : List Str} (l : Le Hv H) (r : RepAll K Hv vs ds) : At K ⟨Hv, H, Hv⟩ (L2.start N vs) Hv H (rho0 N.length ds) := by
  have hl := r.length
  refine ⟨Gr.refl l, Le.refl _, ?_, fun i d h => ?_, fun i es h => ?_, fun i j p es fs hij h1 => ?_⟩
  · unfold L2.start rho0
    simp only [List.length_append, List.length_map, List.length_replicate, hl]
  · unfold rho0 at h
    by_cases hi : i < ds.length
    · rw [List.getElem?_append_left (by simpa using hi), List.getElem?_map] at h
      cases e : ds[i]? with
      | none => rw [e] at h; cases h
      | some d' =>
        rw [e] at h
        cases h
        obtain ⟨v, hv, rv⟩ := r.getD e
        refine ⟨v, ?_, rv⟩
        unfold L2.start
        rw [List.getElem?_append_left (by simpa [hl] using hi), List.getElem?_map, hv] <;> rfl
    · rw [List.getElem?_append_right (by simpa using hi), List.getElem?_replicate] at h
      split at h <;> cases h
  · unfold rho0 at h
    by_cases hi : i < ds.length
    · rw [List.getElem?_append_left (by simpa using hi), List.getElem?_map] at h
      cases e : ds[i]? with
      | none => rw [e] at h; cases h
      | some d' => rw [e] at h; cases h
    · rw [List.getElem?_append_right (by simpa using hi), List.getElem?_replicate] at h
      split at h <;> cases h
  · unfold rho0 at h1
    by_cases hi : i < ds.length
    · rw [List.getElem?_append_left (by simpa using hi), List.getElem?_map] at h1
      cases e : ds[i]? with
      | none => rw [e] at h1; cases h1
      | some d' => rw [e] at h1; cases h1
    · rw [List.getElem?_append_right (by simpa using hi), List.getElem?_replicate] at h1
      split at h1 <;> cases h1
theorem body_pure {K : PySem.W.Frag} {n : Nat} {t : XK → TS} {R : List D → Out → Prop} (h : BodyD K n t R) {N : List Str} (hn : N.length = n) (vs : List V) (H : Hp) (Q : VK) (E : XK) (hs : spD K R vs H Q E) :
    t E { nx := fun _ H' => Q .non H', rt := Q } (L2.start N vs) H := by
  subst hn
  obtain ⟨ds, o, Hv, l, r, hR, hq⟩ := hs
  refine h ds o ⟨Hv, H, Hv⟩ E hR (fun c e => ?_) (L2.start N vs) Hv H _ (at_entry l r) ⟨fun σ Hv' H' ρ A e => ?_, fun v Hv' H' d g rv e => ?_, fun _ _ _ _ _ z => z.elim, fun _ _ _ _ _ z => z.elim⟩
  · subst e
    exact fun Hv' H' g => hq Hv' H' g
  · subst e
    exact hq .non Hv' H' A.gr .non
  · subst e
    exact hq v Hv' H' g rv
theorem spD_len {K : PySem.W.Frag} {R : List D → Out → Prop} {n : Nat} (h : ∀ ds o, R ds o → ds.length = n) : ∀ vs H Q E, spD K R vs H Q E → vs.length = n := fun vs H Q E ⟨ds, o, Hv, l, r, hR, _⟩ => by
  rw [r.length]
  exact h ds o hR
/-- raise C(..) -/
def tRaiseC (W : WX) (c : Value) : TS := fun _ σ H => W c none σ H
theorem st_raise {K : PySem.W.Frag} {b : Bs} {ρ : Rho} {N : DE} {E : XK} {c : Value} (h : Exc b E c) : StD K b (tRaiseC (fun c d _ H => E c d H) c) N ρ := fun σ Hv H _ A _ => h Hv H A.gr
end Kn
namespace Kn
open PySem PySem.Spec L2

/-! ### defs as callers see them -/
/-- the def at the module's name x keeps the promise sp -/
structure Cal (P : Program) (w : World) (K : PySem.W.Frag) (mg : Str → Option Value) (base : Heap) (k : Nat) (x : Str) (ps : List Str) (sp : Sp) : Prop where
  ex : ∃ (f : Addr) (fd : FuncData), mg x = some (.ref f) ∧ PySem.W.keepIn K (.ref f) = true ∧ Binds K fd ps [] ∧ FnOk P w K mg base (L2.CX P w) k f fd ps sp
theorem Cal.mk' {P : Program} {w : World} {K : PySem.W.Frag} {mg : Str → Option Value} {base : Heap} {k : Nat} {x : Str} {ps : List Str} {sp : Sp} {f : Addr} {fd : FuncData} (h1 : mg x = some (.ref f)) (h2 : PySem.W.keepIn K (.ref f) = true) (h3 : Binds K fd ps []) (h4 : FnOk P w K mg base (L2.CX P w) k f fd ps sp) :
    Cal P w K mg base k x ps sp := ⟨⟨f, fd, h1, h2, h3, h4⟩⟩
section
variable {X : Cx} {k j : Nat} {x : Str} {ps : List Str} {sp : Sp} {p pos : Pos} {e : Expr} {es : List Expr} {t : TA}
theorem pe_callC (C : Cal X.prog X.w X.K X.mg X.base k x ps sp) (hr : Room k X.A) (hg : Gl X x) (ha : PA X (e :: es) t) (hdb : (x == ("__debug__" : Str)) = false := by decide)
    (he : starEach (e :: es) X.env = (false, eval e X.env) :: starEach es X.env := by rfl) (hpl : (backTo pos (starEach es X.env)).any (·.1) = false := by rfl) : PE X (.Call (.Name x p) (e :: es) [] pos) (tCall sp [] E0 t) := by
  obtain ⟨f, fd, hm, hk, hb, F⟩ := C.ex
  exact pe_call F hr hg hm hk hb .nil passL ha hdb he hpl
theorem pe_callC0 (C : Cal X.prog X.w X.K X.mg X.base k x ps sp) (hr : Room k X.A) (hg : Gl X x) (hdb : (x == ("__debug__" : Str)) = false := by decide) : PE X (.Call (.Name x p) [] [] pos) (tCall sp [] E0 tNil) := by
  obtain ⟨f, fd, hm, hk, hb, F⟩ := C.ex
  exact pe_call0 F hr hg hm hk hb .nil passL hdb
/-- in a def that lets out what its callee lets out -/
theorem pe_callCX {E : XK} (C : Cal X.prog X.w X.K X.mg X.base k x ps sp) (hr : Room k X.A) (hg : Gl X x) (tk : Takes X (fun cls d _ H => E cls d H)) (ha : PA X (e :: es) t) (hdb : (x == ("__debug__" : Str)) = false := by decide)
    (he : starEach (e :: es) X.env = (false, eval e X.env) :: starEach es X.env := by rfl) (hpl : (backTo pos (starEach es X.env)).any (·.1) = false := by rfl) : PE X (.Call (.Name x p) (e :: es) [] pos) (tCall sp [] E t) := by
  obtain ⟨f, fd, hm, hk, hb, F⟩ := C.ex
  exact pe_call F hr hg hm hk hb .nil (passes_call tk fun _ _ _ _ h => h) ha hdb he hpl
/-- within a try -/
theorem pe_callCS {W : WX} (C : Cal X.prog X.w X.K X.mg X.base k x ps sp) (hr : Room k X.A) (hg : Gl X x) (tk : Takes X W) (ha : PA X (e :: es) t) (hdb : (x == ("__debug__" : Str)) = false := by decide)
    (he : starEach (e :: es) X.env = (false, eval e X.env) :: starEach es X.env := by rfl) (hpl : (backTo pos (starEach es X.env)).any (·.1) = false := by rfl) : PE X (.Call (.Name x p) (e :: es) [] pos) (tCallS sp (WE W) t) := by
  obtain ⟨f, fd, hm, hk, hb, F⟩ := C.ex
  exact pe_callS F hr hg hm hk hb (fun σ => passAt tk σ) ha hdb he hpl
end
/-- an own class of errors without __init__ -/
structure ExcF (K : PySem.W.Frag) (mg : Str → Option Value) (x : Str) : Prop where
  g : mg x = some (.ref (He.ga K x))
  i : PySem.W.excIn K (He.ga K x) He.veBase "ValueError.__new__" = true
  k : PySem.W.keepIn K (.ref (He.ga K x)) = true
  s : PySem.W.subIn K (.ref (He.ga K x)) (.type "BaseException") = some true
  t : PySem.W.typeIn K (.ref (He.ga K x)) = some (.type "type")
theorem excC {K : PySem.W.Frag} {h : Heap} {mg : Str → Option Value} {x : Str} (X : K.In h) (G : h.Ns mainGlobals mg) (c1 : (He.Fa.glo x).ok K = true) (c2 : (He.Fa.exc x).ok K = true) : ExcF K mg x := by
  obtain ⟨h1, h2, h3, h4⟩ := He.exc_ok c2
  exact ⟨He.glo_ok X G c1, h1, h2, h3, h4⟩
theorem ps_raiseC {X : Cx} {W : WX} {x m : Str} {j : Nat} {p p2 pos pos2 : Pos} (e : ExcF X.K X.mg x) (hc : X.calm = true) (tk : Takes X W) (hg : Gl X x) (hdb : (x == ("__debug__" : Str)) = false := by decide) :
    PS X (.Raise (some (.Call (.Name x p) [.Constant (.str m) j p2] [] pos)) none pos2) (tRaiseC W (.ref (He.ga X.K x))) :=
  ps_raise hc tk (pmk_own PySem.F.excBase_ValueError e.i e.g e.k (raises_own e.s e.t) hg hdb)
/-- try .. except c as n -/
def tTryAs (K : PySem.W.Frag) (c : Value) (i : Nat) (tb : WX → TS) (ts : Addr → Value → Option Addr → TS) : TS := fun D σ H => tb (wAs K c i ts (fun _ _ _ _ => False) D) D σ H

/-! ### comprehensions, the wiped slots told -/
section
variable {X : Cx} {elt tg iter : Expr} {ifs : List Expr} {scope : Scope} {pos spos py : Pos} {y : Str} {wi : TI} {g : TG} {tt : TT} {te : TE} {i : Nat}
theorem pe_lcV (own : List (Str × Nat)) (vs : List Nat) (hv : own.map (·.2) = vs) (hc : X.calm = true) (hN : X.N.Nodup) (hi : PI X tg iter wi) (ok : BlkOk X.N X.env.scope scope own)
    (hg : ∀ (s : Shared) (H : Hp) (C : Addr) (cl : List (Str × Addr)) (fp : List Addr), PG (X.blk s H scope (compEnvC scope cl C X.env) fp) tg g)
    (ht : ∀ (s : Shared) (H : Hp) (C : Addr) (cl : List (Str × Addr)) (fp : List Addr), PTs (X.blk s H scope (compEnvC scope cl C X.env) fp) ifs tt)
    (he : ∀ (s : Shared) (H : Hp) (C : Addr) (cl : List (Str × Addr)) (fp : List Addr), PE (X.blk s H scope (compEnvC scope cl C X.env) fp) elt te)
    (hs : ∀ x, foldedSetIterable iter X.env x = pure x := by intro _; rfl) : PE X (.ListComp elt [⟨tg, iter, ifs, 0⟩] scope pos) (tLc wi g tt te vs) := by
  subst hv
  exact pe_lc hc hN hi ok hg ht he hs
theorem ps_setLcV (own : List (Str × Nat)) (vs : List Nat) (hv : own.map (·.2) = vs) (hc : X.calm = true) (hN : X.N.Nodup) (hy : X.N[i]? = some y) (hyl : X.env.scope.names.lookup y = some .local)
    (hsw : swapsWith (.ListComp elt [⟨tg, iter, ifs, 0⟩] scope pos) (some (.Name y py)) spos.line X.env = pure true) (hi : PI X tg iter wi) (ok : BlkOk X.N X.env.scope scope own)
    (hg : ∀ (s : Shared) (H : Hp) (C : Addr) (cl : List (Str × Addr)) (fp : List Addr), PG (X.blk s H scope (compEnvC scope cl C X.env) fp) tg g)
    (ht : ∀ (s : Shared) (H : Hp) (C : Addr) (cl : List (Str × Addr)) (fp : List Addr), PTs (X.blk s H scope (compEnvC scope cl C X.env) fp) ifs tt)
    (he : ∀ (s : Shared) (H : Hp) (C : Addr) (cl : List (Str × Addr)) (fp : List Addr), PE (X.blk s H scope (compEnvC scope cl C X.env) fp) elt te)
    (hs : ∀ x, foldedSetIterable iter X.env x = pure x := by intro _; rfl) : PS X (.Assign [.Name y py] (.ListComp elt [⟨tg, iter, ifs, 0⟩] scope pos) spos) (tAsg (tLc wi g tt te vs) (gName i)) := by
  subst hv
  exact ps_setLc hc hN hy hyl hsw hi ok hg ht he hs
end

/-! ### sizes -/
theorem mul_s {i j : Int} (h : -18446744073709551616 < i ∧ i < 18446744073709551616 ∨ -18446744073709551616 < j ∧ j < 18446744073709551616) : IntMulOk i j := CMul.ok h
theorem mul_w {i j : Int} {a b : Nat} (ha : i.natAbs < 2 ^ a) (hb : j.natAbs < 2 ^ b) (h0 : 0 < a) (h1 : 0 < b) (h : a + b ≤ 1000000) : IntMulOk i j := CMulW.ok (wide_mul ha hb h0 h1 h)
theorem log_lt {j : Int} {b : Nat} (hb : j.natAbs < 2 ^ b) (h0 : 0 < b) (h9 : b ≤ 9000) : j.natAbs.log2 < 9000 := Nat.lt_of_lt_of_le (PySem.Flt.log2_lt_of h0 hb) h9
theorem log_s {j : Int} (h : -18446744073709551616 < j ∧ j < 18446744073709551616) : j.natAbs.log2 < 9000 := log_lt (b := 64) (by omega) (by decide) (by decide)

/-! ### the module's end -/
/-- the law's def at the module's name law: what walk_ofE asks -/
theorem law_end {K : PySem.W.Frag} {R : List D → Out → Prop} {x : Str} {f : Addr} {fd : FuncData} {params : Arguments} {body : List Stmt} {scope : Scope}
    (F : FunD K "law" "law" params body scope [] [] f fd) (hb : ∀ (kV doc pm : Value) (an : Option Addr) (cdv ct : Value) (us : List Value), us.length = [x].length → bindArgs (PySem.W.fnOf "law" "law" params body scope .none kV doc pm an cdv ct) ⟨us, []⟩ = pure ([x].zip us))
    (hR : ∀ ns : List Int, ns.length ≤ 63 → R [.fro (ns.map D.int)] (.ret (.bl true))) :
    (∀ (s : Shared) (u : Value), BindsTo s fd ⟨[u], []⟩ [(x, u)]) ∧ ∀ (H : Hp) (a : Addr) (ns : List Int), ns.length ≤ 63 → Only H → SqL K H a (ns.map V.int) → spD K R [.ref a] H (fun v _ => v = .bl true) fun _ _ _ => False := by
  refine ⟨fun s u => FunD.bindsA F hb s [u] rfl, fun H a ns hl _ hS => ⟨[.fro (ns.map D.int)], .ret (.bl true), H, Le.refl H, .cons (.fro hS (RepAll.ints ns)) .nil, hR ns hl, fun v Hv' H' _ r => r.bl_inv⟩⟩
theorem cx_none {P : Program} {w : World} {outer : List Env} {H : Hp} {s : Shared} {e : Value} {s' : Shared} (z : L2.CX P w outer H s (fun _ _ _ => False) e s') : False := by
  obtain ⟨_, _, _, _, _, _, _, _, _, _, _, _, q⟩ := z
  exact q
/-- a law's end over the head's facts; what is let out hangs on the world -/
theorem walk_end {l : PySem.W.OpenLaw} {n k : Nat} {q : Program} {loose : List Str} {XP : (Str → Option Value) → Heap → Prop} {YP : World → Heap → Prop} {d : DefRec} {x : Str}
    (hn : l.most = some n) (hn2 : n ≤ sizeLine) (hdf : d.params.defaults = []) (hr : Room k callerA)
    (F : ∀ (w : World) (mg : Str → Option Value) (fa : Addr) (h : Heap), YP w h → h.Ns mainGlobals mg → mg d.name = some (.ref fa) → ∃ (K : PySem.W.Frag) (fd : FuncData) (sp : Sp), K.In h ∧
      (∀ (s : Shared) (u : Value), BindsTo s fd ⟨[u], []⟩ [(x, u)]) ∧ (∀ (H : Hp) (a : Addr) (ns : List Int), ns.length ≤ n → Only H → SqL K H a (ns.map V.int) → sp [.ref a] H (fun v _ => v = .bl true) fun _ _ _ => False) ∧
      ∀ b : Heap, K.In b → b.Ns mainGlobals mg → FnOk l.prog w K mg b (L2.CX l.prog w) k fa fd [x] sp) : PySem.W.WalkO q loose XP YP l.row.toRowW d [] (fun f vs => PySem.call f vs) :=
  Att.attach_call hn hdf fun w _ s₁ mg mb fa o pm cd doc a vs ns G Y _ _ _ hmg hobj hints hlen hg => by
    obtain ⟨K, fd, sp, KX, h1, h2, h3⟩ := F w mg fa _ Y G.T.g hmg
    exact law_call KX G.T.g G.T.b G.T.builtins G.T.nolimit hg hobj hints (Nat.le_trans hlen hn2) hr h3 h1 (fun H hO hS => h2 H a ns hlen hO hS) fun H e s' => cx_none
end Kn
namespace Kn
open PySem PySem.Spec L2

/-! ### isinstance of a caught error -/
def rIsX (K : PySem.W.Frag) (a : Addr) (cls : Value) (d : Option Addr) : List V → Hp → VK → Prop := fun xs H Q => ∃ (D : Addr) (c : V) (cv : Value) (b : Bool), cls = .ref D ∧ d = none ∧ ExcC K D ∧ xs = [.ref a, c] ∧ (∀ u, RelV c u → u = cv) ∧ PySem.W.kitOne K (.ref D) cv = some b ∧ Q (.bl b) H
theorem call_isX {X : Cx} {a : Addr} {oe : Obj} {pn : List (Addr × Obj)} {cls : Value} {d : Option Addr} (hz : Zc cls d oe) (hf : ∃ vs, oe.data = .fields vs) : CallR (X.suite a ((a, oe) :: pn)) (.builtin "isinstance") (rIsX X.K a cls d) := by
  intro pins s σ H xs us Q I r h
  obtain ⟨D, c, cv, b, rfl, rfl, C, e1, e2, e3, q⟩ := h
  exact call_isE C hz hf pins s σ H xs us Q I r ⟨c, cv, b, e1, e2, e3, q⟩
section
variable {K : PySem.W.Frag}
theorem cd_isXr {a D C : Addr} {k : Bool} (h : ExcC K D) (e : PySem.W.kitOne K (.ref D) (.ref C) = some k) : CD K (rIsX K a (.ref D) none) [.obj (.ref a), .obj (.ref C)] (.bl k) := fun xs Hv H Q l r q => by
  obtain ⟨x, y, rfl, r1, r2⟩ := r.two
  have e1 := r1.obj_inv
  have e2 := r2.obj_inv
  subst e1 e2
  exact ⟨D, .ref C, .ref C, k, rfl, rfl, h, rfl, fun u hu => hu, e, q _ Hv H (Gr.refl l) (.bl _)⟩
theorem cd_isXt {a D : Addr} {n : String} {k : Bool} (h : ExcC K D) (e : PySem.W.kitOne K (.ref D) (.type n) = some k) : CD K (rIsX K a (.ref D) none) [.obj (.ref a), .obj (.ty n)] (.bl k) := fun xs Hv H Q l r q => by
  obtain ⟨x, y, rfl, r1, r2⟩ := r.two
  have e1 := r1.obj_inv
  have e2 := r2.obj_inv
  subst e1 e2
  exact ⟨D, .ty n, .type n, k, rfl, rfl, h, rfl, fun u hu => hu, e, q _ Hv H (Gr.refl l) (.bl _)⟩
end
/-! the facts of it, by the head -/
def excXB (K : PySem.W.Frag) (x : Str) : Bool :=
  He.eqO (PySem.W.findIn K (.ref (He.ga K x)) "__getattribute__") (some (some (.builtin "BaseException.__getattribute__"))) && (He.eqO (PySem.W.findIn K (.ref (He.ga K x)) "__getattr__") (some none) &&
  (decide (PySem.W.subIn K (.ref (He.ga K x)) (.type "BaseException") = some true) && (PySem.W.hasDictIn K (He.ga K x) && (He.eqO (PySem.W.findIn K (.ref (He.ga K x)) "__class__") (some (some (.builtin "object.__class__"))) &&
  (He.eqO (PySem.W.specialIn K (.builtin "object.__class__") "__get__") (some (some (.builtin "getset_descriptor.__get__"))) && (decide (PySem.W.takesIn K (.builtin "object.__class__") = some true) && decide (PySem.W.mroIn K (He.ga K x) (.type "object") = some true)))))))
theorem excXB_ok {K : PySem.W.Frag} {x : Str} (h : excXB K x = true) : ExcC K (He.ga K x) := by
  obtain ⟨h1, h⟩ := He.ba h
  obtain ⟨h2, h⟩ := He.ba h
  obtain ⟨h3, h⟩ := He.ba h
  obtain ⟨h4, h⟩ := He.ba h
  obtain ⟨h5, h⟩ := He.ba h
  obtain ⟨h6, h⟩ := He.ba h
  obtain ⟨h7, h8⟩ := He.ba h
  exact ⟨He.eqO_ok h1, He.eqO_ok h2, of_decide_eq_true h3, h4, He.eqO_ok h5, He.eqO_ok h6, of_decide_eq_true h7, of_decide_eq_true h8⟩
def kitVB (K : PySem.W.Frag) (x : Str) (n : String) (b : Bool) : Bool := decide (PySem.W.kitOne K (.ref (He.ga K x)) (.type n) = some b)
def kitPB (K : PySem.W.Frag) (x y : Str) (b : Bool) : Bool := decide (PySem.W.kitOne K (.ref (He.ga K x)) (.ref (He.ga K y)) = some b)
def exmPB (K : PySem.W.Frag) (x y : Str) (b : Bool) : Bool := decide (PySem.W.exmOne K (.ref (He.ga K x)) (.ref (He.ga K y)) = some b)
/-- all of it for the errors xs, the classes ys -/
def exB (xs ys : List Str) (K : PySem.W.Frag) : Bool := xs.all fun x => excXB K x && (kitVB K x "ValueError" true && (exmPB K x x true && (exmPB K x "KnellError" true && ys.all fun y => kitPB K x y (x == y || y == "KnellError"))))
structure ExOk (ys : List Str) (K : PySem.W.Frag) (x : Str) : Prop where
  c : ExcC K (He.ga K x)
  v : PySem.W.kitOne K (.ref (He.ga K x)) (.type "ValueError") = some true
  self : PySem.W.exmOne K (.ref (He.ga K x)) (.ref (He.ga K x)) = some true
  base : PySem.W.exmOne K (.ref (He.ga K x)) (.ref (He.ga K "KnellError")) = some true
  k : ∀ y ∈ ys, PySem.W.kitOne K (.ref (He.ga K x)) (.ref (He.ga K y)) = some (x == y || y == "KnellError")
theorem exB_ok {xs ys : List Str} {K : PySem.W.Frag} (h : exB xs ys K = true) {x : Str} (hx : x ∈ xs) : ExOk ys K x := by
  have h1 := List.all_eq_true.mp h x hx
  obtain ⟨h2, h1⟩ := He.ba h1
  obtain ⟨h3, h1⟩ := He.ba h1
  obtain ⟨h4, h1⟩ := He.ba h1
  obtain ⟨h5, h6⟩ := He.ba h1
  exact ⟨excXB_ok h2, of_decide_eq_true h3, of_decide_eq_true h4, of_decide_eq_true h5, fun y hy => of_decide_eq_true (List.all_eq_true.mp h6 y hy)⟩
/-! the head's look with one more truth -/
abbrev AlX : Type := He.AlD × Bool
def obsX (fa : List He.Fa) (fn : List He.DefD) (ex : PySem.W.Frag → Bool) (K : PySem.W.Frag) : AlX := (He.obsD fa fn K, ex K)
def hookX (n : Nat) (fa : List He.Fa) (fn : List He.DefD) (ex : PySem.W.Frag → Bool) : PySem.W.Hook where
  α := AlX
  obs := fun s => obsX fa fn ex (He.frG s.heap.get? (He.asD s.heap.get? n))
  val := fun _ => (He.valD fn, true)
  says := fun _ h => ∃ K : PySem.W.Frag, K.In h ∧ He.SaysD fa fn K ∧ ex K = true
  of := fun _ _ e => ⟨_, He.frG_in, congrArg (fun z : AlX => z.1) e, congrArg (fun z : AlX => z.2) e⟩
  keeps := fun _ _ _ ⟨K, hK, c⟩ k => ⟨K, PySem.W.Frag.In.keeps hK k, c⟩
def obsXG (n : Nat) (fa : List He.Fa) (fn : List He.DefD) (ex : PySem.W.Frag → Bool) (g : Addr → Option Obj) : AlX := obsX fa fn ex (He.frG g (He.asD g n))
theorem obsXG_eq {n : Nat} {fa : List He.Fa} {fn : List He.DefD} {ex : PySem.W.Frag → Bool} {g : Addr → Option Obj} {s : Shared} (h : ∀ a, g a = s.heap.get? a) : obsXG n fa fn ex g = (hookX n fa fn ex).obs s := by
  rw [show g = s.heap.get? from funext h] <;> rfl

/-! ### try -/
section
variable {K : PySem.W.Frag} {b : Bs} {ρ : Rho} {tA : TA} {ds : List D} {N : DE} {R : List D → Out → Prop} {c cls : Value} {i : Nat} {tb : WX → TS} {ts : Addr → Value → Option Addr → TS}
theorem st_try_ok (h : ∀ W, StD K b (tb W) N ρ) : StD K b (tTryAs K c i tb ts) N ρ := fun σ Hv H E A C => h _ σ Hv H E A C
/-- what is wanted where the suite is come to -/
theorem was_of {σ : L2.St} {Hv H : Hp} {E : Ends} {Wo : WX} (A : At K b σ Hv H ρ) (C : Cn K b N E) (he : PySem.W.exmOne K cls c = some true)
    (hs : ∀ a : Addr, StD K b (ts a cls none) { nx := fun r => N.nx (r.set i none), rt := N.rt, bk := fun r => N.bk (r.set i none), ct := fun r => N.ct (r.set i none) } (ρ.set i (some (.dat (.obj (.ref a)))))) : wAs K c i ts Wo E cls none σ H :=
  ⟨true, he, fun _ a _ => hs a _ Hv H _ (A.setDat (.obj (.ref a))) ⟨fun σ' Hv' H' ρ' A' q => C.nx _ Hv' H' _ A'.forget q, C.rt, fun σ' Hv' H' ρ' A' q => C.bk _ Hv' H' _ A'.forget q, fun σ' Hv' H' ρ' A' q => C.ct _ Hv' H' _ A'.forget q⟩, fun z => nomatch z⟩
theorem st_try_drop (ha : EvA K b tA ρ ds) (hr : R ds (.exc cls)) (he : PySem.W.exmOne K cls c = some true)
    (hs : ∀ a : Addr, StD K b (ts a cls none) { nx := fun r => N.nx (r.set i none), rt := N.rt, bk := fun r => N.bk (r.set i none), ct := fun r => N.ct (r.set i none) } (ρ.set i (some (.dat (.obj (.ref a)))))) :
    StD K b (tTryAs K c i (fun W => tDrop (tCallS (spD K R) (WE W) tA)) ts) N ρ := fun σ Hv H E A C =>
  ha σ Hv H _ A fun vs Hv1 H1 g1 r1 => ⟨ds, .exc cls, Hv1, g1.sub, r1, hr, fun Hv2 H2 g2 => was_of (A.grow (g1.trans g2)) C he hs⟩
end
end Kn
namespace Kn

/-! ### Euclid with weights -/
/-- the rest by the floor division, by the divisor's sign -/
theorem rest_pos {h t : Int} (ht : 0 < t) : h.fdiv t = h / t ∧ h - h.fdiv t * t = h % t := by
  have e : h.fdiv t = h / t := Int.fdiv_eq_ediv_of_nonneg h (by omega)
  refine ⟨e, ?_⟩
  rw [e, Int.emod_def, Int.mul_comm]
theorem rest_neg {h t : Int} (ht : t < 0) : h.fdiv t = (-h) / (-t) ∧ h - h.fdiv t * t = -((-h) % (-t)) := by
  have e : h.fdiv t = (-h) / (-t) := by
    rw [← Int.neg_fdiv_neg]
    exact Int.fdiv_eq_ediv_of_nonneg (-h) (by omega)
  refine ⟨e, ?_⟩
  rw [e, Int.emod_def, Int.neg_mul, Int.mul_comm t]
  omega
theorem rest_lt {h t : Int} (ht : t ≠ 0) : (h - h.fdiv t * t).natAbs < t.natAbs := by
  rcases Int.lt_or_gt_of_ne ht with h1 | h1
  · rw [(rest_neg h1).2]
    have := Int.emod_nonneg (-h) (show -t ≠ 0 by omega)
    have := Int.emod_lt_of_pos (-h) (show 0 < -t by omega)
    omega
  · rw [(rest_pos h1).2]
    have := Int.emod_nonneg h (show t ≠ 0 by omega)
    have := Int.emod_lt_of_pos h h1
    omega
def wl (here u v there ou ov : Int) : Int × Int × Int :=
  if _h : there = 0 then (here, u, v) else wl there ou ov (here - here.fdiv there * there) (u - here.fdiv there * ou) (v - here.fdiv there * ov)
termination_by there.natAbs
decreasing_by exact rest_lt _h
theorem wl_zero (here u v ou ov : Int) : wl here u v 0 ou ov = (here, u, v) := by
  rw [wl]
  simp
theorem wl_step {there : Int} (h : there ≠ 0) (here u v ou ov : Int) : wl here u v there ou ov = wl there ou ov (here - here.fdiv there * there) (u - here.fdiv there * ou) (v - here.fdiv there * ov) := by
  rw [wl, dif_neg h]
/-- what weights tells -/
def wRes (a c : Int) : Int × Int × Int :=
  if (wl a 1 0 c 0 1).1 < 0 then (0 - (wl a 1 0 c 0 1).1, 0 - (wl a 1 0 c 0 1).2.1, 0 - (wl a 1 0 c 0 1).2.2) else wl a 1 0 c 0 1

/-- what stays true of the loop; B bounds the weights -/
structure WJ (a c : Int) (B : Nat) (here u v there ou ov : Int) : Prop where
  e1 : here = u * a + v * c
  e2 : there = ou * a + ov * c
  g : Int.gcd here there = Int.gcd a c
  bh : here.natAbs ≤ B
  bt : there.natAbs ≤ c.natAbs
  bu : u.natAbs ≤ B
  bv : v.natAbs ≤ B
  bou : ou.natAbs ≤ B
  bov : ov.natAbs ≤ B
  later : (here = a ∧ there = c ∧ u = 1 ∧ v = 0 ∧ ou = 0 ∧ ov = 1) ∨
    (here ≠ 0 ∧ ((0 < here ∧ 0 ≤ there) ∨ (here < 0 ∧ there ≤ 0)) ∧ u.natAbs * there.natAbs + ou.natAbs * here.natAbs ≤ B ∧ v.natAbs * there.natAbs + ov.natAbs * here.natAbs ≤ B)
theorem wj_start (a c : Int) : WJ a c (a.natAbs + 2 * c.natAbs + 1) a 1 0 c 0 1 := by
  refine ⟨by omega, by omega, rfl, by omega, Nat.le_refl _, by omega, by omega, by omega, by omega, .inl ⟨rfl, rfl, rfl, rfl, rfl, rfl⟩⟩
/-- signs alike: sizes divide -/
theorem rest_abs {h t : Int} (hs : (0 < t ∧ 0 ≤ h) ∨ (t < 0 ∧ h ≤ 0)) : (h.fdiv t).natAbs * t.natAbs + (h - h.fdiv t * t).natAbs = h.natAbs := by
  rcases hs with ⟨h1, h2⟩ | ⟨h1, h2⟩
  · obtain ⟨e1, e2⟩ := rest_pos (h := h) h1
    rw [e2, e1]
    have a1 : 0 ≤ h / t := Int.ediv_nonneg h2 (by omega)
    have a2 := Int.emod_nonneg h (show t ≠ 0 by omega)
    have a3 := Int.mul_ediv_add_emod h t
    have a4 : ((h / t).natAbs * t.natAbs : Nat) = (h / t * t).natAbs := (Int.natAbs_mul _ _).symm
    rw [a4]
    have a5 : 0 ≤ h / t * t := Int.mul_nonneg a1 (by omega)
    rw [Int.mul_comm] at a3
    omega
  · obtain ⟨e1, e2⟩ := rest_neg (h := h) h1
    rw [e2, e1]
    have a1 : 0 ≤ (-h) / (-t) := Int.ediv_nonneg (by omega) (by omega)
    have a2 := Int.emod_nonneg (-h) (show -t ≠ 0 by omega)
    have a3 := Int.mul_ediv_add_emod (-h) (-t)
    have a4 : (((-h) / (-t)).natAbs * t.natAbs : Nat) = ((-h) / (-t) * (-t)).natAbs := by rw [Int.natAbs_mul, Int.natAbs_neg]
    rw [a4]
    have a5 : 0 ≤ (-h) / (-t) * (-t) := Int.mul_nonneg a1 (by omega)
    rw [Int.mul_comm] at a3
    omega
theorem rest_sign {h t : Int} (ht : t ≠ 0) : (0 < t ∧ 0 ≤ h - h.fdiv t * t) ∨ (t < 0 ∧ h - h.fdiv t * t ≤ 0) := by
  rcases Int.lt_or_gt_of_ne ht with h1 | h1
  · refine .inr ⟨h1, ?_⟩
    rw [(rest_neg h1).2]
    have := Int.emod_nonneg (-h) (show -t ≠ 0 by omega)
    omega
  · refine .inl ⟨h1, ?_⟩
    rw [(rest_pos h1).2]
    exact Int.emod_nonneg h (show t ≠ 0 by omega)
theorem pot {p q t h w : Nat} {x y z : Nat} (e : w * t + x = h) (hz : z ≤ p + w * q) (hb : p * t + q * h ≤ y) : q * x + z * t ≤ y := by
  subst e
  have h1 : z * t ≤ (p + w * q) * t := Nat.mul_le_mul_right t hz
  have h2 : (p + w * q) * t = p * t + w * q * t := Nat.add_mul _ _ _
  have h3 : q * (w * t + x) = q * (w * t) + q * x := Nat.mul_add _ _ _
  have h4 : w * q * t = q * (w * t) := by rw [Nat.mul_comm w q, Nat.mul_assoc]
  omega
theorem lin {a c u v ou ov q : Int} : u * a + v * c - q * (ou * a + ov * c) = (u - q * ou) * a + (v - q * ov) * c := by
  rw [Int.sub_mul, Int.sub_mul, Int.mul_add, ← Int.mul_assoc, ← Int.mul_assoc]
  omega
theorem wj_step {a c : Int} {B : Nat} {here u v there ou ov : Int} (hB : a.natAbs + 2 * c.natAbs + 1 ≤ B) (J : WJ a c B here u v there ou ov) (ht : there ≠ 0) :
    WJ a c B there ou ov (here - here.fdiv there * there) (u - here.fdiv there * ou) (v - here.fdiv there * ov) := by
  have hr := rest_lt (h := here) ht
  have hs := rest_sign (h := here) ht
  have g : Int.gcd there (here - here.fdiv there * there) = Int.gcd a c := by
    rw [Int.gcd_sub_mul_right_right, Int.gcd_comm]
    exact J.g
  have e1 : here - here.fdiv there * there = (u - here.fdiv there * ou) * a + (v - here.fdiv there * ov) * c := by
    rw [← lin, ← J.e1, ← J.e2]
  have bt := J.bt
  have bs : ∀ (p q : Int), (p - here.fdiv there * q).natAbs ≤ p.natAbs + (here.fdiv there).natAbs * q.natAbs := fun p q => by
    have h1 := Int.natAbs_sub_le p (here.fdiv there * q)
    rw [Int.natAbs_mul] at h1
    exact h1
  have sg : (0 < there ∧ 0 ≤ here - here.fdiv there * there) ∨ (there < 0 ∧ here - here.fdiv there * there ≤ 0) := hs
  have one : 1 ≤ there.natAbs := by omega
  -- the two sums at the new state
  have key : ou.natAbs * (here - here.fdiv there * there).natAbs + (u - here.fdiv there * ou).natAbs * there.natAbs ≤ B ∧ ov.natAbs * (here - here.fdiv there * there).natAbs + (v - here.fdiv there * ov).natAbs * there.natAbs ≤ B := by
    rcases J.later with ⟨rfl, rfl, rfl, rfl, rfl, rfl⟩ | ⟨hn, hsg, p1, p2⟩
    · constructor
      · rw [Int.mul_zero]
        show 0 * _ + 1 * there.natAbs ≤ B
        omega
      · have h1 : (0 - here.fdiv there * 1).natAbs * there.natAbs = (here.fdiv there * there).natAbs := by
          rw [Int.mul_one, Int.natAbs_mul]
          congr 1
          omega
        rw [h1]
        show 1 * _ + _ ≤ B
        omega
    · have ab := rest_abs (h := here) (t := there) (by omega)
      exact ⟨pot ab (bs u ou) p1, pot ab (bs v ov) p2⟩
  have ge : ∀ {x y z : Nat}, y + x * there.natAbs ≤ z → x ≤ z := fun {x y z} h => by
    have : x * 1 ≤ x * there.natAbs := Nat.mul_le_mul_left x one
    omega
  exact ⟨J.e2, e1, g, by omega, by omega, J.bou, J.bov, ge key.1, ge key.2, .inr ⟨ht, by omega, key.1, key.2⟩⟩
theorem wl_end {a c : Int} {B : Nat} (hB : a.natAbs + 2 * c.natAbs + 1 ≤ B) : ∀ (n : Nat) {here u v there ou ov : Int}, there.natAbs ≤ n → WJ a c B here u v there ou ov →
    (wl here u v there ou ov).1.natAbs = Int.gcd a c ∧ (wl here u v there ou ov).1 = (wl here u v there ou ov).2.1 * a + (wl here u v there ou ov).2.2 * c ∧ (wl here u v there ou ov).2.1.natAbs ≤ B ∧ (wl here u v there ou ov).2.2.natAbs ≤ B
  | n, here, u, v, there, ou, ov, hn, J => by
    by_cases ht : there = 0
    · subst ht
      rw [wl_zero]
      have g := J.g
      rw [Int.gcd_zero_right] at g
      exact ⟨g, J.e1, J.bu, J.bv⟩
    · rw [wl_step ht]
      cases n with
      | zero => omega
      | succ n => exact wl_end hB n (by have := rest_lt (h := here) ht; omega) (wj_step hB J ht)
/-- the weights' three numbers -/
def wU (a c : Int) : Int := (wRes a c).2.1
def wV (a c : Int) : Int := (wRes a c).2.2
theorem wRes_1 (a c : Int) : (wRes a c).1 = (Int.gcd a c : Int) := by
  obtain ⟨h1, _, _, _⟩ := wl_end (a := a) (c := c) (Nat.le_refl _) _ (Nat.le_refl _) (wj_start a c)
  unfold wRes
  split
  · show 0 - (wl a 1 0 c 0 1).1 = _
    omega
  · show (wl a 1 0 c 0 1).1 = _
    omega
theorem wRes_eq (a c : Int) : wRes a c = ((Int.gcd a c : Int), wU a c, wV a c) := by
  rw [← wRes_1] <;> rfl
theorem w_lin (a c : Int) : wU a c * a + wV a c * c = (Int.gcd a c : Int) := by
  obtain ⟨_, h2, _, _⟩ := wl_end (a := a) (c := c) (Nat.le_refl _) _ (Nat.le_refl _) (wj_start a c)
  rw [← wRes_1]
  unfold wU wV wRes
  split
  · show (0 - (wl a 1 0 c 0 1).2.1) * a + (0 - (wl a 1 0 c 0 1).2.2) * c = 0 - (wl a 1 0 c 0 1).1
    rw [Int.sub_mul, Int.sub_mul]
    omega
  · exact h2.symm
theorem wU_le (a c : Int) : (wU a c).natAbs ≤ a.natAbs + 2 * c.natAbs + 1 := by
  obtain ⟨_, _, h3, _⟩ := wl_end (a := a) (c := c) (Nat.le_refl _) _ (Nat.le_refl _) (wj_start a c)
  unfold wU wRes
  split
  · show (0 - (wl a 1 0 c 0 1).2.1).natAbs ≤ _
    omega
  · exact h3
theorem wV_le (a c : Int) : (wV a c).natAbs ≤ a.natAbs + 2 * c.natAbs + 1 := by
  obtain ⟨_, _, _, h4⟩ := wl_end (a := a) (c := c) (Nat.le_refl _) _ (Nat.le_refl _) (wj_start a c)
  unfold wV wRes
  split
  · show (0 - (wl a 1 0 c 0 1).2.2).natAbs ≤ _
    omega
  · exact h4
end Kn
namespace Kn
open PySem PySem.Spec L2

/-! ### sizes by powers of two -/
def Sm (n : Nat) (i : Int) : Prop := i.natAbs < 2 ^ n
theorem Sm.mono {n m : Nat} {i : Int} (h : Sm n i) (hm : n ≤ m) : Sm m i := Nat.lt_of_lt_of_le h (Nat.pow_le_pow_right (by decide) hm)
theorem Sm.le {n : Nat} {i j : Int} (h : Sm n j) (hi : i.natAbs ≤ j.natAbs) : Sm n i := Nat.lt_of_le_of_lt hi h
theorem Sm.mul {n m : Nat} {i j : Int} (h : Sm n i) (h2 : Sm m j) : Sm (n + m) (i * j) := by
  unfold Sm at *
  rw [Int.natAbs_mul, Nat.pow_add]
  exact Nat.mul_lt_mul'' h h2
theorem Sm.add {n : Nat} {i j : Int} (h : Sm n i) (h2 : Sm n j) : Sm (n + 1) (i + j) := by
  unfold Sm at *
  rw [Nat.pow_succ]
  have := Int.natAbs_add_le i j
  omega
theorem Sm.sub {n : Nat} {i j : Int} (h : Sm n i) (h2 : Sm n j) : Sm (n + 1) (i - j) := by
  unfold Sm at *
  rw [Nat.pow_succ]
  have := Int.natAbs_sub_le i j
  omega
theorem Sm.lt {n : Nat} {i : Int} (h0 : -(2 : Int) ^ n < i) (h1 : i < (2 : Int) ^ n) : Sm n i := by
  unfold Sm
  have e : ((2 ^ n : Nat) : Int) = (2 : Int) ^ n := by
    rw [Int.natCast_pow] <;> rfl
  omega
theorem Sm.lit {n : Nat} {i : Int} (h : decide (i.natAbs < 2 ^ n) = true) : Sm n i := (of_decide_eq_true h : i.natAbs < 2 ^ n)
theorem mulOk {n m : Nat} {i j : Int} (h : Sm n i) (h2 : Sm m j) (hz : n + m ≤ 999998) : IntMulOk i j :=
  mul_w (a := n + 1) (b := m + 1) (h.mono (Nat.le_succ _)) (h2.mono (Nat.le_succ _)) (Nat.succ_pos _) (Nat.succ_pos _) (by omega)
theorem divOk {n : Nat} {j : Int} (h : Sm n j) (hz : n ≤ 8999) : j.natAbs.log2 < 9000 := log_lt (b := n + 1) (h.mono (Nat.le_succ _)) (Nat.succ_pos _) (by omega)
/-- the sizes that weights needs -/
theorem sm_sum {n : Nat} {a c x : Int} (ha : Sm n a) (hc : Sm n c) (h : x.natAbs ≤ a.natAbs + 2 * c.natAbs + 1) : Sm (n + 2) x := by
  unfold Sm at *
  rw [Nat.pow_add]
  omega
theorem sm_wU {n : Nat} {a c : Int} (ha : Sm n a) (hc : Sm n c) : Sm (n + 2) (wU a c) := sm_sum ha hc (wU_le a c)
theorem sm_wV {n : Nat} {a c : Int} (ha : Sm n a) (hc : Sm n c) : Sm (n + 2) (wV a c) := sm_sum ha hc (wV_le a c)
theorem sm_gcd {n : Nat} {a c : Int} (ha : Sm n a) (h : a ≠ 0) : Sm n (Int.gcd a c : Int) := ha.le (by
  have h1 := Int.gcd_dvd_left a c
  have h2 := Int.natAbs_dvd_natAbs.mpr h1
  exact Nat.le_of_dvd (by omega) h2)
/-! ### ranges by steps -/
theorem rg3 {j : Int} {n : Nat} (h0 : 0 < j) (h1 : j ≤ 100000) (hn : (j - 1) / 3 + 1 = (n : Int)) : RgC 0 j 3 n := by
  have e : Builtin.Range.rangeSize 0 j 3 = n := by
    unfold Builtin.Range.rangeSize
    rw [if_pos (by decide), if_pos h0]
    omega
  refine ⟨by decide, by decide, ?_, e⟩
  unfold Builtin.Range.small
  rw [e]
  simp only [Builtin.Range.rangeFitsLong, Bool.and_eq_true, Bool.or_eq_true, decide_eq_true_eq, beq_iff_eq, show (3 : Int) > 0 by decide, if_true]
  omega
theorem rg2 {i j : Int} {n : Nat} (hi : 0 ≤ i) (h0 : i < j) (h1 : j ≤ 100000) (hn : (j - i - 1) / 2 + 1 = (n : Int)) : RgC i j 2 n := by
  have e : Builtin.Range.rangeSize i j 2 = n := by
    unfold Builtin.Range.rangeSize
    rw [if_pos (by decide), if_pos h0]
    omega
  refine ⟨by decide, by decide, ?_, e⟩
  unfold Builtin.Range.small
  rw [e]
  simp only [Builtin.Range.rangeFitsLong, Bool.and_eq_true, Bool.or_eq_true, decide_eq_true_eq, beq_iff_eq, show (2 : Int) > 0 by decide, if_true]
  omega
end Kn
namespace Kn
open PySem PySem.Spec L2

/-! ### beats that meet, in plain numbers -/
/-- a beat -/
abbrev Bt (r g : Int) : D := .tup [.int r, .int g]
abbrev gcI (g h : Int) : Int := (Int.gcd g h : Int)
theorem gcI_pos {g h : Int} (hg : 0 < g) : 0 < gcI g h := by
  have : 0 < Int.gcd g h := Int.gcd_pos_of_ne_zero_left h (by omega)
  show 0 < (Int.gcd g h : Int)
  omega
theorem gcI_l (g h : Int) : gcI g h ∣ g := Int.gcd_dvd_left g h
theorem gcI_r (g h : Int) : gcI g h ∣ h := Int.gcd_dvd_right g h
theorem gcI_to {x g h : Int} (h1 : x ∣ g) (h2 : x ∣ h) : x ∣ gcI g h := Int.dvd_coe_gcd h1 h2
def cmG (g h : Int) : Int := g / gcI g h * h
def cmF (r g s h : Int) : Int := r + (s - r) / gcI g h * wU g h * g
def cmR (r g s h : Int) : Int := cmF r g s h % cmG g h
theorem cmG_mul {g h : Int} (hg : 0 < g) : cmG g h * gcI g h = g * h := by
  unfold cmG
  rw [Int.mul_right_comm, Int.ediv_mul_cancel (gcI_l g h)]
theorem cmG_pos {g h : Int} (hg : 0 < g) (hh : 0 < h) : 0 < cmG g h := by
  have := gcI_pos (h := h) hg
  exact Int.mul_pos (Int.ediv_pos_of_pos_of_dvd hg (by omega) (gcI_l g h)) hh
theorem cmG_r {g h : Int} : h ∣ cmG g h := ⟨g / gcI g h, by unfold cmG; rw [Int.mul_comm]⟩
theorem cmG_l {g h : Int} : g ∣ cmG g h := by
  obtain ⟨c, hc⟩ := gcI_r g h
  refine ⟨c, ?_⟩
  unfold cmG
  conv => lhs; rw [hc]
  by_cases h0 : gcI g h = 0
  · have hg : g = 0 := by have := gcI_l g h; rw [h0] at this; exact Int.zero_dvd.mp this
    have h0' : h = 0 := by rw [hc, h0, Int.zero_mul]
    rw [h0] at *
    rw [hg]
    simp
  · rw [← Int.mul_assoc, show g / gcI g (gcI g h * c) * gcI g h = g from ?_]
    have e : gcI g (gcI g h * c) = gcI g h := by rw [← hc]
    rw [e, Int.ediv_mul_cancel (gcI_l g h)]
theorem cmG_le {g h : Int} (hg : 0 < g) (hh : 0 < h) : cmG g h ≤ g * h := by
  have h1 := gcI_pos (h := h) hg
  have h2 := cmG_pos hg hh
  rw [← cmG_mul hg]
  have := Int.mul_le_mul_of_nonneg_left (show 1 ≤ gcI g h by omega) (show 0 ≤ cmG g h by omega)
  omega
/-- it is the least one -/
theorem cmG_dvd {g h x : Int} (hg : 0 < g) (h1 : g ∣ x) (h2 : h ∣ x) : cmG g h ∣ x := by
  have hp := gcI_pos (h := h) hg
  refine Int.dvd_of_mul_dvd_mul_right (show gcI g h ≠ 0 by omega) ?_
  rw [cmG_mul hg]
  have e := w_lin g h
  show g * h ∣ x * (Int.gcd g h : Int)
  rw [← e, Int.mul_add, ← Int.mul_assoc, ← Int.mul_assoc, Int.mul_comm (x * wU g h) g, Int.mul_comm (x * wV g h) h]
  refine Int.dvd_add ?_ ?_
  · exact Int.mul_dvd_mul_left g (Int.dvd_trans h2 ⟨wU g h, rfl⟩)
  · rw [Int.mul_comm g h]
    exact Int.mul_dvd_mul_left h (Int.dvd_trans h1 ⟨wV g h, rfl⟩)
theorem cm_sub {m c g f : Int} (h1 : g ∣ m - f) (h2 : g ∣ c) : g ∣ m % c - f := by
  have e : m % c - f = (m - f) - c * (m / c) := by have := Int.emod_add_mul_ediv m c; omega
  rw [e]
  exact Int.dvd_sub h1 (Int.dvd_trans h2 ⟨_, rfl⟩)
theorem cmR_l {r g s h : Int} : g ∣ cmR r g s h - r := by
  refine cm_sub ?_ cmG_l
  unfold cmF
  rw [show r + (s - r) / gcI g h * wU g h * g - r = (s - r) / gcI g h * wU g h * g by omega]
  exact ⟨_, Int.mul_comm _ _⟩
theorem cmR_r {r g s h : Int} (hc : gcI g h ∣ s - r) : h ∣ cmR r g s h - s := by
  refine cm_sub ?_ cmG_r
  have e := w_lin g h
  obtain ⟨q, hq⟩ := hc
  by_cases h0 : gcI g h = 0
  · have : s = r := by rw [h0, Int.zero_mul] at hq; omega
    have z : h = 0 := by have := gcI_r g h; rw [h0] at this; exact Int.zero_dvd.mp this
    have z2 : g = 0 := by have := gcI_l g h; rw [h0] at this; exact Int.zero_dvd.mp this
    unfold cmF
    rw [z2, this, Int.mul_zero, Int.add_zero, Int.sub_self]
    exact Int.dvd_zero _
  · unfold cmF
    have e2 : (s - r) / gcI g h = q := by rw [hq, Int.mul_ediv_cancel_left _ h0]
    rw [e2]
    refine ⟨-(q * wV g h), ?_⟩
    have e3 : q * wU g h * g + q * (wV g h * h) = q * gcI g h := by rw [Int.mul_assoc, ← Int.mul_add, e]
    have e4 : h * -(q * wV g h) = -(q * (wV g h * h)) := by rw [Int.mul_neg, Int.mul_comm h, Int.mul_assoc]
    rw [e4]
    have e5 : s - r = q * gcI g h := by rw [hq, Int.mul_comm]
    omega
theorem cmR_lt {r g s h : Int} (hg : 0 < g) (hh : 0 < h) : 0 ≤ cmR r g s h ∧ cmR r g s h < cmG g h := by
  have := cmG_pos hg hh
  exact ⟨Int.emod_nonneg _ (by omega), Int.emod_lt_of_pos _ this⟩
/-- both ring at a moment just where the beat met rings -/
theorem cm_iff {r g s h m : Int} (hg : 0 < g) (hc : gcI g h ∣ s - r) : cmG g h ∣ m - cmR r g s h ↔ g ∣ m - r ∧ h ∣ m - s := by
  constructor
  · intro q
    have a := Int.dvd_add (Int.dvd_trans cmG_l q) (cmR_l (r := r) (g := g) (s := s) (h := h))
    have b := Int.dvd_add (Int.dvd_trans cmG_r q) (cmR_r hc)
    exact ⟨by rwa [show m - cmR r g s h + (cmR r g s h - r) = m - r by omega] at a, by rwa [show m - cmR r g s h + (cmR r g s h - s) = m - s by omega] at b⟩
  · rintro ⟨a, b⟩
    refine cmG_dvd hg ?_ ?_
    · have := Int.dvd_sub a (cmR_l (r := r) (g := g) (s := s) (h := h))
      rwa [show m - r - (cmR r g s h - r) = m - cmR r g s h by omega] at this
    · have := Int.dvd_sub b (cmR_r hc)
      rwa [show m - s - (cmR r g s h - s) = m - cmR r g s h by omega] at this
/-- where both ring the beats do not clash -/
theorem cm_no {r g s h m : Int} (h1 : g ∣ m - r) (h2 : h ∣ m - s) : gcI g h ∣ s - r := by
  have a := Int.dvd_sub (Int.dvd_trans (gcI_l g h) h1) (Int.dvd_trans (gcI_r g h) h2)
  rwa [show m - r - (m - s) = s - r by omega] at a
theorem mod0 {a b : Int} : a % b = 0 ↔ b ∣ a := Int.dvd_iff_emod_eq_zero.symm
/-- the number that keeps two beats apart, or none -/
def clD (r g s h : Int) : D := if (s - r) % gcI g h = 0 then .non else .int (gcI g h)
def metD (r g s h : Int) : D := if (s - r) % gcI g h = 0 then Bt (cmR r g s h) (cmG g h) else .non
theorem sm_cmG {n m : Nat} {g h : Int} (hg : 0 < g) (hh : 0 < h) (sg : Sm n g) (sh : Sm m h) : Sm (n + m) (cmG g h) := by
  have h1 := cmG_le hg hh
  have h2 := cmG_pos hg hh
  exact (sg.mul sh).le (by omega)
/-- the states after a statement, told at once -/
theorem st_join {K : PySem.W.Frag} {b : Bs} {ρ : Rho} {t u : TS} {N : DE} (P : Rho → Prop) (h : StD K b t { N with nx := P } ρ) (k : ∀ r, P r → StD K b u N r) : StD K b (tSeq t u) N ρ :=
  st_seq (st_mono h k (fun _ q => q) (fun _ q => q) (fun _ q => q))
theorem evf_nil {K : PySem.W.Frag} {b : Bs} {ρ : Rho} : EvF K b (tLst tNil) ρ [] := evf_lst eva_nil (by decide)
theorem atI_nat {α : Type} {xs : List α} {i : Nat} {d : α} (h : xs[i]? = some d) : atI xs (i : Int) = some d := by
  unfold atI
  have hj := (List.getElem?_eq_some_iff.mp h).1
  have e : ixN xs.length (i : Int) = some i := by
    unfold ixN
    rw [if_pos (by omega), if_pos (by omega)]
    rfl
  rw [e]
  exact h
theorem atI_last {α : Type} {xs : List α} {n : Nat} {d : α} (hl : xs.length = n + 1) (h : xs[n]? = some d) : atI xs (-1) = some d := by
  unfold atI ixN
  rw [if_neg (by decide), if_pos (by omega)]
  show xs[(-1 + (xs.length : Int)).toNat]? = some d
  rw [hl, show (-1 + ((n + 1 : Nat) : Int)).toNat = n by omega]
  exact h
theorem ud_neg {K : PySem.W.Frag} {i : Int} : UD K (rU fun i => .int (-i)) (.int i) (.int (-i)) := fun x Hv H Q l r q => ⟨i, r.int_inv, q _ Hv H (Gr.refl l) (.int _)⟩
section
variable {K : PySem.W.Frag} {b : Bs} {ρ : Rho} {te : TE} {tt : TT} {t : TS} {N : DE}
/-- for, over items told by something else -/
theorem st_forT {α : Type} {xs : List α} (a : α → D) {wi : TI} {g : TG} {js : List Nat} {f : D → Rho → Rho} (hw : SrcD K b wi ρ (xs.map a)) (hg : ∀ x ∈ xs, GtD K g (a x) js (f (a x))) (I : Nat → Rho → Prop) (h0 : I 0 ρ)
    (hs : ∀ (s : Hp) (i : Nat) (x : α) (ρ' : Rho), xs[i]? = some x → I i ρ' → StD K ⟨b.v, b.h, s⟩ t { N with nx := I (i + 1), ct := I (i + 1), bk := N.nx } (f (a x) ρ'))
    (hd : ∀ ρ', I xs.length ρ' → N.nx ρ') : StD K b (tFor wi g t) N ρ := by
  refine st_for hw (f := f) (js := js) (fun x hx => ?_) I h0 (fun s i x ρ' hx hI => ?_) (fun ρ' hI => hd ρ' (by rwa [List.length_map] at hI))
  · obtain ⟨y, hy, rfl⟩ := List.mem_map.mp hx
    exact hg y hy
  · rw [List.getElem?_map] at hx
    cases hy : xs[i]? with
    | none => rw [hy] at hx; cases hx
    | some y =>
      rw [hy] at hx
      cases hx
      exact hs s i y ρ' hy hI
open Classical in
/-- a comprehension over items told by something else -/
theorem evf_lcT {α : Type} {xs : List α} (a : α → D) (inj : ∀ x y, a x = a y → x = y) {wi : TI} {g : TG} {js vs : List Nat} {f : D → Rho → Rho} (p : α → Bool) (m : α → D) (hw : SrcD K b wi ρ (xs.map a)) (hg : ∀ x ∈ xs, GtD K g (a x) js (f (a x)))
    (hj : ∀ j ∈ js, j ∈ vs) (hz : xs.length ≤ 100000) (ht : ∀ x, x ∈ xs → EvB K b tt (f (a x) (wipeD ρ vs)) (p x)) (he : ∀ x, x ∈ xs → p x = true → EvD K b te (f (a x) (wipeD ρ vs)) (m x)) :
    EvF K b (tLc wi g tt te vs) ρ ((xs.filter p).map m) := by
  let p' : D → Bool := fun d => decide (∃ x, a x = d ∧ p x = true)
  let m' : D → D := fun d => if h : ∃ x, a x = d then m h.choose else .non
  have hp : ∀ x, p' (a x) = p x := fun x => by
    show decide (∃ y, a y = a x ∧ p y = true) = p x
    cases hx : p x with
    | true => exact decide_eq_true ⟨x, rfl, hx⟩
    | false =>
      refine decide_eq_false ?_
      rintro ⟨y, e, hy⟩
      rw [inj y x e, hx] at hy
      cases hy
  have hm : ∀ x, m' (a x) = m x := fun x => by
    have h : ∃ y, a y = a x := ⟨x, rfl⟩
    show (if h : ∃ y, a y = a x then m h.choose else .non) = m x
    rw [dif_pos h, inj _ _ h.choose_spec]
  have := evf_lc (K := K) (b := b) (ρ := ρ) (tt := tt) (te := te) (ds := xs.map a) p' m' hw (js := js) (f := f) (fun x hx => by
    obtain ⟨y, hy, rfl⟩ := List.mem_map.mp hx
    exact hg y hy) hj (by rwa [List.length_map]) (fun x hx => by
      obtain ⟨y, hy, rfl⟩ := List.mem_map.mp hx
      rw [hp]
      exact ht y hy) (fun x hx q => by
      obtain ⟨y, hy, rfl⟩ := List.mem_map.mp hx
      rw [hp] at q
      rw [hm]
      exact he y hy q)
  have e : ((xs.map a).filter p').map m' = (xs.filter p).map m := by
    rw [List.filter_map, List.map_map]
    have e1 : p' ∘ a = p := funext hp
    have e2 : m' ∘ a = m := funext hm
    rw [e1, e2]
  rw [e] at this
  exact this
theorem evf_lcT0 {α : Type} {xs : List α} (a : α → D) (inj : ∀ x y, a x = a y → x = y) {wi : TI} {g : TG} {js vs : List Nat} {f : D → Rho → Rho} (m : α → D) (hw : SrcD K b wi ρ (xs.map a)) (hg : ∀ x ∈ xs, GtD K g (a x) js (f (a x)))
    (hj : ∀ j ∈ js, j ∈ vs) (hz : xs.length ≤ 100000) (he : ∀ x, x ∈ xs → EvD K b te (f (a x) (wipeD ρ vs)) (m x)) :
    EvF K b (tLc wi g tYes te vs) ρ (xs.map m) := by
  have h := evf_lcT (K := K) (b := b) (ρ := ρ) (tt := tYes) (te := te) a inj (p := fun _ => true) m hw hg hj hz (fun x _ => evb_yes) (fun x hx _ => he x hx)
  rw [List.filter_eq_self.mpr (fun _ _ => rfl)] at h
  exact h
end
theorem inj_int : ∀ x y : Int, D.int x = D.int y → x = y := fun _ _ h => by cases h; rfl
theorem inj_nat : ∀ x y : Nat, D.int (x : Int) = D.int (y : Int) → x = y := fun x y h => by
  have : (x : Int) = (y : Int) := by injection h
  omega
theorem inj_bt (c : Int) : ∀ x y : Int, Bt x c = Bt y c → x = y := fun _ _ h => by cases h; rfl
def bD (x : Int × Int) : D := Bt x.1 x.2
theorem inj_bD : ∀ x y : Int × Int, bD x = bD y → x = y := fun ⟨a, c⟩ ⟨d, e⟩ h => by
  have h' : Bt a c = Bt d e := h
  cases h'
  rfl
theorem sm_div {n : Nat} {a b : Int} (h : Sm n a) : Sm n (a / b) := h.le (Int.natAbs_ediv_le_natAbs a b)
end Kn
namespace Kn
open PySem PySem.Spec L2

/-! ### lists of beats -/
abbrev Bs2 := List (Int × Int)
/-- a list of beats, as data -/
abbrev LB (bs : Bs2) : D := .lst (bs.map bD)
theorem lb_plain : ∀ bs : Bs2, plainAll (bs.map bD) = true
  | [] => rfl
  | b :: bs => by
    show ((bD b).plain && plainAll (bs.map bD)) = true
    rw [lb_plain bs] <;> rfl
theorem lb_lay : ∀ bs : Bs2, PyData.canLayAll0 (pyAll (bs.map bD)) = true
  | [] => by simp [pyAll, PyData.canLayAll0]
  | b :: bs => by
    show PyData.canLayAll0 ((bD b).py :: pyAll (bs.map bD)) = true
    rw [PyData.canLayAll0, lb_lay bs, Bool.and_true]
    simp [bD, D.py, pyAll, PyData.canLay0, PyData.canLayAll0]
theorem lb_depth : ∀ bs : Bs2, PyData.depthAll (pyAll (bs.map bD)) ≤ 1
  | [] => by simp [pyAll, PyData.depthAll]
  | b :: bs => by
    show PyData.depthAll ((bD b).py :: pyAll (bs.map bD)) ≤ 1
    rw [PyData.depthAll]
    refine Nat.max_le.mpr ⟨?_, lb_depth bs⟩
    simp [bD, D.py, pyAll, PyData.depth, PyData.depthAll]
theorem lb_ok (bs : Bs2) : okD (LB bs) = true := by
  show ((LB bs).plain && ((LB bs).py.canLay0 && decide ((LB bs).py.depth ≤ 64))) = true
  have h1 : (LB bs).plain = true := lb_plain bs
  have h2 : (LB bs).py.canLay0 = true := by
    show PyData.canLay0 (.list (pyAll (bs.map bD))) = true
    rw [PyData.canLay0]
    exact lb_lay bs
  have h3 : (LB bs).py.depth ≤ 64 := by
    show PyData.depth (.list (pyAll (bs.map bD))) ≤ 64
    rw [PyData.depth]
    have := lb_depth bs
    omega
  rw [h1, h2, decide_eq_true h3] <;> rfl
theorem lb_eqAll : ∀ bs : Bs2, PyData.eqvAll (pyAll (bs.map bD)) (pyAll (bs.map bD)) = true
  | [] => by simp [pyAll, PyData.eqvAll]
  | b :: bs => by
    show PyData.eqvAll ((bD b).py :: pyAll (bs.map bD)) ((bD b).py :: pyAll (bs.map bD)) = true
    rw [PyData.eqvAll, lb_eqAll bs, Bool.and_true]
    show ((b.1 == b.1) && ((b.2 == b.2) && true)) = true
    simp
theorem lb_eq (bs : Bs2) : PyData.eqv (LB bs).py (LB bs).py = true := by
  show PyData.eqv (.list (pyAll (bs.map bD))) (.list (pyAll (bs.map bD))) = true
  rw [PyData.eqv]
  exact lb_eqAll bs
theorem bt_eq (a c d e : Int) : PyData.eqv (Bt a c).py (Bt d e).py = (decide (a = d) && decide (c = e)) := by
  show ((a == d) && ((c == e) && true)) = _
  rw [Bool.and_true, Bool.beq_eq_decide_eq, Bool.beq_eq_decide_eq]
theorem lb_get {bs : Bs2} {i : Nat} {b : Int × Int} (h : bs[i]? = some b) : (bs.map bD)[i]? = some (Bt b.1 b.2) := by
  rw [List.getElem?_map, h] <;> rfl
theorem lb_at {bs : Bs2} {i : Nat} {b : Int × Int} (h : bs[i]? = some b) : atI (bs.map bD) (i : Int) = some (Bt b.1 b.2) := atI_nat (lb_get h)
theorem int_at {ns : List Int} {i : Nat} {c : Int} (h : ns[i]? = some c) : atI (ns.map D.int) (i : Int) = some (D.int c) := atI_nat (by rw [List.getElem?_map, h] <;> rfl)
/-- a part of the script -/
def cutI (ns : List Int) (i j : Nat) : List Int := (ns.drop (min i ns.length)).take (min j ns.length - min i ns.length)
theorem cutI_len (ns : List Int) (i j : Nat) : (cutI ns i j).length = min j ns.length - min i ns.length := by
  unfold cutI
  rw [List.length_take, List.length_drop]
  omega
theorem cutI_get {ns : List Int} {i j k : Nat} {x : Int} (h : (cutI ns i j)[k]? = some x) : k < min j ns.length - min i ns.length ∧ ns[i + k]? = some x := by
  have hk := (List.getElem?_eq_some_iff.mp h).1
  rw [cutI_len] at hk
  refine ⟨hk, ?_⟩
  unfold cutI at h
  rw [List.getElem?_take, if_pos hk, List.getElem?_drop, show min i ns.length = i by omega] at h
  exact h
end Kn
namespace Kn
open PySem PySem.Spec L2 PyProof.Rows

/-! ### a op b op c op d -/
def tChain3 (r r' r'' : R2) (ta tb tc td : TE) : TE := fun σ H Q => ta σ H fun x H1 => tb σ H1 fun y H2 => r x y H2 fun z H3 => ∃ k, z = .bl k ∧
  (if k = true then tc σ H3 fun w' H4 => r' y w' H4 fun z2 H5 => ∃ k2, z2 = .bl k2 ∧ (if k2 = true then td σ H5 fun u' H6 => r'' w' u' H6 Q else Q (.bl false) H5) else Q (.bl false) H3)
theorem pt_chain3 {X : Cx} {a b c d : Expr} {ta tb tc td : TE} {pos : Pos} {op op' op'' : CmpOp} {r r' r'' : R2} (ho : OpR X (compareOp op) r) (ho' : OpR X (compareOp op') r') (ho'' : OpR X (compareOp op'') r'') (ha : PE X a ta) (hb : PE X b tb) (hc : PE X c tc) (hd : PE X d td)
    (hm : lastMarks [op, op', op''] [b, c, d] = false := by with_unfolding_all rfl) : PT X (.Compare a [op, op', op''] [b, c, d] pos) (tTest (tChain3 r r' r'' ta tb tc td)) := by
  refine ⟨fun pins s σ H Q I h => ?_⟩
  refine isTrue_chain (thn (ha.run pins s σ H _ I h) fun v s1 ⟨x, H1, I1, r1, q1⟩ => test_link (thn (hb.run pins s1 σ H1 _ I1 q1) fun u s2 ⟨y, H2, I2, r2, q2⟩ =>
    thn (ho pins s2 σ H2 x y v u _ I2 r1 r2 q2) fun e s3 ⟨z, H3, I3, r3, k, ee, q3⟩ => ?_)) hm
  subst ee
  cases r3
  refine wpAny_truthy_bool ?_
  cases k with
  | false =>
    obtain ⟨k', e', q'⟩ := q3
    cases e'
    exact ite_ff ⟨H3, I3, q'⟩
  | true =>
    refine ite_tt (test_link (thn (hc.run pins s3 σ H3 _ I3 q3) fun w' s4 ⟨z', H4, I4, r4, q4⟩ => thn (ho' pins s4 σ H4 y z' u w' _ I4 r2 r4 q4) fun d' s5 ⟨z2, H5, I5, r5, k2, e2, q5⟩ => ?_))
    subst e2
    cases r5
    refine wpAny_truthy_bool ?_
    cases k2 with
    | false =>
      obtain ⟨k', e', q'⟩ := q5
      cases e'
      exact ite_ff ⟨H5, I5, q'⟩
    | true =>
      refine ite_tt (test_last (thn (hd.run pins s5 σ H5 _ I5 q5) fun u' s6 ⟨z3, H6, I6, r6, q6⟩ => thn (ho'' pins s6 σ H6 z' z3 w' u' _ I6 r4 r6 q6) fun d2 s7 ⟨z4, H7, I7, r7, k3, e3, q7⟩ => ?_))
      subst e3
      cases r7
      exact wpAny_truthy_bool ⟨H7, I7, q7⟩
section
variable {K : PySem.W.Frag} {b : Bs} {ρ : Rho} {ta tb tc td te : TE} {d e f g z : D}
theorem evd_chain3 {r r' r'' : R2} {c c' c'' : Bool} (ha : EvD K b ta ρ d) (hb : EvD K b tb ρ e) (hr : RD K r d e (.bl c)) (hc : c = true → EvD K b tc ρ f) (hr' : c = true → RD K r' e f (.bl c')) (hd : c = true → c' = true → EvD K b td ρ g) (hr'' : c = true → c' = true → RD K r'' f g (.bl c'')) :
    EvD K b (tChain3 r r' r'' ta tb tc td) ρ (.bl (c && (c' && c''))) := fun σ Hv H Q A q =>
  ha σ Hv H _ A fun x Hv1 H1 g1 r1 => hb σ Hv1 H1 _ (A.grow g1) fun y Hv2 H2 g2 r2 =>
    hr x y Hv2 H2 _ g2.sub (r1.mono g2.vis) r2 fun v Hv3 H3 g3 r3 => ⟨c, r3.bl_inv, by
      cases c with
      | true =>
        show tc σ H3 _
        refine hc rfl σ Hv3 H3 _ (A.grow ((g1.trans g2).trans g3)) fun w Hv4 H4 g4 r4 => hr' rfl y w Hv4 H4 _ g4.sub (r2.mono (Le.trans g3.vis g4.vis)) r4 fun v5 Hv5 H5 g5 r5 => ⟨c', r5.bl_inv, ?_⟩
        cases c' with
        | true =>
          show td σ H5 _
          exact hd rfl rfl σ Hv5 H5 _ (A.grow ((((g1.trans g2).trans g3).trans g4).trans g5)) fun u Hv6 H6 g6 r6 => hr'' rfl rfl w u Hv6 H6 Q g6.sub (r4.mono (Le.trans g5.vis g6.vis)) r6 fun v7 Hv7 H7 g7 r7 => q v7 Hv7 H7 ((((((g1.trans g2).trans g3).trans g4).trans g5).trans g6).trans g7) r7
        | false =>
          show Q (.bl false) H5
          exact q _ Hv5 H5 ((((g1.trans g2).trans g3).trans g4).trans g5) (.bl false)
      | false =>
        show Q (.bl false) H3
        exact q _ Hv3 H3 ((g1.trans g2).trans g3) (.bl false)⟩
/-- a number told with a look at a hidden list -/
theorem evd_peek {i : Nat} {ds : List D} {n : Int} (h : ρ[i]? = some (some (.own ds))) (k : ∀ b', EvD K b' te (ρ.set i (some (.dat (.lst ds)))) (.int n)) : EvD K b te ρ (.int n) := fun σ Hv H Q A q => by
  obtain ⟨p, xs, e, h1, h2, h3, r⟩ := A.own i ds h
  have hs : σ.set i (some (.ref p)) = σ := by
    apply List.ext_getElem?
    intro j
    by_cases hj : i = j
    · subst hj
      rw [List.getElem?_set_self (List.getElem?_eq_some_iff.mp e).1, e]
    · rw [List.getElem?_set_ne hj]
  have g : Gr b.v b.h (upd Hv p (.lst xs)) H := A.gr.show' h2 h1 h3
  have A1 : At K b (σ.set i none) Hv H (ρ.set i none) := A.forget
  have A2 : At K b (σ.set i none) (upd Hv p (.lst xs)) H (ρ.set i none) := by
    refine ⟨g, Le.trans A.sc (Le.new h1), A1.len, fun j e hj => ?_, fun j es hj => ?_, A1.dis⟩
    · obtain ⟨v, e1, r1⟩ := A1.dat j e hj
      exact ⟨v, e1, r1.mono (Le.new h1)⟩
    · obtain ⟨q, ys, e1, q1, q2, q3, q4⟩ := A1.own j es hj
      have hji : i ≠ j := by
        rintro rfl
        have hl : i < ρ.length := (List.getElem?_eq_some_iff.mp h).1
        rw [List.getElem?_set_self hl] at hj
        cases hj
      have hqp : q ≠ p := by
        rintro rfl
        rw [List.getElem?_set_ne hji] at hj e1
        exact A.dis i j q ds es hji h hj e e1
      refine ⟨q, ys, e1, ?_, q2, q3, q4.mono (Le.new h1)⟩
      rw [upd_ne hqp]
      exact q1
  have A3 := A2.setDat (i := i) (v := .ref p) (d := .lst ds) (.lst upd_same (r.mono (Le.new h1)))
  rw [List.set_set, List.set_set, hs] at A3
  refine k b σ _ H _ A3 fun v Hv' H' g' r' => ?_
  have ev := r'.int_inv
  subst ev
  exact q _ Hv H' ⟨g'.big, Le.refl _, Le.trans (Le.trans (Le.new h1) g'.vis) g'.sub, fun _ _ => rfl⟩ (.int n)
end
/-- two lists walked together -/
def zpD (p : Int × (Int × Int)) : D := .tup [.int p.1, bD p.2]
theorem inj_zpD : ∀ x y, zpD x = zpD y → x = y := fun ⟨a, c⟩ ⟨d, e⟩ h => by
  have h' : D.tup [.int a, bD c] = D.tup [.int d, bD e] := h
  injection h' with h1
  injection h1 with h2 h3
  injection h2 with h4
  injection h3 with h5
  rw [h4, inj_bD _ _ h5]
theorem zpD_map : ∀ (P : List Int) (bs : Bs2), zipD (P.map D.int) (bs.map bD) = (P.zip bs).map zpD
  | [], _ => by simp [zipD]
  | _ :: _, [] => by simp [zipD]
  | p :: P, b :: bs => by
    show D.tup [.int p, bD b] :: zipD (P.map D.int) (bs.map bD) = _
    rw [zpD_map P bs] <;> rfl
theorem enD_map (bs : Bs2) : enumD (bs.map bD) = ((List.range bs.length).map fun i => (((i : Nat) : Int), (bs[i]?).getD (0, 1))).map zpD := by
  unfold enumD
  rw [List.length_map, List.map_map]
  refine List.map_congr_left fun i hi => ?_
  have hi' := List.mem_range.mp hi
  show D.tup [.int (i : Nat), ((bs.map bD)[i]?).getD .non] = D.tup [.int (i : Nat), bD ((bs[i]?).getD (0, 1))]
  rw [List.getElem?_map, List.getElem?_eq_getElem hi'] <;> rfl
end Kn
namespace Kn
open PySem PySem.Spec L2 PyProof.Rows L2H

/-! ### a def that is handed a caught error, within the suite -/
/-- isinstance where the error stands among what the context knows -/
theorem call_isP {X : Cx} {a : Addr} {oe : Obj} {cls : Value} {d : Option Addr} (hm : (a, oe) ∈ X.pn) (hz : Zc cls d oe) (hf : ∃ vs, oe.data = .fields vs) : CallR X (.builtin "isinstance") (rIsX X.K a cls d) := by
  intro pins s σ H xs us Q I r h
  obtain ⟨D, c, cv, b, rfl, rfl, C, rfl, e2, e3, q⟩ := h
  cases r with
  | cons r1 rr =>
    cases rr with
    | cons r2 rr =>
      cases rr
      cases r1
      have e := e2 _ r2
      subst e
      have g := (I.pin (a, oe) (List.mem_append_left _ hm)).1
      obtain ⟨vs, hv⟩ := hf
      have J : PySem.W.InstAt s.heap a oe D none := by
        obtain ⟨o1, o2, o3, o4⟩ := oe
        obtain ⟨z1, z2⟩ := hz
        dsimp only at z1 z2 hv
        subst z1 z2 hv
        exact ⟨g, rfl, rfl, trivial⟩
      exact PySem.W.kia_one (PySem.W.handS_kitx_exc C.hg C.hk C.hs C.hd C.ha C.hn C.ht C.hm) I.kIn J e3 (fun z => nomatch z) fun tk => ⟨.bl b, H, I.kept (t' := tk) fun _ _ z => z, rfl, q⟩
/-- what a def promises where p stands out of its reach -/
structure FnP (P : Program) (w : World) (K : PySem.W.Frag) (mg : Str → Option Value) (base : Heap) (k : Nat) (f : Addr) (fd : FuncData) (ps : List Str) (p : Addr × Obj) (sp : Sp) : Prop where
  len : ∀ vs H Q E, sp vs H Q E → vs.length = ps.length
  run : ∀ (A : Around) (outer : List Env) (s : Shared) (H : Hp) (args : Args) (us : List Value) (vs : List V) (Q : VK) (E : XK), RoomH k A → PinOk outer H s p → Env0 P w K mg base A outer s H → BindsTo s fd args (ps.zip us) → Vals vs us → sp vs H Q E →
    codeAny (model P w) A (.call (.ref f) args) (CR (L2.CX P w) outer P w H s Q E) s
theorem fnP_of {P : Program} {w : World} {K : PySem.W.Frag} {mg : Str → Option Value} {base : Heap} {x qual : Str} {params : Arguments} {body : List Stmt} {scope : Scope} {f : Addr} {fd : FuncData} {N ps : List Str} {k : Nat} {p : Addr × Obj} {sp : Sp}
    (F : FunD K x qual params body scope [] [] f fd) (S : FnScope N ps scope) (len : ∀ vs H Q E, sp vs H Q E → vs.length = ps.length)
    (hb0 : ∀ (cdv : Value) (A : Around) (outer : List Env) (s : Shared) (H : Hp) (vs : List V) (Q : VK) (E : XK), RoomH k (A.deeper (envOfC qual scope s.heap.objs.size f cdv)) → sp vs H Q E →
      ∃ t, PSs (cxH (L2.CX P w) P w K mg base N qual scope f cdv A outer s H E p) body t ∧ t { nx := fun _ H' => Q .non H', rt := Q } (L2.start N vs) H) : FnP P w K mg base (k + 1) f fd ps p sp := by
  obtain ⟨oc, od, dV, kV, doc, pm, an, cdv, ct, osl, rfl, lk, hcd, _, _⟩ := F.ex
  refine ⟨len, fun A outer s H args us vs Q E hr hpin e0 hb r hsp => ?_⟩
  have KX : K.In s.heap := e0.mod.kin.keeps fun b o e => (e0.bs b o e).1
  have lim : s.heap.NoLimit := e0.mod.nolimit.keeps fun b o e => (e0.bs b o e).1
  refine codeAny_call_function hr.depth (KX _ _ lk) rfl S.co S.gen rfl (PySem.W.codeRec_of KX hcd) (hb _ _ _ _ (wpAny_newFunctionEnv_cells S.kind (fun ⟨n, v⟩ hy => ?_) fun env he s1 x => ?_))
  · rcases S.par n (List.of_mem_zip hy).1 with q | q
    · exact .inl q
    · exact .inr ⟨q, PySem.W.cellsFrom_some _ _ _ (.inl q)⟩
  subst he
  refine ⟨lim.keeps x.toInCall.keep, codeAny_func ?_⟩
  obtain ⟨t, ht, hq⟩ := hb0 cdv A outer s H vs Q E (hr.deeper _) hsp
  have I := inv_startH (CX := L2.CX P w) (w := w) (P := P) (E := E) (cd := cdv) S hpin e0 (len _ _ _ _ hsp) r x
  refine wpAny_mono (ht.run [] s1 (L2.start N vs) H _ I hq) (fun fl s' hs => ?_) fun e s' hs => hs
  match fl, hs with
  | .ret u, ⟨v, σ', H', J, rv, q⟩ => exact ⟨v, H', J.os, J.bare, J.base, J.hok, rv, q⟩
  | .next, ⟨σ', H', J, q⟩ => exact ⟨V.non, H', J.os, J.bare, J.base, J.hok, rfl, q⟩
  | .brk, ⟨_, _, _, q⟩ => exact False.elim q
  | .cont, ⟨_, _, _, q⟩ => exact False.elim q
/-- the def at the module's name x, for each error -/
structure CalP (P : Program) (w : World) (K : PySem.W.Frag) (mg : Str → Option Value) (base : Heap) (k : Nat) (x : Str) (ps : List Str) (sp : Addr → Value → Option Addr → Sp) : Prop where
  ex : ∃ (f : Addr) (fd : FuncData), mg x = some (.ref f) ∧ PySem.W.keepIn K (.ref f) = true ∧ Binds K fd ps [] ∧ ∀ (a : Addr) (oe : Obj) (cls : Value) (d : Option Addr), Zc cls d oe → (∃ vs, oe.data = .fields vs) → FnP P w K mg base k f fd ps (a, oe) (sp a cls d)
theorem pe_callP {X : Cx} {k : Nat} {a : Addr} {oe : Obj} {cls : Value} {d : Option Addr} {pn : List (Addr × Obj)} {x : Str} {ps : List Str} {sp : Addr → Value → Option Addr → Sp} {p pos : Pos} {e : Expr} {es : List Expr} {t : TA} {t' : TE}
    (C : CalP X.prog X.w X.K X.mg X.base k x ps sp) (hr : Room k X.A) (hg : Gl (X.suite a ((a, oe) :: pn)) x) (hz : Zc cls d oe) (hf : ∃ vs, oe.data = .fields vs) (ha : PA (X.suite a ((a, oe) :: pn)) (e :: es) t) (hdb : (x == ("__debug__" : Str)) = false := by decide)
    (he : starEach (e :: es) X.env = (false, eval e X.env) :: starEach es X.env := by rfl) (hpl : (backTo pos (starEach es X.env)).any (·.1) = false := by rfl) (ht : t' = tCall (sp a cls d) [] E0 t := by rfl) : PE (X.suite a ((a, oe) :: pn)) (.Call (.Name x p) (e :: es) [] pos) t' := by
  subst ht
  obtain ⟨f, fd, hm, hk, hb, FF⟩ := C.ex
  have F := FF a oe cls d hz hf
  refine ⟨fun pins s σ H Q I h => ?_⟩
  refine wpAny_Call_Name_kw (ld_glob I hg hm ?_ hdb)
  refine PySem.W.callWith_K (h₀ := X.base) I.ok.mod.kin hk (thn (ha.run pos pins s σ H _ I h) fun us s1 ⟨vs, H1, I1, r, q⟩ => ⟨I1.kIn, ?_⟩) he hpl
  have q0 : sp a cls d (vs ++ []) H1 Q E0 := q
  have q' : sp a cls d vs H1 Q E0 := by rw [List.append_nil] at q0; exact q0
  have hl : us.length = ps.length := by rw [← r.length]; exact F.len _ _ _ _ q'
  have b := hb s1 us I1.kIn (by rw [List.append_nil]; exact hl)
  rw [List.append_nil] at b
  have P1 := I1.pin (a, oe) (List.mem_append_left _ List.mem_cons_self)
  have hpin : PinOk X.stack H1 s1 (a, oe) := ⟨P1.1, P1.2.1, fun hm => (List.mem_cons.mp (I1.stkSub a hm)).elim P1.2.2.1 P1.2.2.2.1, P1.2.2.2.2⟩
  refine wpAny_call (codeAny_mono (F.run (X.suite a ((a, oe) :: pn)).A X.stack s1 H1 ⟨us, []⟩ us vs Q E0 ⟨hr.dp, hr.un⟩ hpin I1.env0 b r q') fun r s' hq => ?_)
  match r, hq with
  | .error e, hq => exact passL pins σ H1 s1 e s' I1 hq
  | .ok (.ret u), hq => exact I1.after hq
  | .ok .next, hq => exact False.elim hq
  | .ok .brk, hq => exact False.elim hq
  | .ok .cont, hq => exact False.elim hq

/-! ### in, index: whole numbers and None -/
def oD : Option Int → D
  | some i => .int i
  | none => .non
def oV : Option Int → V
  | some i => .int i
  | none => .non
theorem inj_oD : ∀ x y, oD x = oD y → x = y
  | some _, some _, h => by cases h; rfl
  | none, none, _ => rfl
  | some _, none, h => by cases h
  | none, some _, h => by cases h
theorem o_inv {K : PySem.W.Frag} {H : Hp} {v : V} : ∀ {o : Option Int}, Rep K H v (oD o) → v = oV o
  | some _, r => r.int_inv
  | none, r => by cases r; rfl
theorem os_inv {K : PySem.W.Frag} {H : Hp} : ∀ {os : List (Option Int)} {xs : List V}, RepAll K H xs (os.map oD) → xs = os.map oV
  | [], _, r => by cases r; rfl
  | o :: os, _, r => by
    cases r with
    | cons r1 rr =>
      rw [o_inv r1, os_inv rr] <;> rfl
theorem os_flat (os : List (Option Int)) : (os.map oV).all flatV = true := by
  rw [List.all_map, List.all_eq_true]
  intro o _
  cases o <;> rfl
theorem rd_inN {K : PySem.W.Frag} {os : List (Option Int)} : RD K (rIn K false) .non (.lst (os.map oD)) (.bl (decide (none ∈ os))) := fun x y Hv H Q l r1 r2 q => by
  cases r1
  obtain ⟨a, xs, rfl, hs, r⟩ := r2.list rfl
  have e := os_inv r
  subst e
  refine ⟨a, os.map oV, rfl, .inl (Le.l l hs), rfl, os_flat os, ?_⟩
  have e : (if false = true then !inV .non (os.map oV) else inV .non (os.map oV)) = decide (none ∈ os) := by
    rw [if_neg Bool.false_ne_true]
    unfold inV
    rw [Bool.eq_iff_iff, List.any_map, List.any_eq_true, decide_eq_true_iff]
    constructor
    · rintro ⟨o, ho, h⟩
      cases o with
      | none => exact ho
      | some i => cases h
    · intro h
      exact ⟨none, h, rfl⟩
  rw [e]
  exact q _ Hv H (Gr.refl l) (.bl _)
theorem evd_indexN {K : PySem.W.Frag} {b : Bs} {ρ : Rho} {te : TE} {os : List (Option Int)} {j : Nat} (h : EvD K b te ρ (.lst (os.map oD))) (hj : os[j]? = some none) (hn : ∀ m, m < j → os[m]? ≠ some none) : EvD K b (tBM K "list" (rIndex K) te (tCons (tC .non) tNil)) ρ (.int (j : Nat)) := fun σ Hv H Q A q =>
  h σ Hv H _ A fun v Hv1 H1 g r => by
    obtain ⟨a, xs, rfl, hs, rr⟩ := r.list rfl
    have e := os_inv rr
    subst e
    refine ⟨.inl ⟨rfl, os.map oV, Le.l g.sub hs⟩, ?_⟩
    refine ⟨a, os.map oV, .non, j, .non, rfl, rfl, Le.l g.sub hs, rfl, os_flat os, by rw [List.getElem?_map, hj] <;> rfl, rfl, fun m z hm hz => ?_, q _ Hv1 H1 g (.int _)⟩
    rw [List.getElem?_map] at hz
    cases ho : os[m]? with
    | none => rw [ho] at hz; cases hz
    | some o =>
      rw [ho] at hz
      cases hz
      cases o with
      | none => exact absurd ho (hn m hm)
      | some i => rfl
end Kn
namespace Kn
open PySem PySem.Spec L2
local macro_rules | `(tactic| wtm_at "side") => `(tactic| first | (show (_ : Prop); first | assumption | omega | decide | rfl | ((with_reducible show IntMulOk _ _); first | exact mul_s (by omega) | (refine mul_s (.inl ?_); decide) | (refine mul_s (.inr ?_); decide))) | skip)
local macro_rules | `(tactic| wtm_at "call") => `(tactic| (show (_ : Prop); assumption))
local macro_rules | `(tactic| wtm_at "rd") => `(tactic| first
  | ((with_reducible show RD _ (rIx _) _ _ _); exact rd_ix rfl rfl)
  | with_reducible exact rd_add | with_reducible exact rd_sub | with_reducible exact rd_lt | with_reducible exact rd_le | with_reducible exact rd_gt | with_reducible exact rd_ge
  | with_reducible exact rd_eqI | with_reducible exact rd_neI | with_reducible exact rd_eqS | with_reducible exact rd_neS | with_reducible exact rd_eqB | with_reducible exact rd_neB
  | with_reducible refine' rd_mod ?_ | with_reducible refine' rd_divP ?_ ?_ | with_reducible refine' rd_mul ?_ | ((with_reducible refine' rd_pow ?_); exact ⟨by decide, by decide, by decide⟩)
  | with_reducible refine' rd_ix rfl ?_ | with_reducible refine' rd_addL ?_ | with_reducible refine' rd_addS ?_)
local macro_rules | `(tactic| wtm_at "cd") => `(tactic| first
  | with_reducible refine' cd_len rfl | with_reducible refine' cd_isi rfl (by decide +kernel) | with_reducible exact cd_min2 | with_reducible exact cd_max2 | with_reducible exact cd_abs | with_reducible exact cd_intB | with_reducible refine' cd_sum rfl | with_reducible refine' cd_lenS ?_)
local macro_rules | `(tactic| wtm_at "ev1") => `(tactic| first
  | with_reducible exact evd_int | with_reducible exact evd_bl | with_reducible exact evd_str | with_reducible exact evd_non | with_reducible exact evd_obj
  | with_reducible exact evd_var rfl | exact evd_var rfl
  | with_reducible exact eva_nil | with_reducible apply eva_cons
  | with_reducible apply evd_op
  | with_reducible apply evd_un
  | with_reducible refine' evd_tup ?_ (by simp only [List.length_cons, List.length_nil]; decide) | with_reducible refine' evd_lst ?_ (by simp only [List.length_cons, List.length_nil]; decide)
  | with_reducible exact evd_lenOwn rfl
  | with_reducible apply evd_cb | with_reducible apply evd_call
  | with_reducible apply evb_test | with_reducible apply evb_B | with_reducible apply evb_not
  | with_reducible refine' evb_and ?_ fun _ => ?_ | with_reducible refine' evb_or ?_ fun _ => ?_
  | with_reducible refine' evd_andV ?_ fun _ => ?_ | with_reducible refine' evd_orV ?_ fun _ => ?_ | with_reducible apply evd_notV
  | with_reducible refine' evd_isN ?_ (rep_non rfl) | with_reducible refine' evd_notN ?_ (rep_non rfl)
  | wtm_at "rd" | wtm_at "cd" | wtm_at "call")
local macro_rules | `(tactic| wtm_at "ev") => `(tactic| focus ((repeat' (wtm_at "ev1")) <;> wtm_at "side"))
local macro_rules | `(tactic| wtm_at "set") => `(tactic| (refine' st_seq (st_set ?_ ?_); focus (wtm_at "ev")))
local macro_rules | `(tactic| wtm_at "par") => `(tactic| (refine' st_seq (st_par ?_ ?_); focus (wtm_at "ev")))
local macro_rules | `(tactic| wtm_at "ret") => `(tactic| (refine' st_ret ?_ ?_; focus (wtm_at "ev")))
local macro_rules | `(tactic| wtm_at "if") => `(tactic| (refine' st_seq (st_if ?_ ?_ ?_); focus (wtm_at "ev")))
local macro_rules | `(tactic| wtm_at "if1") => `(tactic| (refine' st_if ?_ ?_ ?_; focus (wtm_at "ev")))

/-! printed by gen.py from law_k09_whole_roll -/
def top (i : Nat) : Stmt := PySem.Challenge.pw_knell_k09_whole_roll.main.body.getD i (.Pass ⟨0, 0, 0, 0⟩)
/-! rings: 0 one, 1 moment -/
abbrev s_rings : Stmt := top 9
theorem sc_rings : FnScope ["one", "moment"] ["one", "moment"] (defScope s_rings) := ⟨rfl, rfl, rfl, by decide +kernel, rfl, by decide +kernel, by decide +kernel⟩
def d_rings : He.DefD := ⟨("rings", none), "rings", "rings", defArgs s_rings, defBody s_rings, defScope s_rings, [], []⟩
/-! weights: 0 one, 1 other, 2 here, 3 u, 4 v, 5 there, 6 other_u, 7 other_v, 8 by -/
abbrev s_weights : Stmt := top 11
theorem sc_weights : FnScope ["one", "other", "here", "u", "v", "there", "other_u", "other_v", "by"] ["one", "other"] (defScope s_weights) := ⟨rfl, rfl, rfl, by decide +kernel, rfl, by decide +kernel, by decide +kernel⟩
def d_weights : He.DefD := ⟨("weights", none), "weights", "weights", defArgs s_weights, defBody s_weights, defScope s_weights, [], []⟩
/-! common_gap: 0 beats, 1 gap, 2 one -/
abbrev s_common_gap : Stmt := top 13
theorem sc_common_gap : FnScope ["beats", "gap", "one"] ["beats"] (defScope s_common_gap) := ⟨rfl, rfl, rfl, by decide +kernel, rfl, by decide +kernel, by decide +kernel⟩
def d_common_gap : He.DefD := ⟨("common_gap", none), "common_gap", "common_gap", defArgs s_common_gap, defBody s_common_gap, defScope s_common_gap, [], []⟩
/-! first_of: 0 beats, 1 moment, 2 number, 3 one -/
abbrev s_first_of : Stmt := top 16
theorem sc_first_of : FnScope ["beats", "moment", "number", "one"] ["beats", "moment"] (defScope s_first_of) := ⟨rfl, rfl, rfl, by decide +kernel, rfl, by decide +kernel, by decide +kernel⟩
def d_first_of : He.DefD := ⟨("first_of", none), "first_of", "first_of", defArgs s_first_of, defBody s_first_of, defScope s_first_of, [], []⟩
/-! roll: 0 beats', 1 gap, 2 moment -/
abbrev s_roll : Stmt := top 17
theorem sc_roll : FnScope ["beats", "gap", "moment"] ["beats"] (defScope s_roll) := ⟨rfl, rfl, rfl, by decide +kernel, rfl, by decide +kernel, by decide +kernel⟩
def d_roll : He.DefD := ⟨("roll", none), "roll", "roll", defArgs s_roll, defBody s_roll, defScope s_roll, [], []⟩
/-! silent: 0 beats, 1 moment, 2 number -/
abbrev s_silent : Stmt := top 18
theorem sc_silent : FnScope ["beats", "moment", "number"] ["beats"] (defScope s_silent) := ⟨rfl, rfl, rfl, by decide +kernel, rfl, by decide +kernel, by decide +kernel⟩
def d_silent : He.DefD := ⟨("silent", none), "silent", "silent", defArgs s_silent, defBody s_silent, defScope s_silent, [], []⟩
/-! _law_cell_at: 0 _law_script, 1 _law_k -/
abbrev s_l_cell_at : Stmt := top 20
theorem sc_l_cell_at : FnScope ["_law_script", "_law_k"] ["_law_script", "_law_k"] (defScope s_l_cell_at) := ⟨rfl, rfl, rfl, by decide +kernel, rfl, by decide +kernel, by decide +kernel⟩
def d_l_cell_at : He.DefD := ⟨("_law_cell_at", none), "_law_cell_at", "_law_cell_at", defArgs s_l_cell_at, defBody s_l_cell_at, defScope s_l_cell_at, [], []⟩
/-! _law_whole: 0 _law_found -/
abbrev s_l_whole : Stmt := top 21
theorem sc_l_whole : FnScope ["_law_found"] ["_law_found"] (defScope s_l_whole) := ⟨rfl, rfl, rfl, by decide +kernel, rfl, by decide +kernel, by decide +kernel⟩
def d_l_whole : He.DefD := ⟨("_law_whole", none), "_law_whole", "_law_whole", defArgs s_l_whole, defBody s_l_whole, defScope s_l_whole, [], []⟩
/-! _law_divisor: 0 _law_one, 1 _law_other -/
abbrev s_l_divisor : Stmt := top 22
theorem sc_l_divisor : FnScope ["_law_one", "_law_other"] ["_law_one", "_law_other"] (defScope s_l_divisor) := ⟨rfl, rfl, rfl, by decide +kernel, rfl, by decide +kernel, by decide +kernel⟩
def d_l_divisor : He.DefD := ⟨("_law_divisor", none), "_law_divisor", "_law_divisor", defArgs s_l_divisor, defBody s_l_divisor, defScope s_l_divisor, [], []⟩
/-! _law_round: 0 _law_cell, 1 _law_number -/
abbrev s_l_round : Stmt := top 23
theorem sc_l_round : FnScope ["_law_cell", "_law_number"] ["_law_cell"] (defScope s_l_round) := ⟨rfl, rfl, rfl, by decide +kernel, rfl, by decide +kernel, by decide +kernel⟩
def d_l_round : He.DefD := ⟨("_law_round", none), "_law_round", "_law_round", defArgs s_l_round, defBody s_l_round, defScope s_l_round, [], []⟩
/-! _law_beats: 0 _law_script, 1 _law_whole_here, 2 _law_cells, 3 _law_beats_here, 4 _law_cell, 5 _law_gap -/
abbrev s_l_beats : Stmt := top 24
theorem sc_l_beats : FnScope ["_law_script", "_law_whole_here", "_law_cells", "_law_beats_here", "_law_cell", "_law_gap"] ["_law_script"] (defScope s_l_beats) := ⟨rfl, rfl, rfl, by decide +kernel, rfl, by decide +kernel, by decide +kernel⟩
def d_l_beats : He.DefD := ⟨("_law_beats", none), "_law_beats", "_law_beats", defArgs s_l_beats, defBody s_l_beats, defScope s_l_beats, [], []⟩
/-! _law_common: 0 _law_beats_here, 1 _law_common_here, 2 _law_one -/
abbrev s_l_common : Stmt := top 25
theorem sc_l_common : FnScope ["_law_beats_here", "_law_common_here", "_law_one"] ["_law_beats_here"] (defScope s_l_common) := ⟨rfl, rfl, rfl, by decide +kernel, rfl, by decide +kernel, by decide +kernel⟩
def d_l_common : He.DefD := ⟨("_law_common", none), "_law_common", "_law_common", defArgs s_l_common, defBody s_l_common, defScope s_l_common, [], []⟩
/-! _law_first: 0 _law_beats_here, 1 _law_moment, 2 _law_k -/
abbrev s_l_first : Stmt := top 26
theorem sc_l_first : FnScope ["_law_beats_here", "_law_moment", "_law_k"] ["_law_beats_here", "_law_moment"] (defScope s_l_first) := ⟨rfl, rfl, rfl, by decide +kernel, rfl, by decide +kernel, by decide +kernel⟩
def d_l_first : He.DefD := ⟨("_law_first", none), "_law_first", "_law_first", defArgs s_l_first, defBody s_l_first, defScope s_l_first, [], []⟩
/-! _law_same: 0 _law_found, 1 _law_due -/
abbrev s_l_same : Stmt := top 27
theorem sc_l_same : FnScope ["_law_found", "_law_due"] ["_law_found", "_law_due"] (defScope s_l_same) := ⟨rfl, rfl, rfl, by decide +kernel, rfl, by decide +kernel, by decide +kernel⟩
def d_l_same : He.DefD := ⟨("_law_same", none), "_law_same", "_law_same", defArgs s_l_same, defBody s_l_same, defScope s_l_same, [], []⟩
/-! _law_kinds: 0 _law_e, 1 _law_kinds_here -/
abbrev s_l_kinds : Stmt := top 28
theorem sc_l_kinds : FnScope ["_law_e", "_law_kinds_here"] ["_law_e"] (defScope s_l_kinds) := ⟨rfl, rfl, rfl, by decide +kernel, rfl, by decide +kernel, by decide +kernel⟩
def d_l_kinds : He.DefD := ⟨("_law_kinds", none), "_law_kinds", "_law_kinds", defArgs s_l_kinds, defBody s_l_kinds, defScope s_l_kinds, [], []⟩
/-! _law_refused: 0 _law_beats_here, 1 _law_rolled_here, 2 _law_quiet, 3 _law_handed, 4 _law_e, 5 _law_due -/
abbrev s_l_refused : Stmt := top 29
theorem sc_l_refused : FnScope ["_law_beats_here", "_law_rolled_here", "_law_quiet", "_law_handed", "_law_e", "_law_due"] ["_law_beats_here"] (defScope s_l_refused) := ⟨rfl, rfl, rfl, by decide +kernel, rfl, by decide +kernel, by decide +kernel⟩
def d_l_refused : He.DefD := ⟨("_law_refused", none), "_law_refused", "_law_refused", defArgs s_l_refused, defBody s_l_refused, defScope s_l_refused, [], []⟩
/-! _law_rolled: 0 _law_found, 1 _law_due, 2 _law_k -/
abbrev s_l_rolled : Stmt := top 30
theorem sc_l_rolled : FnScope ["_law_found", "_law_due", "_law_k"] ["_law_found", "_law_due"] (defScope s_l_rolled) := ⟨rfl, rfl, rfl, by decide +kernel, rfl, by decide +kernel, by decide +kernel⟩
def d_l_rolled : He.DefD := ⟨("_law_rolled", none), "_law_rolled", "_law_rolled", defArgs s_l_rolled, defBody s_l_rolled, defScope s_l_rolled, [], []⟩
/-! law: 0 _law_script, 1 _law_beats_here', 2 _law_common_here, 3 _law_handed, 4 _law_due, 5 _law_quiet, 6 _law_moment -/
abbrev s_law : Stmt := top 31
theorem sc_law : FnScope ["_law_script", "_law_beats_here", "_law_common_here", "_law_handed", "_law_due", "_law_quiet", "_law_moment"] ["_law_script"] (defScope s_law) := ⟨rfl, rfl, rfl, by decide +kernel, rfl, by decide +kernel, by decide +kernel⟩
def d_law : He.DefD := ⟨("law", none), "law", "law", defArgs s_law, defBody s_law, defScope s_law, [], []⟩
def fn : List He.DefD := [d_rings, d_weights, d_common_gap, d_first_of, d_roll, d_silent, d_l_cell_at, d_l_whole, d_l_divisor, d_l_round, d_l_beats, d_l_common, d_l_first, d_l_same, d_l_kinds, d_l_refused, d_l_rolled, d_law]
def fa : List He.Fa := [.glo "rings", .glo "weights", .glo "common_gap", .glo "first_of", .glo "roll", .glo "silent", .glo "_law_cell_at", .glo "_law_whole", .glo "_law_divisor", .glo "_law_round", .glo "_law_beats", .glo "_law_common", .glo "_law_first", .glo "_law_same", .glo "_law_kinds", .glo "_law_refused", .glo "_law_rolled", .glo "law", .free "enumerate", .free "range", .int "MOST_MOMENTS" 1000, .glo "TooMany", .exc "TooMany", .free "len", .free "bool", .free "int", .free "isinstance", .free "ValueError", .glo "Clash", .glo "NoBeat", .glo "NoBell", .glo "NoName", .glo "Twice", .free "list", .glo "KnellError"]
def exs : List Str := ["TooMany"]
def eys : List Str := ["Clash", "NoBeat", "NoBell", "NoName", "TooMany", "Twice"]
def exK : PySem.W.Frag → Bool := exB exs eys

theorem cut_ints (ns : List Int) (i j : Nat) : cutD (ns.map D.int) (some (i : Int)) (some (j : Int)) = ((ns.drop (min i ns.length)).take (min j ns.length - min i ns.length)).map D.int := by
  unfold cutD
  rw [HT.sIx_nat, HT.sIx_nat, List.length_map, List.map_take, List.map_drop]
theorem mem_ints {ns : List Int} {x : D} (h : x ∈ ns.map D.int) : ∃ c : Int, x = .int c := by
  obtain ⟨c, _, rfl⟩ := List.mem_map.mp h
  exact ⟨c, rfl⟩
theorem get_ints {ns : List Int} {i : Nat} {x : D} (h : (ns.map D.int)[i]? = some x) : ∃ c : Int, x = .int c := mem_ints (List.mem_of_getElem? h)
/-- rings at a moment, told in two ways -/
theorem due_iff {m f g : Int} : decide (m % g = f % g) = decide ((m - f) % g = 0) := by
  rw [Bool.eq_iff_iff, decide_eq_true_iff, decide_eq_true_iff]
  exact Int.emod_eq_emod_iff_emod_sub_eq_zero

/-! ### common gaps, rolls, in plain numbers -/
theorem take_snoc {α : Type} {bs : List α} {i : Nat} {b : α} (h : bs[i]? = some b) : bs.take (i + 1) = bs.take i ++ [b] := by
  rw [List.take_add_one, h] <;> rfl
theorem drop_cons {α : Type} {bs : List α} {i : Nat} {b : α} (h : bs[i]? = some b) : bs.drop i = b :: bs.drop (i + 1) := by
  obtain ⟨h1, h2⟩ := List.getElem?_eq_some_iff.mp h
  rw [List.drop_eq_getElem_cons h1, h2]
def tupF (i j : Nat) : D → Rho → Rho := fun d r => match d with
  | .tup [x, y] => (r.set i (some (.dat x))).set j (some (.dat y))
  | _ => r
structure BOk (bs : Bs2) : Prop where
  p : ∀ b ∈ bs, 0 < b.2 ∧ Sm 100 b.2 ∧ 0 ≤ b.1 ∧ b.1 < b.2
  n : bs.length ≤ 60
def comG (bs : Bs2) : Int := bs.foldl (fun w b => cmG w b.2) 1
theorem comG_snoc (bs : Bs2) (b : Int × Int) : comG (bs ++ [b]) = cmG (comG bs) b.2 := by
  unfold comG
  rw [List.foldl_append] <;> rfl
theorem comG_ok {bs : Bs2} (B : BOk bs) : ∀ i, i ≤ bs.length → 0 < comG (bs.take i) ∧ Sm (100 * i + 1) (comG (bs.take i))
  | 0, _ => ⟨by show (0 : Int) < 1; decide, by show Sm 1 1; exact Sm.lit (by decide)⟩
  | i + 1, h => by
    obtain ⟨h1, h2⟩ := comG_ok B i (by omega)
    have hx : bs[i]? = some bs[i] := List.getElem?_eq_getElem h
    obtain ⟨p1, p2, _⟩ := B.p bs[i] (List.getElem_mem h)
    rw [take_snoc hx, comG_snoc]
    exact ⟨cmG_pos h1 p1, (sm_cmG h1 p1 h2 p2).mono (by omega)⟩
theorem comG_pos {bs : Bs2} (B : BOk bs) : 0 < comG bs := by
  have := (comG_ok B bs.length (Nat.le_refl _)).1
  rwa [List.take_length] at this
def firstR (m : Int) : Bs2 → Nat → Option Int
  | [], _ => none
  | b :: bs, i => if m % b.2 = b.1 then some (i : Nat) else firstR m bs (i + 1)
def rollS (bs : Bs2) : List (Option Int) := (List.range (comG bs).toNat).map fun i => firstR (i : Nat) bs 0
def silR : List (Option Int) → Nat → Option Int
  | [], _ => none
  | none :: _, i => some (i : Nat)
  | some _ :: os, i => silR os (i + 1)
theorem silR_spec : ∀ (os : List (Option Int)) (k : Nat), (silR os k = none ∧ none ∉ os) ∨ ∃ j : Nat, silR os k = some ((k + j : Nat) : Int) ∧ os[j]? = some none ∧ ∀ m, m < j → os[m]? ≠ some none
  | [], _ => .inl ⟨rfl, by simp⟩
  | none :: os, k => .inr ⟨0, rfl, rfl, fun m hm => absurd hm (Nat.not_lt_zero _)⟩
  | some v :: os, k => by
    rcases silR_spec os (k + 1) with ⟨h1, h2⟩ | ⟨j, h1, h2, h3⟩
    · exact .inl ⟨h1, by simpa using h2⟩
    · refine .inr ⟨j + 1, ?_, h2, fun m hm => ?_⟩
      · show silR os (k + 1) = _
        rw [h1]
        congr 2
        omega
      · cases m with
        | zero => exact fun z => nomatch z
        | succ m => exact h3 m (by omega)
/-- a loop over what raises -/
theorem st_for_raise {K : PySem.W.Frag} {b : Bs} {ρ : Rho} {N : DE} {R : List D → Out → Prop} {E : XK} {c : Value} {tA : TA} {ds : List D} {g : TG} {t : TS} (ha : EvA K b tA ρ ds) (hr : R ds (.exc c)) (he : Exc b E c) : StD K b (tFor (iEnum K (tCons (tCall (spD K R) [] E tA) tNil)) g t) N ρ := fun σ Hv H E' A C =>
  ha σ Hv H _ A fun vs Hv1 H1 g1 r1 => ⟨ds, .exc c, Hv1, g1.sub, by rw [List.append_nil]; exact r1, hr, fun Hv2 H2 g2 => he Hv2 H2 (A.gr.trans (g1.trans g2))⟩
/-- items with their places -/
def opD (p : Int × Option Int) : D := .tup [.int p.1, oD p.2]
theorem enO_map (os : List (Option Int)) : enumD (os.map oD) = ((List.range os.length).map fun i => (((i : Nat) : Int), (os[i]?).getD none)).map opD := by
  unfold enumD
  rw [List.length_map, List.map_map]
  refine List.map_congr_left fun i hi => ?_
  have hi' := List.mem_range.mp hi
  show D.tup [.int (i : Nat), ((os.map oD)[i]?).getD .non] = D.tup [.int (i : Nat), oD ((os[i]?).getD none)]
  rw [List.getElem?_map, List.getElem?_eq_getElem hi'] <;> rfl
theorem o_not (o : Option Int) : notObj (oD o) = true := by cases o <;> rfl
theorem o_isN (o : Option Int) : isNon (oD o) = decide (o = none) := by cases o <;> rfl

def R_rings : List D → Out → Prop := fun ds o => ∃ (r g m : Int), ds = [.tup [.int r, .int g], .int m] ∧ 0 < g ∧ o = .ret (.bl (decide (m % g = r)))
theorem r_rings {r g m : Int} (h0 : 0 < g) : R_rings [.tup [.int r, .int g], .int m] (.ret (.bl (decide (m % g = r)))) := ⟨r, g, m, rfl, h0, rfl⟩
theorem len_rings : ∀ ds o, R_rings ds o → ds.length = 2 := by
  rintro ds o ⟨_, _, _, rfl, _⟩
  rfl
local macro_rules | `(tactic| wtm_at "call") => `(tactic| with_reducible refine' r_rings ?_)

def R_weights : List D → Out → Prop := fun ds o => ∃ a c : Int, ds = [.int a, .int c] ∧ Sm 8000 a ∧ Sm 8000 c ∧ o = .ret (.tup [.int (Int.gcd a c), .int (wU a c), .int (wV a c)])
theorem r_weights {a c : Int} (ha : Sm 8000 a) (hc : Sm 8000 c) : R_weights [.int a, .int c] (.ret (.tup [.int (Int.gcd a c), .int (wU a c), .int (wV a c)])) := ⟨a, c, rfl, ha, hc, rfl⟩
theorem len_weights : ∀ ds o, R_weights ds o → ds.length = 2 := by
  rintro ds o ⟨a, c, rfl, _⟩
  rfl
local macro_rules | `(tactic| wtm_at "call") => `(tactic| with_reducible refine' r_weights ?_ ?_)

def R_common_gap : List D → Out → Prop := fun ds o => ∃ (bs : Bs2), ds = [LB bs] ∧ BOk bs ∧ o = .ret (.int (comG bs))
theorem r_common_gap {bs : Bs2} (h0 : BOk bs) : R_common_gap [LB bs] (.ret (.int (comG bs))) := ⟨bs, rfl, h0, rfl⟩
theorem len_common_gap : ∀ ds o, R_common_gap ds o → ds.length = 1 := by
  rintro ds o ⟨_, rfl, _⟩
  rfl
local macro_rules | `(tactic| wtm_at "call") => `(tactic| with_reducible refine' r_common_gap ?_)

def R_first_of : List D → Out → Prop := fun ds o => ∃ (bs : Bs2) (m : Int), ds = [LB bs, .int m] ∧ BOk bs ∧ o = .ret (oD (firstR m bs 0))
theorem r_first_of {bs : Bs2} {m : Int} (h0 : BOk bs) : R_first_of [LB bs, .int m] (.ret (oD (firstR m bs 0))) := ⟨bs, m, rfl, h0, rfl⟩
theorem len_first_of : ∀ ds o, R_first_of ds o → ds.length = 2 := by
  rintro ds o ⟨_, _, rfl, _⟩
  rfl
local macro_rules | `(tactic| wtm_at "call") => `(tactic| with_reducible refine' r_first_of ?_)

def R_roll (K : PySem.W.Frag) : List D → Out → Prop := fun ds o => ∃ bs : Bs2, ds = [LB bs] ∧ BOk bs ∧ ((comG bs ≤ 1000 ∧ o = .ret (.lst ((rollS bs).map oD))) ∨ (1000 < comG bs ∧ o = .exc (.ref (He.ga K "TooMany"))))
theorem len_roll {K : PySem.W.Frag} : ∀ ds o, R_roll K ds o → ds.length = 1 := by
  rintro ds o ⟨_, rfl, _⟩
  rfl

def R_silent (K : PySem.W.Frag) : List D → Out → Prop := fun ds o => ∃ bs : Bs2, ds = [LB bs] ∧ BOk bs ∧ ((comG bs ≤ 1000 ∧ o = .ret (oD (silR (rollS bs) 0))) ∨ (1000 < comG bs ∧ o = .exc (.ref (He.ga K "TooMany"))))
theorem len_silent {K : PySem.W.Frag} : ∀ ds o, R_silent K ds o → ds.length = 1 := by
  rintro ds o ⟨_, rfl, _⟩
  rfl

/-- the script's cell, 0 beyond -/
def cellZ (ns : List Int) (k : Int) : Int := (ns[k.toNat]?).getD 0
def R_l_cell_at : List D → Out → Prop := fun ds o => ∃ (ns : List Int) (k : Int), ds = [.fro (ns.map D.int), .int k] ∧ 0 ≤ k ∧ o = .ret (.int (cellZ ns k))
theorem r_l_cell_at {ns : List Int} {k : Int} (h : 0 ≤ k) : R_l_cell_at [.fro (ns.map D.int), .int k] (.ret (.int (cellZ ns k))) := ⟨ns, k, rfl, h, rfl⟩
theorem len_l_cell_at : ∀ ds o, R_l_cell_at ds o → ds.length = 2 := by
  rintro ds o ⟨a, c, rfl, _⟩
  rfl
local macro_rules | `(tactic| wtm_at "call") => `(tactic| with_reducible refine' r_l_cell_at ?_)

def R_l_whole : List D → Out → Prop := fun ds o => ∃ i : Int, ds = [.int i] ∧ o = .ret (.bl true)
theorem r_l_whole {i : Int} : R_l_whole [.int i] (.ret (.bl true)) := ⟨i, rfl, rfl⟩
theorem len_l_whole : ∀ ds o, R_l_whole ds o → ds.length = 1 := by
  rintro ds o ⟨i, rfl, _⟩
  rfl
local macro_rules | `(tactic| wtm_at "call") => `(tactic| with_reducible exact r_l_whole)

def R_l_divisor : List D → Out → Prop := fun ds o => ∃ (a c : Int), ds = [.int a, .int c] ∧ 0 ≤ a ∧ 0 ≤ c ∧ o = .ret (.int (gcI a c))
theorem r_l_divisor {a c : Int} (h0 : 0 ≤ a) (h1 : 0 ≤ c) : R_l_divisor [.int a, .int c] (.ret (.int (gcI a c))) := ⟨a, c, rfl, h0, h1, rfl⟩
theorem len_l_divisor : ∀ ds o, R_l_divisor ds o → ds.length = 2 := by
  rintro ds o ⟨_, _, rfl, _⟩
  rfl
local macro_rules | `(tactic| wtm_at "call") => `(tactic| with_reducible refine' r_l_divisor ?_ ?_)

def r10 (n : Int) : Int := if n = 0 then 12 else if n = 1 then 24 else if n = 2 then 30 else if n = 3 then 36 else if n = 4 then 48 else if n = 5 then 60 else if n = 6 then 72 else if n = 7 then 84 else if n = 8 then 96 else 120
def r8 (n : Int) : Int := if n = 0 then 1000 else if n = 1 then 1001 else if n = 2 then 999 else if n = 3 then 1000 else if n = 4 then 1001 else if n = 5 then 1008 else if n = 6 then 960 else 720
def roundR (c : Int) : Int := if c % 4 = 0 then r10 (c / 4 % 10) else if c % 4 = 1 then 1 + c / 4 % 120 else if c % 4 = 2 then r8 (c / 4 % 8) else 1 + c / 4 % 10 ^ 18
theorem roundR_ok (c : Int) : 0 < roundR c ∧ roundR c ≤ 10 ^ 18 := by
  unfold roundR
  split
  · unfold r10
    repeat' split
    all_goals decide
  split
  · omega
  split
  · unfold r8
    repeat' split
    all_goals decide
  · omega
def R_l_round : List D → Out → Prop := fun ds o => ∃ (c : Int), ds = [.int c] ∧ o = .ret (.int (roundR c))
theorem r_l_round {c : Int}  : R_l_round [.int c] (.ret (.int (roundR c))) := ⟨c, rfl, rfl⟩
theorem len_l_round : ∀ ds o, R_l_round ds o → ds.length = 1 := by
  rintro ds o ⟨_, rfl, _⟩
  rfl
local macro_rules | `(tactic| wtm_at "call") => `(tactic| with_reducible refine' r_l_round)

def gapR (W c : Int) : Int := if c % 2 = 1 ∨ (gcI W (1 + c / 2 % 60) = 1 ∧ c / 120 % 4 > 0) then W / gcI W (1 + c / 2 % 60) else gcI W (1 + c / 2 % 60)
theorem gapR_ok {W c : Int} (h : 0 < W ∧ W ≤ 10 ^ 18) : 0 < gapR W c ∧ Sm 100 (gapR W c) := by
  have hp := gcI_pos (h := 1 + c / 2 % 60) h.1
  have hd := gcI_l W (1 + c / 2 % 60)
  have sW : Sm 100 W := Sm.lt (by omega) (by omega)
  unfold gapR
  split
  · exact ⟨Int.ediv_pos_of_pos_of_dvd h.1 (by omega) hd, sm_div sW⟩
  · exact ⟨hp, sm_gcd sW (by omega)⟩
def beatR (W c : Int) : Int × Int := (c * 69621 % 2147483629 % gapR W c, gapR W c)
def cellsR (ns : List Int) : List Int := if 120 < roundR (cellZ ns 0) then cutI ns 1 9 else cutI ns 1 61
def beatsR (ns : List Int) : Bs2 := (cellsR ns).map (beatR (roundR (cellZ ns 0)))
theorem beatsR_ok (ns : List Int) : BOk (beatsR ns) := by
  have hW := roundR_ok (cellZ ns 0)
  refine ⟨fun b hb => ?_, ?_⟩
  · obtain ⟨c, _, rfl⟩ := List.mem_map.mp hb
    have hg := gapR_ok (c := c) hW
    exact ⟨hg.1, hg.2, Int.emod_nonneg _ (show gapR _ c ≠ 0 by omega), Int.emod_lt_of_pos _ hg.1⟩
  · unfold beatsR cellsR
    rw [List.length_map]
    split
    · rw [cutI_len]
      omega
    · rw [cutI_len]
      omega
def R_l_beats : List D → Out → Prop := fun ds o => ∃ (ns : List Int), ds = [.fro (ns.map D.int)] ∧ o = .ret (LB (beatsR ns))
theorem r_l_beats {ns : List Int}  : R_l_beats [.fro (ns.map D.int)] (.ret (LB (beatsR ns))) := ⟨ns, rfl, rfl⟩
theorem len_l_beats : ∀ ds o, R_l_beats ds o → ds.length = 1 := by
  rintro ds o ⟨_, rfl, _⟩
  rfl
local macro_rules | `(tactic| wtm_at "call") => `(tactic| with_reducible refine' r_l_beats)

def R_l_common : List D → Out → Prop := fun ds o => ∃ (bs : Bs2), ds = [LB bs] ∧ BOk bs ∧ o = .ret (.int (comG bs))
theorem r_l_common {bs : Bs2} (h0 : BOk bs) : R_l_common [LB bs] (.ret (.int (comG bs))) := ⟨bs, rfl, h0, rfl⟩
theorem len_l_common : ∀ ds o, R_l_common ds o → ds.length = 1 := by
  rintro ds o ⟨_, rfl, _⟩
  rfl
local macro_rules | `(tactic| wtm_at "call") => `(tactic| with_reducible refine' r_l_common ?_)

def R_l_first : List D → Out → Prop := fun ds o => ∃ (bs : Bs2) (m : Int), ds = [LB bs, .int m] ∧ BOk bs ∧ o = .ret (oD (firstR m bs 0))
theorem r_l_first {bs : Bs2} {m : Int} (h0 : BOk bs) : R_l_first [LB bs, .int m] (.ret (oD (firstR m bs 0))) := ⟨bs, m, rfl, h0, rfl⟩
theorem len_l_first : ∀ ds o, R_l_first ds o → ds.length = 2 := by
  rintro ds o ⟨_, _, rfl, _⟩
  rfl
local macro_rules | `(tactic| wtm_at "call") => `(tactic| with_reducible refine' r_l_first ?_)

def R_l_same : List D → Out → Prop := fun ds o => ∃ (x : Option Int), ds = [oD x, oD x] ∧ o = .ret (.bl true)
theorem r_l_same {x : Option Int}  : R_l_same [oD x, oD x] (.ret (.bl true)) := ⟨x, rfl, rfl⟩
theorem len_l_same : ∀ ds o, R_l_same ds o → ds.length = 2 := by
  rintro ds o ⟨_, rfl, _⟩
  rfl
local macro_rules | `(tactic| wtm_at "call") => `(tactic| with_reducible refine' r_l_same)

abbrev kindsD : D := .lst [.bl true, .bl true, .bl false, .bl false, .bl false, .bl false, .bl false]
def R_l_kinds (K : PySem.W.Frag) (a : Addr) (cls : Value) (d : Option Addr) : List D → Out → Prop := fun ds o => exK K = true ∧ cls = .ref (He.ga K "TooMany") ∧ d = none ∧ ds = [.obj (.ref a)] ∧ o = .ret kindsD
theorem len_l_kinds {K : PySem.W.Frag} {a : Addr} {cls : Value} {d : Option Addr} : ∀ ds o, R_l_kinds K a cls d ds o → ds.length = 1 := by
  rintro ds o ⟨_, _, _, rfl, _⟩
  rfl

def R_l_refused : List D → Out → Prop := fun ds o => ∃ (bs : Bs2), ds = [LB bs] ∧ BOk bs ∧ 1000 < comG bs ∧ o = .ret (.bl true)
theorem r_l_refused {bs : Bs2} (h0 : BOk bs) (h1 : 1000 < comG bs) : R_l_refused [LB bs] (.ret (.bl true)) := ⟨bs, rfl, h0, h1, rfl⟩
theorem len_l_refused : ∀ ds o, R_l_refused ds o → ds.length = 1 := by
  rintro ds o ⟨_, rfl, _⟩
  rfl
local macro_rules | `(tactic| wtm_at "call") => `(tactic| with_reducible refine' r_l_refused ?_ ?_)

abbrev OL := List (Option Int)
def R_l_rolled : List D → Out → Prop := fun ds o => ∃ (os : OL), ds = [.lst (os.map oD), .lst (os.map oD)] ∧ os.length ≤ 1000 ∧ o = .ret (.bl true)
theorem r_l_rolled {os : OL} (h0 : os.length ≤ 1000) : R_l_rolled [.lst (os.map oD), .lst (os.map oD)] (.ret (.bl true)) := ⟨os, rfl, h0, rfl⟩
theorem len_l_rolled : ∀ ds o, R_l_rolled ds o → ds.length = 2 := by
  rintro ds o ⟨_, rfl, _⟩
  rfl
local macro_rules | `(tactic| wtm_at "call") => `(tactic| with_reducible refine' r_l_rolled ?_)

def R_law : List D → Out → Prop := fun ds o => ∃ ns : List Int, ds = [.fro (ns.map D.int)] ∧ ns.length ≤ 63 ∧ o = .ret (.bl true)
theorem len_law : ∀ ds o, R_law ds o → ds.length = 1 := by
  rintro ds o ⟨ns, rfl, _⟩
  rfl
theorem law_holds : ∀ ns : List Int, ns.length ≤ 63 → R_law [.fro (ns.map D.int)] (.ret (.bl true)) := fun ns h => ⟨ns, rfl, h, rfl⟩

def t_rings (K : PySem.W.Frag) (E : XK) : TS :=
  (tRet (tOp (rEqA K) (tOp rModI (tVar 1) (tOp (rIx K) (tVar 0) (tC (.int 1)))) (tOp (rIx K) (tVar 0) (tC (.int 0)))))
def t_weights (K : PySem.W.Frag) (E : XK) : TS :=
  (tSeq (tAsg (tVar 0) (gName 2))
  (tSeq (tAsg (tC (.int 1)) (gName 3))
  (tSeq (tAsg (tC (.int 0)) (gName 4))
  (tSeq (tAsg (tVar 1) (gName 5))
  (tSeq (tAsg (tC (.int 0)) (gName 6))
  (tSeq (tAsg (tC (.int 1)) (gName 7))
  (tSeq (tWhile (tTest (tOp (rNeA K) (tVar 5) (tC (.int 0)))) (tSeq (tAsg (tOp rDivI (tVar 2) (tVar 5)) (gName 8))
  (tSeq (tPar 2 5 (tCons (tVar 5) (tCons (tOp rSubI (tVar 2) (tOp rMulI (tVar 8) (tVar 5))) tNil)))
  (tSeq (tPar 3 6 (tCons (tVar 6) (tCons (tOp rSubI (tVar 3) (tOp rMulI (tVar 8) (tVar 6))) tNil)))
  (tPar 4 7 (tCons (tVar 7) (tCons (tOp rSubI (tVar 4) (tOp rMulI (tVar 8) (tVar 7))) tNil)))))))
  (tSeq (tIfS (tTest (tOp rLtI (tVar 2) (tC (.int 0)))) (tRet (tTup (tCons (tOp rSubI (tC (.int 0)) (tVar 2)) (tCons (tOp rSubI (tC (.int 0)) (tVar 3)) (tCons (tOp rSubI (tC (.int 0)) (tVar 4)) tNil))))) tNext)
  (tRet (tTup (tCons (tVar 2) (tCons (tVar 3) (tCons (tVar 4) tNil)))))))))))))
def t_common_gap (K : PySem.W.Frag) (E : XK) : TS :=
  (tSeq (tAsg (tC (.int 1)) (gName 1))
  (tSeq (tFor (iSeq K (tVar 0)) (gName 2) (tAsg (tOp rMulI (tOp rDivI (tVar 1) (tOp (rIx K) (tCall (spD K R_weights) [] E0 (tCons (tVar 1) (tCons (tOp (rIx K) (tVar 2) (tC (.int 1))) tNil))) (tC (.int 0)))) (tOp (rIx K) (tVar 2) (tC (.int 1)))) (gName 1)))
  (tRet (tVar 1))))
def t_first_of (K : PySem.W.Frag) (E : XK) : TS :=
  (tSeq (tFor (iEnum K (tCons (tVar 0) tNil)) (gTup K 2 (gCons (gName 2) (gCons (gName 3) gNil))) (tIfS (tB (tCall (spD K R_rings) [] E0 (tCons (tVar 3) (tCons (tVar 1) tNil)))) (tRet (tVar 2)) tNext))
  (tRet (tC .non)))
def t_roll (K : PySem.W.Frag) (E : XK) : TS :=
  (tSeq (tAsg (tCall (spD K R_common_gap) [] E0 (tCons (tVar 0) tNil)) (gName 1))
  (tSeq (tIfS (tTest (tOp rGtI (tVar 1) (tC (.int 1000)))) (tRaiseC (fun c d _ H => E c d H) (.ref (He.ga K "TooMany"))) tNext)
  (tRet (tLc (iRng1 (tCons (tVar 1) tNil)) (gName 2) tYes (tCall (spD K R_first_of) [] E0 (tCons (tVar 0) (tCons (tVar 2) tNil))) [2]))))
def t_silent (K : PySem.W.Frag) (E : XK) : TS :=
  (tSeq (tFor (iEnum K (tCons (tCall (spD K (R_roll K)) [] E (tCons (tVar 0) tNil)) tNil)) (gTup K 2 (gCons (gName 1) (gCons (gName 2) gNil))) (tIfS (tB (tIsN (tVar 2))) (tRet (tVar 1)) tNext))
  (tRet (tC .non)))
def t_l_cell_at (K : PySem.W.Frag) (E : XK) : TS :=
  (tSeq (tIfS (tTest (tOp rLtI (tVar 1) (tCB (rLen K) (tCons (tVar 0) tNil)))) (tRet (tOp (rIx K) (tVar 0) (tVar 1))) tNext)
  (tRet (tC (.int 0))))
def t_l_whole (K : PySem.W.Frag) (E : XK) : TS :=
  (tRet (tAndV (tCB (rIsi K) (tCons (tVar 0) (tCons (tC (.ty "int")) tNil))) (tNotV (tCB (rIsi K) (tCons (tVar 0) (tCons (tC (.ty "bool")) tNil))))))
def t_l_divisor (K : PySem.W.Frag) (E : XK) : TS :=
  (tSeq (tWhile (tTest (tOp (rNeA K) (tVar 1) (tC (.int 0)))) (tPar 0 1 (tCons (tVar 1) (tCons (tOp rModI (tVar 0) (tVar 1)) tNil))))
  (tRet (tVar 0)))
def t_l_round (K : PySem.W.Frag) (E : XK) : TS :=
  (tSeq (tAsg (tOp rDivI (tVar 0) (tC (.int 4))) (gName 1))
  (tSeq (tIfS (tTest (tOp (rEqA K) (tOp rModI (tVar 0) (tC (.int 4))) (tC (.int 0)))) (tRet (tOp (rIx K) (tLst (tCons (tC (.int 12)) (tCons (tC (.int 24)) (tCons (tC (.int 30)) (tCons (tC (.int 36)) (tCons (tC (.int 48)) (tCons (tC (.int 60)) (tCons (tC (.int 72)) (tCons (tC (.int 84)) (tCons (tC (.int 96)) (tCons (tC (.int 120)) tNil))))))))))) (tOp rModI (tVar 1) (tC (.int 10))))) tNext)
  (tSeq (tIfS (tTest (tOp (rEqA K) (tOp rModI (tVar 0) (tC (.int 4))) (tC (.int 1)))) (tRet (tOp rAddA (tC (.int 1)) (tOp rModI (tVar 1) (tC (.int 120))))) tNext)
  (tSeq (tIfS (tTest (tOp (rEqA K) (tOp rModI (tVar 0) (tC (.int 4))) (tC (.int 2)))) (tRet (tOp (rIx K) (tLst (tCons (tC (.int 1000)) (tCons (tC (.int 1001)) (tCons (tC (.int 999)) (tCons (tC (.int 1000)) (tCons (tC (.int 1001)) (tCons (tC (.int 1008)) (tCons (tC (.int 960)) (tCons (tC (.int 720)) tNil))))))))) (tOp rModI (tVar 1) (tC (.int 8))))) tNext)
  (tRet (tOp rAddA (tC (.int 1)) (tOp rModI (tVar 1) (tOp rPowI (tC (.int 10)) (tC (.int 18))))))))))
def t_l_beats (K : PySem.W.Frag) (E : XK) : TS :=
  (tSeq (tAsg (tCall (spD K R_l_round) [] E0 (tCons (tCall (spD K R_l_cell_at) [] E0 (tCons (tVar 0) (tCons (tC (.int 0)) tNil))) tNil)) (gName 1))
  (tSeq (tAsg (tSl (rSlL K) (tVar 0) (tPart (tC (.int 1))) (tPart (tC (.int 61)))) (gName 2))
  (tSeq (tIfS (tTest (tOp rGtI (tVar 1) (tC (.int 120)))) (tAsg (tSl (rSlL K) (tVar 0) (tPart (tC (.int 1))) (tPart (tC (.int 9)))) (gName 2)) tNext)
  (tSeq (tAsg (tLst tNil) (gName 3))
  (tSeq (tFor (iSeq K (tVar 2)) (gName 4) (tSeq (tAsg (tCall (spD K R_l_divisor) [] E0 (tCons (tVar 1) (tCons (tOp rAddA (tC (.int 1)) (tOp rModI (tOp rDivI (tVar 4) (tC (.int 2))) (tC (.int 60)))) tNil))) (gName 5))
  (tSeq (tIfS (tOr (tTest (tOp (rEqA K) (tOp rModI (tVar 4) (tC (.int 2))) (tC (.int 1)))) (tAnd (tTest (tOp (rEqA K) (tVar 5) (tC (.int 1)))) (tTest (tOp rGtI (tOp rModI (tOp rDivI (tVar 4) (tC (.int 120))) (tC (.int 4))) (tC (.int 0)))))) (tAsg (tOp rDivI (tVar 1) (tVar 5)) (gName 5)) tNext)
  (tDrop (tBM K "list" rAppend (tVar 3) (tCons (tTup (tCons (tOp rModI (tOp rModI (tOp rMulI (tVar 4) (tC (.int 69621))) (tC (.int 2147483629))) (tVar 5)) (tCons (tVar 5) tNil))) tNil))))))
  (tRet (tVar 3)))))))
def t_l_common (K : PySem.W.Frag) (E : XK) : TS :=
  (tSeq (tAsg (tC (.int 1)) (gName 1))
  (tSeq (tFor (iSeq K (tVar 0)) (gName 2) (tAsg (tOp rMulI (tOp rDivI (tVar 1) (tCall (spD K R_l_divisor) [] E0 (tCons (tVar 1) (tCons (tOp (rIx K) (tVar 2) (tC (.int 1))) tNil)))) (tOp (rIx K) (tVar 2) (tC (.int 1)))) (gName 1)))
  (tRet (tVar 1))))
def t_l_first (K : PySem.W.Frag) (E : XK) : TS :=
  (tSeq (tFor (iRng1 (tCons (tCB (rLen K) (tCons (tVar 0) tNil)) tNil)) (gName 2) (tIfS (tTest (tOp (rEqA K) (tOp rModI (tOp rSubI (tVar 1) (tOp (rIx K) (tOp (rIx K) (tVar 0) (tVar 2)) (tC (.int 0)))) (tOp (rIx K) (tOp (rIx K) (tVar 0) (tVar 2)) (tC (.int 1)))) (tC (.int 0)))) (tRet (tVar 2)) tNext))
  (tRet (tC .non)))
def t_l_same (K : PySem.W.Frag) (E : XK) : TS :=
  (tSeq (tIfS (tB (tIsN (tVar 1))) (tRet (tIsN (tVar 0))) tNext)
  (tRet (tAndV (tCall (spD K R_l_whole) [] E0 (tCons (tVar 0) tNil)) (tOp (rEqA K) (tVar 0) (tVar 1)))))
def t_l_kinds (K : PySem.W.Frag) (a : Addr) (cls : Value) (d : Option Addr) (E : XK) : TS :=
  (tSeq (tAsg (tLst (tCons (tCB (rIsX K a cls d) (tCons (tVar 0) (tCons (tC (.ty "ValueError")) tNil))) (tCons (tCB (rIsX K a cls d) (tCons (tVar 0) (tCons (tC (.ref (He.ga K "TooMany"))) tNil))) (tCons (tCB (rIsX K a cls d) (tCons (tVar 0) (tCons (tC (.ref (He.ga K "NoBeat"))) tNil))) (tCons (tCB (rIsX K a cls d) (tCons (tVar 0) (tCons (tC (.ref (He.ga K "NoBell"))) tNil))) tNil))))) (gName 1))
  (tRet (tOp rAddA (tVar 1) (tLst (tCons (tCB (rIsX K a cls d) (tCons (tVar 0) (tCons (tC (.ref (He.ga K "Twice"))) tNil))) (tCons (tCB (rIsX K a cls d) (tCons (tVar 0) (tCons (tC (.ref (He.ga K "NoName"))) tNil))) (tCons (tCB (rIsX K a cls d) (tCons (tVar 0) (tCons (tC (.ref (He.ga K "Clash"))) tNil))) tNil)))))))
def t_l_refused (K : PySem.W.Frag) (E : XK) : TS :=
  (tSeq (tAsg (tLst tNil) (gName 1))
  (tSeq (tAsg (tLst tNil) (gName 2))
  (tSeq (tAsg (tCB (rListOf K) (tCons (tVar 0) tNil)) (gName 3))
  (tSeq (tTryAs K (.ref (He.ga K "KnellError")) 4 (fun W => (tDrop (tCallS (spD K (R_roll K)) (WE W) (tCons (tVar 3) tNil)))) (fun a cls d => (tAsg (tCall (spD K (R_l_kinds K a cls d)) [] E0 (tCons (tVar 4) tNil)) (gName 1))))
  (tSeq (tTryAs K (.ref (He.ga K "KnellError")) 4 (fun W => (tDrop (tCallS (spD K (R_silent K)) (WE W) (tCons (tVar 3) tNil)))) (fun a cls d => (tAsg (tCall (spD K (R_l_kinds K a cls d)) [] E0 (tCons (tVar 4) tNil)) (gName 2))))
  (tSeq (tAsg (tLst (tCons (tC (.bl true)) (tCons (tC (.bl true)) (tCons (tC (.bl false)) (tCons (tC (.bl false)) (tCons (tC (.bl false)) (tCons (tC (.bl false)) (tCons (tC (.bl false)) tNil)))))))) (gName 5))
  (tRet (tAndV (tOp (rEqA K) (tVar 1) (tVar 5)) (tAndV (tOp (rEqA K) (tVar 2) (tVar 5)) (tOp (rEqA K) (tVar 3) (tVar 0)))))))))))
def t_l_rolled (K : PySem.W.Frag) (E : XK) : TS :=
  (tSeq (tIfS (tOr (tNot (tB (tCB (rIsi K) (tCons (tVar 0) (tCons (tC (.ty "list")) tNil))))) (tTest (tOp (rNeA K) (tCB (rLen K) (tCons (tVar 0) tNil)) (tCB (rLen K) (tCons (tVar 1) tNil))))) (tRet (tC (.bl false))) tNext)
  (tSeq (tFor (iRng1 (tCons (tCB (rLen K) (tCons (tVar 1) tNil)) tNil)) (gName 2) (tIfS (tNot (tB (tCall (spD K R_l_same) [] E0 (tCons (tOp (rIx K) (tVar 0) (tVar 2)) (tCons (tOp (rIx K) (tVar 1) (tVar 2)) tNil))))) (tRet (tC (.bl false))) tNext))
  (tRet (tC (.bl true)))))
def t_law (K : PySem.W.Frag) (E : XK) : TS :=
  (tSeq (tAsg (tCall (spD K R_l_beats) [] E0 (tCons (tVar 0) tNil)) (gName 1))
  (tSeq (tAsg (tCall (spD K R_l_common) [] E0 (tCons (tVar 1) tNil)) (gName 2))
  (tSeq (tAsg (tCB (rListOf K) (tCons (tVar 1) tNil)) (gName 3))
  (tSeq (tIfS (tOr (tNot (tB (tCall (spD K R_l_same) [] E0 (tCons (tCall (spD K R_common_gap) [] E0 (tCons (tVar 3) tNil)) (tCons (tVar 2) tNil))))) (tTest (tOp (rNeA K) (tVar 3) (tVar 1)))) (tRet (tC (.bl false))) tNext)
  (tSeq (tIfS (tTest (tOp rGtI (tVar 2) (tC (.int 1000)))) (tRet (tCall (spD K R_l_refused) [] E0 (tCons (tVar 1) tNil))) tNext)
  (tSeq (tAsg (tLc (iRng1 (tCons (tVar 2) tNil)) (gName 6) tYes (tCall (spD K R_l_first) [] E0 (tCons (tVar 1) (tCons (tVar 6) tNil))) [6]) (gName 4))
  (tSeq (tIfS (tOr (tNot (tB (tCall (spD K R_l_rolled) [] E0 (tCons (tCall (spD K (R_roll K)) [] E0 (tCons (tVar 3) tNil)) (tCons (tVar 4) tNil))))) (tTest (tOp (rNeA K) (tVar 3) (tVar 1)))) (tRet (tC (.bl false))) tNext)
  (tSeq (tAsg (tC .non) (gName 5))
  (tSeq (tIfS (tTest (tOp (rIn K false) (tC .non) (tVar 4))) (tAsg (tBM K "list" (rIndex K) (tVar 4) (tCons (tC .non) tNil)) (gName 5)) tNext)
  (tRet (tAndV (tCall (spD K R_l_same) [] E0 (tCons (tCall (spD K (R_silent K)) [] E0 (tCons (tVar 3) tNil)) (tCons (tVar 5) tNil))) (tOp (rEqA K) (tVar 3) (tVar 1)))))))))))))

theorem body_rings {K : PySem.W.Frag} : BodyD K 2 (t_rings K) R_rings := by
  rintro ds o b E ⟨r, g, m, rfl, h, rfl⟩ _
  refine st_ret (d := .bl (decide (m % g = r))) ?_ rfl
  wtm_at "ev"

theorem body_weights {K : PySem.W.Frag} : BodyD K 9 (t_weights K) R_weights := by
  rintro ds o b E ⟨a, c, rfl, ha, hc, rfl⟩ _
  have hB : ∀ {x : Int}, x.natAbs ≤ a.natAbs + 2 * c.natAbs + 1 → Sm 8002 x := fun h => sm_sum ha hc h
  refine st_seq (st_set (d := .int a) (evd_var rfl) ?_)
  refine st_seq (st_set evd_int ?_)
  refine st_seq (st_set evd_int ?_)
  refine st_seq (st_set (d := .int c) (evd_var rfl) ?_)
  refine st_seq (st_set evd_int ?_)
  refine st_seq (st_set evd_int ?_)
  refine st_seq (st_while (fun m r => ∃ (here u v there ou ov : Int) (y : Option SD), r = [some (.dat (.int a)), some (.dat (.int c)), some (.dat (.int here)), some (.dat (.int u)), some (.dat (.int v)), some (.dat (.int there)), some (.dat (.int ou)), some (.dat (.int ov)), y] ∧
    WJ a c (a.natAbs + 2 * c.natAbs + 1) here u v there ou ov ∧ m = there.natAbs ∧ wl here u v there ou ov = wl a 1 0 c 0 1) c.natAbs ⟨a, 1, 0, c, 0, 1, none, rfl, wj_start a c, rfl, rfl⟩ ?_)
  rintro m r ⟨here, u, v, there, ou, ov, y, rfl, J, rfl, hw⟩
  refine ⟨!decide (there = 0), ?_, fun h => ?_, fun h => ?_⟩
  · wtm_at "ev"
  · have ht : there ≠ 0 := by simpa using h
    have st : Sm 8002 there := hB (by have := J.bt; omega)
    have sby : Sm 8002 (here.fdiv there) := (hB J.bh).le (Int.natAbs_fdiv_le_natAbs here there)
    refine st_seq (st_set (d := .int (here.fdiv there)) (evd_op (d := .int here) (e := .int there) (evd_var rfl) (evd_var rfl) (rd_div ⟨ht, divOk st (by decide)⟩)) ?_)
    refine st_seq (st_par (d := .int there) (e := .int (here - here.fdiv there * there)) ?_ ?_)
    · wtm_at "ev"
      exact mulOk sby st (by decide)
    refine st_seq (st_par (d := .int ou) (e := .int (u - here.fdiv there * ou)) ?_ ?_)
    · wtm_at "ev"
      exact mulOk sby (hB J.bou) (by decide)
    refine st_par (d := .int ov) (e := .int (v - here.fdiv there * ov)) ?_ ?_
    · wtm_at "ev"
      exact mulOk sby (hB J.bov) (by decide)
    exact ⟨_, rest_lt ht, there, ou, ov, _, _, _, _, rfl, wj_step (Nat.le_refl _) J ht, rfl, by rw [← hw, wl_step ht]⟩
  · have ht : there = 0 := by simpa using h
    subst ht
    rw [wl_zero] at hw
    have h1 : (wl a 1 0 c 0 1).1 = here := by rw [← hw]
    have h2 : (wl a 1 0 c 0 1).2.1 = u := by rw [← hw]
    have h3 : (wl a 1 0 c 0 1).2.2 = v := by rw [← hw]
    have e := wRes_eq a c
    unfold wRes at e
    rw [h1, h2, h3] at e
    refine st_seq (st_if (c := decide (here < 0)) ?_ (fun h => ?_) fun h => ?_)
    · wtm_at "ev"
    · have hn : here < 0 := of_decide_eq_true h
      rw [if_pos hn] at e
      injection e with q1 q2
      injection q2 with q2 q3
      refine st_ret (d := .tup [.int (0 - here), .int (0 - u), .int (0 - v)]) ?_ ?_
      · wtm_at "ev"
      · show Out.ret _ = Out.ret _
        rw [q1, q2, q3]
    · have hn : ¬ here < 0 := of_decide_eq_false h
      rw [if_neg hn] at e
      refine st_next (st_ret (d := .tup [.int here, .int u, .int v]) ?_ ?_)
      · wtm_at "ev"
      · show Out.ret _ = Out.ret _
        have q : (here, u, v) = ((Int.gcd a c : Int), wU a c, wV a c) := by rw [hw]; exact e
        injection q with q1 q2
        injection q2 with q2 q3
        rw [q1, q2, q3]

theorem body_common_gap {K : PySem.W.Frag} : BodyD K 3 (t_common_gap K) R_common_gap := by
  rintro ds o b E ⟨bs, rfl, B, rfl⟩ _
  refine st_seq (st_set (d := .int 1) evd_int ?_)
  refine st_seq (st_forT bD (js := [2]) (f := fun x r => r.set 2 (some (.dat x))) (src_seqL (evd_var rfl) rfl) (fun _ _ => gt_name)
    (fun i rr => ∃ y, rr = [some (.dat (LB bs)), some (.dat (.int (comG (bs.take i)))), y]) ⟨_, rfl⟩ ?_ ?_)
  · rintro s i x rr hx ⟨y, rfl⟩
    have hi := (List.getElem?_eq_some_iff.mp hx).1
    obtain ⟨h1, h2⟩ := comG_ok B i (by omega)
    have sn : Sm 8000 (comG (bs.take i)) := h2.mono (by have := B.n; omega)
    obtain ⟨p1, p2, _⟩ := B.p x (List.mem_of_getElem? hx)
    have hp := gcI_pos (h := x.2) h1
    have sgc : Sm 8000 (gcI (comG (bs.take i)) x.2) := sm_gcd sn (by omega)
    rw [take_snoc hx, comG_snoc]
    generalize comG (bs.take i) = w at *
    refine st_set (d := .int (cmG w x.2)) (evd_op (d := .int (w / gcI w x.2)) (e := .int x.2) (evd_op (d := .int w) (e := .int (gcI w x.2)) (evd_var rfl) (evd_op (d := .tup [.int (gcI w x.2), .int (wU w x.2), .int (wV w x.2)]) (evd_call (ds := [.int w, .int x.2]) (eva_cons (evd_var rfl) (eva_cons (evd_op (d := Bt x.1 x.2) (evd_var rfl) evd_int (rd_ix rfl rfl)) eva_nil)) (r_weights sn (p2.mono (by decide)))) evd_int (rd_ix rfl rfl)) (rd_divP hp (divOk sgc (by decide)))) (evd_op (d := Bt x.1 x.2) (evd_var rfl) evd_int (rd_ix rfl rfl)) (rd_mul (mulOk (sm_div sn) p2 (by decide)))) ⟨_, rfl⟩
  · rintro rr ⟨y, rfl⟩
    rw [List.take_length]
    exact st_ret (evd_var rfl) rfl

theorem body_first_of {K : PySem.W.Frag} : BodyD K 4 (t_first_of K) R_first_of := by
  rintro ds o b E ⟨bs, m, rfl, B, rfl⟩ _
  refine st_seq (st_forT (xs := (List.range bs.length).map fun i => (((i : Nat) : Int), (bs[i]?).getD (0, 1))) zpD (js := [2, 3]) (f := tupF 2 3) (by rw [← enD_map]; exact src_enum (d := LB bs) (eva_cons (evd_var rfl) eva_nil) rfl) (fun _ _ => gt_tup2)
    (fun i rr => firstR m bs 0 = firstR m (bs.drop i) i ∧ ∃ y2 y3, rr = [some (.dat (LB bs)), some (.dat (.int m)), y2, y3]) ⟨rfl, _, _, rfl⟩ ?_ ?_)
  · rintro s i x rr hx ⟨e, y2, y3, rfl⟩
    have hi := (List.getElem?_eq_some_iff.mp hx).1
    rw [List.length_map, List.length_range] at hi
    have hxi : bs[i]? = some bs[i] := List.getElem?_eq_getElem hi
    rw [List.getElem?_map, List.getElem?_range hi] at hx
    have ex : x = (((i : Nat) : Int), bs[i]) := by
      have : some (((i : Nat) : Int), (bs[i]?).getD (0, 1)) = some x := hx
      rw [hxi] at this
      injection this with this
      exact this.symm
    subst ex
    obtain ⟨p1, _⟩ := B.p bs[i] (List.getElem_mem hi)
    rw [drop_cons hxi] at e
    generalize bs[i] = d at *
    refine st_if (c := decide (m % d.2 = d.1)) (evb_B (evd_call (ds := [Bt d.1 d.2, .int m]) (eva_cons (evd_var rfl) (eva_cons (evd_var rfl) eva_nil)) (r_rings p1))) (fun h => ?_) fun h => st_next ⟨?_, _, _, rfl⟩
    · refine st_ret (d := .int (i : Nat)) (evd_var rfl) ?_
      show Out.ret (oD (firstR m bs 0)) = _
      rw [e]
      show Out.ret (oD (if m % d.2 = d.1 then some (i : Nat) else _)) = _
      rw [if_pos (of_decide_eq_true h)] <;> rfl
    · rw [e]
      show (if m % d.2 = d.1 then some ((i : Nat) : Int) else firstR m (bs.drop (i + 1)) (i + 1)) = _
      rw [if_neg (of_decide_eq_false h)]
  · rintro rr ⟨e, y2, y3, rfl⟩
    rw [List.length_map, List.length_range, List.drop_length] at e
    refine st_ret evd_non ?_
    show Out.ret (oD (firstR m bs 0)) = _
    rw [e] <;> rfl

theorem body_roll {K : PySem.W.Frag} : BodyD K 3 (t_roll K) (R_roll K) := by
  rintro ds o b E ⟨bs, rfl, B, ho⟩ hx
  have hp := comG_pos B
  refine st_seq (st_set (d := .int (comG bs)) (evd_call (ds := [LB bs]) (eva_cons (evd_var rfl) eva_nil) (r_common_gap B)) ?_)
  refine st_seq (st_if (c := decide (1000 < comG bs)) ?_ (fun h => ?_) fun h => st_next ?_)
  · wtm_at "ev"
  · rcases ho with ⟨h2, _⟩ | ⟨_, rfl⟩
    · have := of_decide_eq_true h
      omega
    · exact st_raise (hx _ rfl)
  rcases ho with ⟨h2, rfl⟩ | ⟨h2, _⟩
  · refine st_ret (evd_f (ds := (rollS bs).map oD) ?_) rfl
    unfold rollS
    rw [List.map_map]
    refine evf_lcT0 (xs := List.range (comG bs).toNat) (fun i => .int (i : Nat)) inj_nat (js := [2]) (f := fun x r => r.set 2 (some (.dat x))) _ (src_rng1 (eva_cons (evd_var rfl) eva_nil) (by omega) (by omega)) (fun _ _ => gt_name) (fun _ q => q) (by rw [List.length_range]; omega) fun i hi => ?_
    exact evd_call (ds := [LB bs, .int (i : Nat)]) (eva_cons (evd_var rfl) (eva_cons (evd_var rfl) eva_nil)) (r_first_of B)
  · have := of_decide_eq_false h
    omega

theorem body_silent {K : PySem.W.Frag} : BodyD K 3 (t_silent K) (R_silent K) := by
  rintro ds o b E ⟨bs, rfl, B, ho⟩ hx
  rcases ho with ⟨h2, rfl⟩ | ⟨h2, rfl⟩
  · have src : ∀ {ρ : Rho} (bb : Bs), EvD K bb (tVar 0) ρ (LB bs) → EvA K bb (tCons (tCall (spD K (R_roll K)) [] E (tCons (tVar 0) tNil)) tNil) ρ [.lst ((rollS bs).map oD)] := fun bb h => eva_cons (evd_call (ds := [LB bs]) (eva_cons h eva_nil) ⟨bs, rfl, B, .inl ⟨h2, rfl⟩⟩) eva_nil
    generalize rollS bs = os at src
    refine st_seq (st_forT (xs := (List.range os.length).map fun i => (((i : Nat) : Int), (os[i]?).getD none)) opD (js := [1, 2]) (f := tupF 1 2) (by rw [← enO_map]; exact src_enum (d := .lst (os.map oD)) (src b (evd_var rfl)) rfl) (fun _ _ => gt_tup2)
      (fun i rr => silR os 0 = silR (os.drop i) i ∧ ∃ y1 y2, rr = [some (.dat (LB bs)), y1, y2]) ⟨rfl, _, _, rfl⟩ ?_ ?_)
    · rintro s i x rr hx2 ⟨e, y1, y2, rfl⟩
      have hi := (List.getElem?_eq_some_iff.mp hx2).1
      rw [List.length_map, List.length_range] at hi
      have hxi : os[i]? = some os[i] := List.getElem?_eq_getElem hi
      rw [List.getElem?_map, List.getElem?_range hi] at hx2
      have ex : x = (((i : Nat) : Int), os[i]) := by
        have : some (((i : Nat) : Int), (os[i]?).getD none) = some x := hx2
        rw [hxi] at this
        injection this with this
        exact this.symm
      subst ex
      rw [drop_cons hxi] at e
      generalize os[i] = d at *
      refine st_if (c := isNon (oD d)) (evb_B (evd_isN (evd_var rfl) (rep_non (o_not d)))) (fun h => ?_) fun h => st_next ⟨?_, _, _, rfl⟩
      · refine st_ret (d := .int (i : Nat)) (evd_var rfl) ?_
        show Out.ret (oD (silR os 0)) = _
        rw [e]
        cases d with
        | none => rfl
        | some v => cases h
      · rw [e]
        cases d with
        | none => cases h
        | some v => rfl
    · rintro rr ⟨e, y1, y2, rfl⟩
      rw [List.length_map, List.length_range, List.drop_length] at e
      refine st_ret evd_non ?_
      show Out.ret (oD (silR os 0)) = _
      rw [e] <;> rfl
  · exact st_seq (st_for_raise (ds := [LB bs]) (eva_cons (evd_var rfl) eva_nil) ⟨bs, rfl, B, .inr ⟨h2, rfl⟩⟩ (hx _ rfl))

theorem body_l_cell_at {K : PySem.W.Frag} : BodyD K 2 (t_l_cell_at K) R_l_cell_at := by
  rintro ds o b E ⟨ns, k, rfl, hk, rfl⟩ _
  refine st_seq (st_if (c := decide (k < ((ns.map D.int).length : Nat))) ?_ (fun h => ?_) fun h => ?_)
  · wtm_at "ev"
  · have h1 : k < (ns.length : Nat) := by
      have := of_decide_eq_true h
      rw [List.length_map] at this
      exact this
    have h2 : k.toNat < ns.length := by omega
    refine st_ret (d := .int (cellZ ns k)) (evd_op (evd_var rfl) (evd_var rfl) (rd_ix rfl ?_)) rfl
    have e : k = (k.toNat : Int) := by omega
    rw [e]
    refine atI_nat ?_
    rw [List.getElem?_map, List.getElem?_eq_getElem h2]
    show some (D.int ns[k.toNat]) = some (D.int (cellZ ns (k.toNat : Int)))
    unfold cellZ
    rw [Int.toNat_natCast, List.getElem?_eq_getElem h2] <;> rfl
  · have h1 : ¬ k < (ns.length : Nat) := by
      have := of_decide_eq_false h
      rw [List.length_map] at this
      exact this
    refine st_next (st_ret evd_int ?_)
    show Out.ret _ = Out.ret _
    unfold cellZ
    rw [List.getElem?_eq_none (by omega)] <;> rfl

theorem body_l_whole {K : PySem.W.Frag} : BodyD K 1 (t_l_whole K) R_l_whole := by
  rintro ds o b E ⟨i, rfl, rfl⟩ _
  refine st_ret (d := .bl (true && !false)) ?_ rfl
  wtm_at "ev"

theorem gcI_zero {a : Int} (h : 0 ≤ a) : gcI a 0 = a := by
  show (Int.gcd a 0 : Int) = a
  rw [Int.gcd_zero_right]
  omega
theorem gcI_step {a c : Int} (h : 0 ≤ a) (h2 : 0 ≤ c) : gcI c (a % c) = gcI a c := by
  obtain ⟨n, rfl⟩ := Int.eq_ofNat_of_zero_le h
  obtain ⟨m, rfl⟩ := Int.eq_ofNat_of_zero_le h2
  show ((Int.gcd (m : Int) ((n : Int) % (m : Int)) : Nat) : Int) = ((Int.gcd (n : Int) (m : Int) : Nat) : Int)
  rw [← Int.natCast_emod, Int.gcd_natCast_natCast, Int.gcd_natCast_natCast, Nat.gcd_comm n m, Nat.gcd_rec m n, Nat.gcd_comm]
theorem body_l_divisor {K : PySem.W.Frag} : BodyD K 2 (t_l_divisor K) R_l_divisor := by
  rintro ds o b E ⟨a, c, rfl, ha, hc, rfl⟩ _
  refine st_seq (st_while (fun m r => ∃ x y : Int, r = [some (.dat (.int x)), some (.dat (.int y))] ∧ 0 ≤ x ∧ 0 ≤ y ∧ m = y.toNat ∧ gcI x y = gcI a c) c.toNat ⟨a, c, rfl, ha, hc, rfl, rfl⟩ ?_)
  rintro m r ⟨x, y, rfl, hx, hy, rfl, e⟩
  refine ⟨!decide (y = 0), ?_, fun h => ?_, fun h => ?_⟩
  · wtm_at "ev"
  · have hp : 0 < y := by
      have : y ≠ 0 := by simpa using h
      omega
    refine st_par (d := .int y) (e := .int (x % y)) ?_ ?_
    · wtm_at "ev"
    · have h1 := Int.emod_nonneg x (show y ≠ 0 by omega)
      have h2 := Int.emod_lt_of_pos x hp
      exact ⟨_, by omega, y, x % y, rfl, hy, h1, rfl, by rw [gcI_step hx hy, e]⟩
  · have hp : y = 0 := by simpa using h
    subst hp
    rw [← e, gcI_zero hx]
    exact st_ret (evd_var rfl) rfl

theorem body_l_round {K : PySem.W.Frag} : BodyD K 2 (t_l_round K) R_l_round := by
  rintro ds o b E ⟨c, rfl, rfl⟩ _
  unfold roundR
  refine st_seq (st_set (d := .int (c / 4)) ?_ ?_)
  · wtm_at "ev"
  refine st_seq (st_if (c := decide (c % 4 = 0)) ?_ (fun h => ?_) fun h => st_next ?_)
  · wtm_at "ev"
  · rw [if_pos (of_decide_eq_true h)]
    have hix : RD K (rIx K) (.lst [.int 12, .int 24, .int 30, .int 36, .int 48, .int 60, .int 72, .int 84, .int 96, .int 120]) (.int (c / 4 % 10)) (.int (r10 (c / 4 % 10))) := by
      refine rd_ix rfl ?_
      unfold r10
      have h3 : c / 4 % 10 = 0 ∨ c / 4 % 10 = 1 ∨ c / 4 % 10 = 2 ∨ c / 4 % 10 = 3 ∨ c / 4 % 10 = 4 ∨ c / 4 % 10 = 5 ∨ c / 4 % 10 = 6 ∨ c / 4 % 10 = 7 ∨ c / 4 % 10 = 8 ∨ c / 4 % 10 = 9 := by omega
      rcases h3 with h | h | h | h | h | h | h | h | h | h <;> rw [h] <;> rfl
    refine st_ret (d := .int (r10 (c / 4 % 10))) (evd_op (d := .lst [.int 12, .int 24, .int 30, .int 36, .int 48, .int 60, .int 72, .int 84, .int 96, .int 120]) ?_ ?_ hix) rfl
    · wtm_at "ev"
    · wtm_at "ev"
  rw [if_neg (of_decide_eq_false h)]
  refine st_seq (st_if (c := decide (c % 4 = 1)) ?_ (fun h => ?_) fun h => st_next ?_)
  · wtm_at "ev"
  · rw [if_pos (of_decide_eq_true h)]
    refine st_ret (d := .int (1 + c / 4 % 120)) ?_ rfl
    wtm_at "ev"
  rw [if_neg (of_decide_eq_false h)]
  refine st_seq (st_if (c := decide (c % 4 = 2)) ?_ (fun h => ?_) fun h => st_next ?_)
  · wtm_at "ev"
  · rw [if_pos (of_decide_eq_true h)]
    have hix : RD K (rIx K) (.lst [.int 1000, .int 1001, .int 999, .int 1000, .int 1001, .int 1008, .int 960, .int 720]) (.int (c / 4 % 8)) (.int (r8 (c / 4 % 8))) := by
      refine rd_ix rfl ?_
      unfold r8
      have h3 : c / 4 % 8 = 0 ∨ c / 4 % 8 = 1 ∨ c / 4 % 8 = 2 ∨ c / 4 % 8 = 3 ∨ c / 4 % 8 = 4 ∨ c / 4 % 8 = 5 ∨ c / 4 % 8 = 6 ∨ c / 4 % 8 = 7 := by omega
      rcases h3 with h | h | h | h | h | h | h | h <;> rw [h] <;> rfl
    refine st_ret (d := .int (r8 (c / 4 % 8))) (evd_op (d := .lst [.int 1000, .int 1001, .int 999, .int 1000, .int 1001, .int 1008, .int 960, .int 720]) ?_ ?_ hix) rfl
    · wtm_at "ev"
    · wtm_at "ev"
  rw [if_neg (of_decide_eq_false h)]
  refine st_ret (d := .int (1 + c / 4 % 10 ^ (18 : Int).toNat)) ?_ rfl
  wtm_at "ev"

theorem body_l_beats {K : PySem.W.Frag} : BodyD K 6 (t_l_beats K) R_l_beats := by
  rintro ds o b E ⟨ns, rfl, rfl⟩ _
  have hW := roundR_ok (cellZ ns 0)
  unfold beatsR
  refine st_seq (st_set (d := .int (roundR (cellZ ns 0))) ?_ ?_)
  · wtm_at "ev"
  have hcl : (cellsR ns).length ≤ 60 := by
    unfold cellsR
    split
    · rw [cutI_len]
      omega
    · rw [cutI_len]
      omega
  have ecl : cellsR ns = if 120 < roundR (cellZ ns 0) then cutI ns 1 9 else cutI ns 1 61 := rfl
  generalize cellsR ns = cs at hcl ecl
  generalize roundR (cellZ ns 0) = W at hW ecl
  refine st_seq (st_set (d := .lst ((cutI ns 1 61).map D.int)) (evd_is (evd_f (evf_sl (d := .fro (ns.map D.int)) (evd_var rfl) rfl (evo_some (i := ((1 : Nat) : Int)) evd_int) (evo_some (i := ((61 : Nat) : Int)) evd_int))) (congrArg D.lst (cut_ints ns 1 61))) ?_)
  refine st_join (fun r => r = [some (.dat (.fro (ns.map D.int))), some (.dat (.int W)), some (.dat (.lst (cs.map D.int))), none, none, none]) (st_if (c := decide (120 < W)) ?_ (fun h => ?_) fun h => st_next ?_) ?_
  · wtm_at "ev"
  · rw [ecl, if_pos (of_decide_eq_true h)]
    exact st_set (d := .lst ((cutI ns 1 9).map D.int)) (evd_is (evd_f (evf_sl (d := .fro (ns.map D.int)) (evd_var rfl) rfl (evo_some (i := ((1 : Nat) : Int)) evd_int) (evo_some (i := ((9 : Nat) : Int)) evd_int))) (congrArg D.lst (cut_ints ns 1 9))) rfl
  · rw [ecl, if_neg (of_decide_eq_false h)] <;> rfl
  rintro _ rfl
  refine st_seq (st_own evf_nil ?_)
  refine st_seq (st_forT (xs := cs) D.int (js := [4]) (f := fun x r => r.set 4 (some (.dat x))) (src_seqL (evd_var rfl) rfl) (fun _ _ => gt_name)
    (fun i rr => ∃ y4 y5, rr = [some (.dat (.fro (ns.map D.int))), some (.dat (.int W)), some (.dat (.lst (cs.map D.int))), some (.own (((cs.take i).map (beatR W)).map bD)), y4, y5]) ⟨_, _, rfl⟩ ?_ ?_)
  · rintro b2 i x rr hx ⟨y4, y5, rfl⟩
    have hi := (List.getElem?_eq_some_iff.mp hx).1
    have hp := gcI_pos (h := 1 + x / 2 % 60) hW.1
    have sW : Sm 100 W := Sm.lt (by omega) (by omega)
    have sgc : Sm 100 (gcI W (1 + x / 2 % 60)) := sm_gcd sW (by omega)
    have e0 : (((cs.take i).map (beatR W)).map bD).length = i := by rw [List.length_map, List.length_map, List.length_take]; omega
    have e1 : ((cs.take (i + 1)).map (beatR W)).map bD = ((cs.take i).map (beatR W)).map bD ++ [Bt (x * 69621 % 2147483629 % gapR W x) (gapR W x)] := by
      rw [take_snoc hx, List.map_append, List.map_append] <;> rfl
    rw [e1]
    generalize ((cs.take i).map (beatR W)).map bD = L at *
    refine st_seq (st_set (d := .int (gcI W (1 + x / 2 % 60))) ?_ ?_)
    · wtm_at "ev"
    refine st_join (fun r => r = [some (.dat (.fro (ns.map D.int))), some (.dat (.int W)), some (.dat (.lst (cs.map D.int))), some (.own L), some (.dat (.int x)), some (.dat (.int (gapR W x)))]) (st_if (c := decide (x % 2 = 1) || (decide (gcI W (1 + x / 2 % 60) = 1) && decide (0 < x / 120 % 4))) ?_ (fun h => ?_) fun h => st_next ?_) ?_
    · wtm_at "ev"
    · unfold gapR
      rw [← Bool.decide_and, ← Bool.decide_or] at h
      rw [if_pos (of_decide_eq_true h)]
      exact st_set (evd_op (evd_var rfl) (evd_var rfl) (rd_divP hp (divOk sgc (by decide)))) rfl
    · unfold gapR
      rw [← Bool.decide_and, ← Bool.decide_or] at h
      rw [if_neg (of_decide_eq_false h)] <;> rfl
    rintro _ rfl
    have hg := (gapR_ok (c := x) hW).1
    refine st_append (i := 3) (d := Bt (x * 69621 % 2147483629 % gapR W x) (gapR W x)) rfl ?_ (by omega) ⟨_, _, rfl⟩
    wtm_at "ev"
  · rintro rr ⟨y4, y5, rfl⟩
    rw [List.take_length]
    exact st_pub (i := 3) rfl (st_ret (evd_var rfl) rfl)

theorem body_l_common {K : PySem.W.Frag} : BodyD K 3 (t_l_common K) R_l_common := by
  rintro ds o b E ⟨bs, rfl, B, rfl⟩ _
  refine st_seq (st_set (d := .int 1) evd_int ?_)
  refine st_seq (st_forT bD (js := [2]) (f := fun x r => r.set 2 (some (.dat x))) (src_seqL (evd_var rfl) rfl) (fun _ _ => gt_name)
    (fun i rr => ∃ y, rr = [some (.dat (LB bs)), some (.dat (.int (comG (bs.take i)))), y]) ⟨_, rfl⟩ ?_ ?_)
  · rintro s i x rr hx ⟨y, rfl⟩
    have hi := (List.getElem?_eq_some_iff.mp hx).1
    obtain ⟨h1, h2⟩ := comG_ok B i (by omega)
    have sn : Sm 8000 (comG (bs.take i)) := h2.mono (by have := B.n; omega)
    obtain ⟨p1, p2, _⟩ := B.p x (List.mem_of_getElem? hx)
    have hp := gcI_pos (h := x.2) h1
    have sgc : Sm 8000 (gcI (comG (bs.take i)) x.2) := sm_gcd sn (by omega)
    rw [take_snoc hx, comG_snoc]
    generalize comG (bs.take i) = w at *
    refine st_set (d := .int (cmG w x.2)) (evd_op (d := .int (w / gcI w x.2)) (e := .int x.2) (evd_op (d := .int w) (e := .int (gcI w x.2)) (evd_var rfl) (evd_call (ds := [.int w, .int x.2]) (eva_cons (evd_var rfl) (eva_cons (evd_op (d := Bt x.1 x.2) (evd_var rfl) evd_int (rd_ix rfl rfl)) eva_nil)) (r_l_divisor (by omega) (by omega))) (rd_divP hp (divOk sgc (by decide)))) (evd_op (d := Bt x.1 x.2) (evd_var rfl) evd_int (rd_ix rfl rfl)) (rd_mul (mulOk (sm_div sn) p2 (by decide)))) ⟨_, rfl⟩
  · rintro rr ⟨y, rfl⟩
    rw [List.take_length]
    exact st_ret (evd_var rfl) rfl

theorem body_l_first {K : PySem.W.Frag} : BodyD K 3 (t_l_first K) R_l_first := by
  rintro ds o b E ⟨bs, m, rfl, B, rfl⟩ _
  refine st_seq (st_forT (xs := List.range bs.length) (fun i => .int (i : Nat)) (js := [2]) (f := fun x r => r.set 2 (some (.dat x))) ?_ (fun _ _ => gt_name)
    (fun i rr => firstR m bs 0 = firstR m (bs.drop i) i ∧ ∃ y2, rr = [some (.dat (LB bs)), some (.dat (.int m)), y2]) ⟨rfl, _, rfl⟩ ?_ ?_)
  · rw [show (List.range bs.length) = (List.range ((((bs.map bD).length : Nat) : Int)).toNat) by rw [List.length_map] <;> rfl]
    refine src_rng1 ?_ (by omega) (by rw [List.length_map]; have := B.n; omega)
    wtm_at "ev"
  · rintro s i x rr hx ⟨e, y2, rfl⟩
    have hi := (List.getElem?_eq_some_iff.mp hx).1
    rw [List.length_range] at hi
    rw [List.getElem?_range hi] at hx
    cases hx
    have hxi : bs[i]? = some bs[i] := List.getElem?_eq_getElem hi
    obtain ⟨p1, _, p3, p4⟩ := B.p bs[i] (List.getElem_mem hi)
    rw [drop_cons hxi] at e
    generalize bs[i] = d at *
    have dc : decide ((m - d.1) % d.2 = 0) = decide (m % d.2 = d.1) := by
      have := due_iff (m := m) (f := d.1) (g := d.2)
      rw [Int.emod_eq_of_lt p3 p4] at this
      exact this.symm
    have at_ : ∀ {ρ : Rho} (bb : Bs), EvD K bb (tVar 0) ρ (LB bs) → EvD K bb (tVar 2) ρ (.int (i : Nat)) → EvD K bb (tOp (rIx K) (tVar 0) (tVar 2)) ρ (Bt d.1 d.2) := fun bb h1 h2 => evd_op h1 h2 (rd_ix rfl (lb_at hxi))
    refine st_if (c := decide (m % d.2 = d.1)) (evb_is (c := decide ((m - d.1) % d.2 = 0)) (evb_test (evd_op (evd_op (evd_op (evd_var rfl) (evd_op (at_ _ (evd_var rfl) (evd_var rfl)) evd_int (rd_ix rfl rfl)) rd_sub) (evd_op (at_ _ (evd_var rfl) (evd_var rfl)) evd_int (rd_ix rfl rfl)) (rd_mod p1)) evd_int rd_eqI)) dc) (fun h => ?_) fun h => st_next ⟨?_, _, rfl⟩
    · refine st_ret (d := .int (i : Nat)) (evd_var rfl) ?_
      show Out.ret (oD (firstR m bs 0)) = _
      rw [e]
      show Out.ret (oD (if m % d.2 = d.1 then some (i : Nat) else _)) = _
      rw [if_pos (of_decide_eq_true h)] <;> rfl
    · rw [e]
      show (if m % d.2 = d.1 then some ((i : Nat) : Int) else firstR m (bs.drop (i + 1)) (i + 1)) = _
      rw [if_neg (of_decide_eq_false h)]
  · rintro rr ⟨e, y2, rfl⟩
    rw [List.length_range, List.drop_length] at e
    refine st_ret evd_non ?_
    show Out.ret (oD (firstR m bs 0)) = _
    rw [e] <;> rfl

theorem body_l_same {K : PySem.W.Frag} : BodyD K 2 (t_l_same K) R_l_same := by
  rintro ds o b E ⟨x, rfl, rfl⟩ _
  cases x with
  | none =>
    refine st_seq (st_if (c := isNon .non) (evb_B (evd_isN (d := .non) (evd_var rfl) (rep_non rfl))) (fun _ => ?_) fun h => nomatch h)
    exact st_ret (d := .bl (isNon .non)) (evd_isN (d := .non) (evd_var rfl) (rep_non rfl)) rfl
  | some v =>
    refine st_seq (st_if (c := isNon (.int v)) (evb_B (evd_isN (d := .int v) (evd_var rfl) (rep_non rfl))) (fun h => nomatch h) fun _ => st_next ?_)
    refine st_ret (d := .bl true) (evd_is (d := .bl (true && decide (v = v))) (evd_andV (evd_call (ds := [.int v]) (eva_cons (evd_var rfl) eva_nil) r_l_whole) fun _ => evd_op (d := .int v) (e := .int v) (evd_var rfl) (evd_var rfl) rd_eqI) (by rw [decide_eq_true rfl] <;> rfl)) rfl

theorem body_l_kinds {K : PySem.W.Frag} {a : Addr} {cls : Value} {d : Option Addr} : BodyD K 2 (t_l_kinds K a cls d) (R_l_kinds K a cls d) := by
  rintro ds o b E ⟨xx, rfl, rfl, rfl, rfl⟩ _
  have ok := exB_ok xx (x := "TooMany") (by decide)
  refine st_seq (st_set (d := .lst [.bl true, .bl true, .bl false, .bl false]) (evd_lst (eva_cons (evd_cb (eva_cons (evd_var rfl) (eva_cons evd_obj eva_nil)) (cd_isXt ok.c ok.v)) (eva_cons (evd_cb (eva_cons (evd_var rfl) (eva_cons evd_obj eva_nil)) (cd_isXr ok.c (ok.k "TooMany" (by decide)))) (eva_cons (evd_cb (eva_cons (evd_var rfl) (eva_cons evd_obj eva_nil)) (cd_isXr ok.c (ok.k "NoBeat" (by decide)))) (eva_cons (evd_cb (eva_cons (evd_var rfl) (eva_cons evd_obj eva_nil)) (cd_isXr ok.c (ok.k "NoBell" (by decide)))) eva_nil)))) (by decide)) ?_)
  exact st_ret (d := kindsD) (evd_op (evd_var rfl) (evd_lst (ds := [.bl false, .bl false, .bl false]) (eva_cons (evd_cb (eva_cons (evd_var rfl) (eva_cons evd_obj eva_nil)) (cd_isXr ok.c (ok.k "Twice" (by decide)))) (eva_cons (evd_cb (eva_cons (evd_var rfl) (eva_cons evd_obj eva_nil)) (cd_isXr ok.c (ok.k "NoName" (by decide)))) (eva_cons (evd_cb (eva_cons (evd_var rfl) (eva_cons evd_obj eva_nil)) (cd_isXr ok.c (ok.k "Clash" (by decide)))) eva_nil))) (by decide)) (rd_addL (by decide))) rfl

theorem body_l_refused {K : PySem.W.Frag} (xx : exK K = true) : BodyD K 6 (t_l_refused K) R_l_refused := by
  rintro ds o b E ⟨bs, rfl, B, hm, rfl⟩ _
  have ok := exB_ok xx (x := "TooMany") (by decide)
  refine st_seq (st_set (d := .lst []) (evd_lst eva_nil (by decide)) ?_)
  refine st_seq (st_set (d := .lst []) (evd_lst eva_nil (by decide)) ?_)
  refine st_seq (st_set (d := LB bs) (evd_f (evf_listOf (d := LB bs) (evd_var rfl) rfl)) ?_)
  refine st_seq (st_try_drop (ds := [LB bs]) (cls := .ref (He.ga K "TooMany")) (eva_cons (evd_var rfl) eva_nil) ⟨bs, rfl, B, .inr ⟨hm, rfl⟩⟩ ok.base fun a => st_set (d := kindsD) (evd_call (ds := [.obj (.ref a)]) (eva_cons (evd_var rfl) eva_nil) ⟨xx, rfl, rfl, rfl, rfl⟩) ?_)
  refine st_seq (st_try_drop (ds := [LB bs]) (cls := .ref (He.ga K "TooMany")) (eva_cons (evd_var rfl) eva_nil) ⟨bs, rfl, B, .inr ⟨hm, rfl⟩⟩ ok.base fun a => st_set (d := kindsD) (evd_call (ds := [.obj (.ref a)]) (eva_cons (evd_var rfl) eva_nil) ⟨xx, rfl, rfl, rfl, rfl⟩) ?_)
  refine st_seq (st_set (d := kindsD) ?_ ?_)
  · wtm_at "ev"
  refine st_ret (d := .bl true) (evd_is (d := .bl (PyData.eqv kindsD.py kindsD.py && (PyData.eqv kindsD.py kindsD.py && PyData.eqv (LB bs).py (LB bs).py))) (evd_andV (evd_op (evd_var rfl) (evd_var rfl) (rd_eqD (by decide +kernel) (by decide +kernel))) fun _ => evd_andV (evd_op (evd_var rfl) (evd_var rfl) (rd_eqD (by decide +kernel) (by decide +kernel))) fun _ => evd_op (evd_var rfl) (evd_var rfl) (rd_eqD (lb_ok bs) (lb_ok bs))) ?_) rfl
  rw [lb_eq, show PyData.eqv kindsD.py kindsD.py = true by decide +kernel] <;> rfl

theorem body_l_rolled {K : PySem.W.Frag} : BodyD K 3 (t_l_rolled K) R_l_rolled := by
  rintro ds o b E ⟨os, rfl, hl, rfl⟩ _
  refine st_seq (st_if (c := false) (evb_is (c := !true || !decide (((os.map oD).length : Int) = ((os.map oD).length : Int))) ?_ (by rw [decide_eq_true rfl] <;> rfl)) (fun h => nomatch h) fun _ => st_next ?_)
  · wtm_at "ev"
  refine st_seq (st_forT (xs := List.range os.length) (fun i => .int (i : Nat)) (js := [2]) (f := fun x r => r.set 2 (some (.dat x))) ?_ (fun _ _ => gt_name)
    (fun i rr => ∃ y2, rr = [some (.dat (.lst (os.map oD))), some (.dat (.lst (os.map oD))), y2]) ⟨_, rfl⟩ ?_ ?_)
  · rw [show (List.range os.length) = (List.range ((((os.map oD).length : Nat) : Int)).toNat) by rw [List.length_map] <;> rfl]
    refine src_rng1 ?_ (by omega) (by rw [List.length_map]; omega)
    wtm_at "ev"
  · rintro s i x rr hx ⟨y2, rfl⟩
    have hi := (List.getElem?_eq_some_iff.mp hx).1
    rw [List.length_range] at hi
    rw [List.getElem?_range hi] at hx
    cases hx
    have hxi : (os.map oD)[i]? = some (oD os[i]) := by rw [List.getElem?_map, List.getElem?_eq_getElem hi] <;> rfl
    exact st_if (c := !true) (evb_not (evb_B (evd_call (ds := [oD os[i], oD os[i]]) (eva_cons (evd_op (d := .lst (os.map oD)) (evd_var rfl) (evd_var rfl) (rd_ix rfl (atI_nat hxi))) (eva_cons (evd_op (d := .lst (os.map oD)) (evd_var rfl) (evd_var rfl) (rd_ix rfl (atI_nat hxi))) eva_nil)) r_l_same))) (fun h => nomatch h) fun _ => st_next ⟨_, rfl⟩
  · rintro rr ⟨y2, rfl⟩
    exact st_ret evd_bl rfl

theorem body_law {K : PySem.W.Frag} : BodyD K 7 (t_law K) R_law := by
  rintro ds o b E ⟨ns, rfl, hl, rfl⟩ _
  refine st_seq (st_set (d := LB (beatsR ns)) ?_ ?_)
  · wtm_at "ev"
  have B := beatsR_ok ns
  generalize beatsR ns = bs at B
  have hp := comG_pos B
  refine st_seq (st_set (d := .int (comG bs)) (evd_call (ds := [LB bs]) (eva_cons (evd_var rfl) eva_nil) (r_l_common B)) ?_)
  refine st_seq (st_set (d := LB bs) (evd_f (evf_listOf (d := LB bs) (evd_var rfl) rfl)) ?_)
  refine st_seq (st_if (c := false) (evb_is (c := !true || !PyData.eqv (LB bs).py (LB bs).py) (evb_or (evb_not (evb_B (evd_call (ds := [oD (some (comG bs)), oD (some (comG bs))]) (eva_cons (evd_call (ds := [LB bs]) (eva_cons (evd_var rfl) eva_nil) (r_common_gap B)) (eva_cons (evd_var rfl) eva_nil)) r_l_same))) fun _ => evb_test (evd_op (evd_var rfl) (evd_var rfl) (rd_neD (lb_ok bs) (lb_ok bs)))) (by rw [lb_eq] <;> rfl)) (fun h => nomatch h) fun _ => st_next ?_)
  refine st_seq (st_if (c := decide (1000 < comG bs)) ?_ (fun h => ?_) fun h => st_next ?_)
  · wtm_at "ev"
  · exact st_ret (evd_call (ds := [LB bs]) (eva_cons (evd_var rfl) eva_nil) (r_l_refused B (of_decide_eq_true h))) rfl
  have h2 : comG bs ≤ 1000 := by have := of_decide_eq_false h; omega
  have rl : (rollS bs).length ≤ 1000 := by
    unfold rollS
    rw [List.length_map, List.length_range]
    omega
  refine st_seq (st_set (d := .lst ((rollS bs).map oD)) (evd_f ?_) ?_)
  · unfold rollS
    rw [List.map_map]
    refine evf_lcT0 (xs := List.range (comG bs).toNat) (fun i => .int (i : Nat)) inj_nat (js := [6]) (f := fun x r => r.set 6 (some (.dat x))) _ (src_rng1 (eva_cons (evd_var rfl) eva_nil) (by omega) (by omega)) (fun _ _ => gt_name) (fun _ q => q) (by rw [List.length_range]; omega) fun i hi => ?_
    exact evd_call (ds := [LB bs, .int (i : Nat)]) (eva_cons (evd_var rfl) (eva_cons (evd_var rfl) eva_nil)) (r_l_first B)
  have hroll : ∀ {ρ : Rho} (bb : Bs), EvD K bb (tVar 3) ρ (LB bs) → EvD K bb (tCall (spD K (R_roll K)) [] E0 (tCons (tVar 3) tNil)) ρ (.lst ((rollS bs).map oD)) := fun bb h => evd_call (ds := [LB bs]) (eva_cons h eva_nil) ⟨bs, rfl, B, .inl ⟨h2, rfl⟩⟩
  have hsil : ∀ {ρ : Rho} (bb : Bs), EvD K bb (tVar 3) ρ (LB bs) → EvD K bb (tCall (spD K (R_silent K)) [] E0 (tCons (tVar 3) tNil)) ρ (oD (silR (rollS bs) 0)) := fun bb h => evd_call (ds := [LB bs]) (eva_cons h eva_nil) ⟨bs, rfl, B, .inl ⟨h2, rfl⟩⟩
  generalize rollS bs = os at hroll hsil rl
  refine st_seq (st_if (c := false) (evb_is (c := !true || !PyData.eqv (LB bs).py (LB bs).py) (evb_or (evb_not (evb_B (evd_call (ds := [.lst (os.map oD), .lst (os.map oD)]) (eva_cons (hroll _ (evd_var rfl)) (eva_cons (evd_var rfl) eva_nil)) (r_l_rolled rl)))) fun _ => evb_test (evd_op (evd_var rfl) (evd_var rfl) (rd_neD (lb_ok bs) (lb_ok bs)))) (by rw [lb_eq] <;> rfl)) (fun h => nomatch h) fun _ => st_next ?_)
  refine st_seq (st_set (d := .non) evd_non ?_)
  refine st_join (fun r => r = [some (.dat (.fro (ns.map D.int))), some (.dat (LB bs)), some (.dat (.int (comG bs))), some (.dat (LB bs)), some (.dat (.lst (os.map oD))), some (.dat (oD (silR os 0))), none]) (st_if (c := decide (none ∈ os)) (evb_test (evd_op evd_non (evd_var rfl) rd_inN)) (fun h => ?_) fun h => st_next ?_) ?_
  · have h' := of_decide_eq_true h
    rcases silR_spec os 0 with ⟨_, no⟩ | ⟨j, e1, e2, e3⟩
    · exact absurd h' no
    · rw [e1, Nat.zero_add]
      exact st_set (evd_indexN (evd_var rfl) e2 e3) rfl
  · have h' := of_decide_eq_false h
    rcases silR_spec os 0 with ⟨e1, _⟩ | ⟨j, _, e2, _⟩
    · rw [e1] <;> rfl
    · exact absurd (List.mem_of_getElem? e2) h'
  rintro _ rfl
  exact st_ret (evd_is (d := .bl (true && PyData.eqv (LB bs).py (LB bs).py)) (evd_andV (evd_call (ds := [oD (silR os 0), oD (silR os 0)]) (eva_cons (hsil _ (evd_var rfl)) (eva_cons (evd_var rfl) eva_nil)) r_l_same) fun _ => evd_op (evd_var rfl) (evd_var rfl) (rd_eqD (lb_ok bs) (lb_ok bs))) (by rw [lb_eq] <;> rfl)) rfl

section
variable {P : Program} {w : World} {K : PySem.W.Frag} {mg : Str → Option Value} {base h : Heap}
theorem c_rings (X : K.In h) (G : h.Ns mainGlobals mg) (c : He.SaysD fa fn K) (xx : exK K = true)  : Cal P w K mg base 1 "rings" ["one", "moment"] (spD K R_rings) := by
  obtain ⟨fd, F⟩ := c.def_ 0 (d := d_rings) rfl
  have g0 := He.glo_ok X G (c.fact 0 (f := .glo "rings") rfl)
  refine Cal.mk' (f := He.fAd K ("rings", none)) (fd := fd) g0 F.kp (FunD.bindsN F fun _ _ _ _ _ _ us hl => match us, hl with | [_, _], _ => rfl) (FunD.ok F sc_rings (spD_len len_rings) fun cdv A outer s H vs Q E hr hsp => ⟨t_rings K E, ?_, body_pure (N := ["one", "moment"]) body_rings rfl vs H Q E hsp⟩)
  exact PSs.nox (pss_one (ps_ret (pe_cmpR (op_eqA hr.units) (pe_op op_mod (pv 1) (pe_ix ix_seq (pv 0) pe_int (fun _ _ => rfl))) (pe_ix ix_seq (pv 0) pe_int (fun _ _ => rfl)) (nomark _))))
theorem c_weights (X : K.In h) (G : h.Ns mainGlobals mg) (c : He.SaysD fa fn K) (xx : exK K = true)  : Cal P w K mg base 1 "weights" ["one", "other"] (spD K R_weights) := by
  obtain ⟨fd, F⟩ := c.def_ 1 (d := d_weights) rfl
  have g0 := He.glo_ok X G (c.fact 1 (f := .glo "weights") rfl)
  refine Cal.mk' (f := He.fAd K ("weights", none)) (fd := fd) g0 F.kp (FunD.bindsN F fun _ _ _ _ _ _ us hl => match us, hl with | [_, _], _ => rfl) (FunD.ok F sc_weights (spD_len len_weights) fun cdv A outer s H vs Q E hr hsp => ⟨t_weights K E, ?_, body_pure (N := ["one", "other", "here", "u", "v", "there", "other_u", "other_v", "by"]) body_weights rfl vs H Q E hsp⟩)
  exact PSs.nox (pss_cons (ps_set (i := 2) sc_weights.nd rfl (.inl rfl) (pv 0))
      (pss_cons (ps_set (i := 3) sc_weights.nd rfl (.inl rfl) pe_int)
      (pss_cons (ps_set (i := 4) sc_weights.nd rfl (.inl rfl) pe_int)
      (pss_cons (ps_set (i := 5) sc_weights.nd rfl (.inl rfl) (pv 1))
      (pss_cons (ps_set (i := 6) sc_weights.nd rfl (.inl rfl) pe_int)
      (pss_cons (ps_set (i := 7) sc_weights.nd rfl (.inl rfl) pe_int)
      (pss_cons (ps_while PassesOwn.never (pt_cmpR (op_neA hr.units) (pv 5) pe_int (nomark _)) (pss_cons (ps_set (i := 8) sc_weights.nd rfl (.inl rfl) (pe_op op_divI (pv 2) (pv 5)))
      (pss_cons (ps_par (i := 2) (j := 5) rfl sc_weights.nd rfl rfl (by decide) rfl rfl (pa_cons (pv 5) (pa_cons (pe_op op_sub (pv 2) (pe_op op_mulI (pv 8) (pv 5))) pa_nil)) (by rfl))
      (pss_cons (ps_par (i := 3) (j := 6) rfl sc_weights.nd rfl rfl (by decide) rfl rfl (pa_cons (pv 6) (pa_cons (pe_op op_sub (pv 3) (pe_op op_mulI (pv 8) (pv 6))) pa_nil)) (by rfl))
      (pss_one (ps_par (i := 4) (j := 7) rfl sc_weights.nd rfl rfl (by decide) rfl rfl (pa_cons (pv 7) (pa_cons (pe_op op_sub (pv 4) (pe_op op_mulI (pv 8) (pv 7))) pa_nil)) (by rfl)))))))
      (pss_cons (ps_if (pt_cmpR op_lt (pv 2) pe_int (nomark _)) (pss_one (ps_ret (pe_tup (pa_cons (pe_op op_sub pe_int (pv 2)) (pa_cons (pe_op op_sub pe_int (pv 3)) (pa_cons (pe_op op_sub pe_int (pv 4)) pa_nil)))))) pss_nil)
      (pss_one (ps_ret (pe_tup (pa_cons (pv 2) (pa_cons (pv 3) (pa_cons (pv 4) pa_nil))))))))))))))
theorem c_common_gap (X : K.In h) (G : h.Ns mainGlobals mg) (c : He.SaysD fa fn K) (xx : exK K = true) (C_weights : Cal P w K mg base 1 "weights" ["one", "other"] (spD K R_weights)) : Cal P w K mg base 2 "common_gap" ["beats"] (spD K R_common_gap) := by
  obtain ⟨fd, F⟩ := c.def_ 2 (d := d_common_gap) rfl
  have g0 := He.glo_ok X G (c.fact 2 (f := .glo "common_gap") rfl)
  refine Cal.mk' (f := He.fAd K ("common_gap", none)) (fd := fd) g0 F.kp (FunD.bindsN F fun _ _ _ _ _ _ us hl => match us, hl with | [_], _ => rfl) (FunD.ok F sc_common_gap (spD_len len_common_gap) fun cdv A outer s H vs Q E hr hsp => ⟨t_common_gap K E, ?_, body_pure (N := ["beats", "gap", "one"]) body_common_gap rfl vs H Q E hsp⟩)
  exact PSs.nox (pss_cons (ps_set (i := 1) sc_common_gap.nd rfl (.inl rfl) pe_int)
      (pss_cons (ps_for PassesOwn.never rfl (pi_seq (pv 0)) (pg_name (i := 2) sc_common_gap.nd rfl (.inl rfl)) (pss_one (ps_set (i := 1) sc_common_gap.nd rfl (.inl rfl) (pe_op op_mulI (pe_op op_divI (pv 1) (pe_ix ix_seq (pe_callC C_weights (hr.mono (by decide)) (by rfl) (pa_cons (pv 1) (pa_cons (pe_ix ix_seq (pv 2) pe_int (fun _ _ => rfl)) pa_nil))) pe_int (fun _ _ => rfl))) (pe_ix ix_seq (pv 2) pe_int (fun _ _ => rfl))))))
      (pss_one (ps_ret (pv 1)))))
theorem c_first_of (X : K.In h) (G : h.Ns mainGlobals mg) (c : He.SaysD fa fn K) (xx : exK K = true) (C_rings : Cal P w K mg base 1 "rings" ["one", "moment"] (spD K R_rings)) : Cal P w K mg base 2 "first_of" ["beats", "moment"] (spD K R_first_of) := by
  obtain ⟨fd, F⟩ := c.def_ 3 (d := d_first_of) rfl
  have g0 := He.glo_ok X G (c.fact 3 (f := .glo "first_of") rfl)
  have z_enumerate := He.free_ok X G (c.fact 18 (f := .free "enumerate") rfl)
  refine Cal.mk' (f := He.fAd K ("first_of", none)) (fd := fd) g0 F.kp (FunD.bindsN F fun _ _ _ _ _ _ us hl => match us, hl with | [_, _], _ => rfl) (FunD.ok F sc_first_of (spD_len len_first_of) fun cdv A outer s H vs Q E hr hsp => ⟨t_first_of K E, ?_, body_pure (N := ["beats", "moment", "number", "one"]) body_first_of rfl vs H Q E hsp⟩)
  exact PSs.nox (pss_cons (ps_for PassesOwn.never rfl (pi_enum (by rfl) z_enumerate (pa_cons (pv 0) pa_nil)) (pg_tup rfl (pgs_cons (pg_name (i := 2) sc_first_of.nd rfl (.inl rfl)) (pgs_cons (pg_name (i := 3) sc_first_of.nd rfl (.inl rfl)) pgs_nil))) (pss_one (ps_if (pt_val (pe_callC C_rings (hr.mono (by decide)) (by rfl) (pa_cons (pv 3) (pa_cons (pv 1) pa_nil)))) (pss_one (ps_ret (pv 2))) pss_nil)))
      (pss_one (ps_ret pe_non)))
theorem c_roll (X : K.In h) (G : h.Ns mainGlobals mg) (c : He.SaysD fa fn K) (xx : exK K = true) (C_common_gap : Cal P w K mg base 2 "common_gap" ["beats"] (spD K R_common_gap)) (C_first_of : Cal P w K mg base 2 "first_of" ["beats", "moment"] (spD K R_first_of)) : Cal P w K mg base 3 "roll" ["beats"] (spD K (R_roll K)) := by
  obtain ⟨fd, F⟩ := c.def_ 4 (d := d_roll) rfl
  have g0 := He.glo_ok X G (c.fact 4 (f := .glo "roll") rfl)
  have z_range := He.free_ok X G (c.fact 19 (f := .free "range") rfl)
  obtain ⟨tk_MOST_MOMENTS, i_MOST_MOMENTS⟩ := He.int_ok X G (c.fact 20 (f := .int "MOST_MOMENTS" 1000) rfl)
  have e_TooMany := excC X G (c.fact 21 (f := .glo "TooMany") rfl) (c.fact 22 (f := .exc "TooMany") rfl)
  refine Cal.mk' (f := He.fAd K ("roll", none)) (fd := fd) g0 F.kp (FunD.bindsN F fun _ _ _ _ _ _ us hl => match us, hl with | [_], _ => rfl) (FunD.ok F sc_roll (spD_len len_roll) fun cdv A outer s H vs Q E hr hsp => ⟨t_roll K E, ?_, body_pure (N := ["beats", "gap", "moment"]) body_roll rfl vs H Q E hsp⟩)
  exact (pss_cons (ps_set (i := 1) sc_roll.nd rfl (.inl rfl) (pe_callC C_common_gap (hr.mono (by decide)) (by rfl) (pa_cons (pv 0) pa_nil)))
      (pss_cons (ps_if (pt_cmpR op_gt (pv 1) (pe_glob (v := .int 1000) (by rfl) i_MOST_MOMENTS ⟨_, rfl⟩) (nomark _)) (pss_one (ps_raiseC e_TooMany rfl (takes_of rfl rfl rfl rfl) (by rfl))) pss_nil)
      (pss_one (ps_ret (pe_lcV [("moment", 2)] [2] rfl rfl sc_roll.nd (pi_range1 (by rfl) z_range (pa_cons (pv 1) pa_nil)) (blkOk_by (own := [("moment", 2)]) (N := ["beats", "gap", "moment"]) (sc := defScope s_roll) (by decide +kernel)) (fun _ _ _ _ _ => (pg_name (i := 2) sc_roll.nd rfl (by first | exact .inl rfl | exact .inr rfl))) (fun _ _ _ _ _ => pts_nil) (fun _ _ _ _ _ => (pe_callC C_first_of (hr.mono (by decide)) (by rfl) (pa_cons (pv 0) (pa_cons (pv 2) pa_nil)))))))))
theorem c_silent (X : K.In h) (G : h.Ns mainGlobals mg) (c : He.SaysD fa fn K) (xx : exK K = true) (C_roll : Cal P w K mg base 3 "roll" ["beats"] (spD K (R_roll K))) : Cal P w K mg base 4 "silent" ["beats"] (spD K (R_silent K)) := by
  obtain ⟨fd, F⟩ := c.def_ 5 (d := d_silent) rfl
  have g0 := He.glo_ok X G (c.fact 5 (f := .glo "silent") rfl)
  have z_enumerate := He.free_ok X G (c.fact 18 (f := .free "enumerate") rfl)
  refine Cal.mk' (f := He.fAd K ("silent", none)) (fd := fd) g0 F.kp (FunD.bindsN F fun _ _ _ _ _ _ us hl => match us, hl with | [_], _ => rfl) (FunD.ok F sc_silent (spD_len len_silent) fun cdv A outer s H vs Q E hr hsp => ⟨t_silent K E, ?_, body_pure (N := ["beats", "moment", "number"]) body_silent rfl vs H Q E hsp⟩)
  exact (pss_cons (ps_for (passes_of rfl) rfl (pi_enum (by rfl) z_enumerate (pa_cons (pe_callCX C_roll (hr.mono (by decide)) (by rfl) (takes_of rfl rfl rfl rfl) (pa_cons (pv 0) pa_nil)) pa_nil)) (pg_tup rfl (pgs_cons (pg_name (i := 1) sc_silent.nd rfl (.inl rfl)) (pgs_cons (pg_name (i := 2) sc_silent.nd rfl (.inl rfl)) pgs_nil))) (pss_one (ps_if (pt_cmp (pc_isN (pv 2))) (pss_one (ps_ret (pv 1))) pss_nil)))
      (pss_one (ps_ret pe_non)))
theorem c_l_cell_at (X : K.In h) (G : h.Ns mainGlobals mg) (c : He.SaysD fa fn K) (xx : exK K = true)  : Cal P w K mg base 1 "_law_cell_at" ["_law_script", "_law_k"] (spD K R_l_cell_at) := by
  obtain ⟨fd, F⟩ := c.def_ 6 (d := d_l_cell_at) rfl
  have g0 := He.glo_ok X G (c.fact 6 (f := .glo "_law_cell_at") rfl)
  have z_len := He.free_ok X G (c.fact 23 (f := .free "len") rfl)
  refine Cal.mk' (f := He.fAd K ("_law_cell_at", none)) (fd := fd) g0 F.kp (FunD.bindsN F fun _ _ _ _ _ _ us hl => match us, hl with | [_, _], _ => rfl) (FunD.ok F sc_l_cell_at (spD_len len_l_cell_at) fun cdv A outer s H vs Q E hr hsp => ⟨t_l_cell_at K E, ?_, body_pure (N := ["_law_script", "_law_k"]) body_l_cell_at rfl vs H Q E hsp⟩)
  exact PSs.nox (pss_cons (ps_if (pt_cmpR op_lt (pv 1) (pe_callB call_len (by rfl) z_len (by decide +kernel) (pa_cons (pv 0) pa_nil)) (nomark _)) (pss_one (ps_ret (pe_ix ix_seq (pv 0) (pv 1) (fun _ _ => rfl)))) pss_nil)
      (pss_one (ps_ret pe_int)))
theorem c_l_whole (X : K.In h) (G : h.Ns mainGlobals mg) (c : He.SaysD fa fn K) (xx : exK K = true)  : Cal P w K mg base 1 "_law_whole" ["_law_found"] (spD K R_l_whole) := by
  obtain ⟨fd, F⟩ := c.def_ 7 (d := d_l_whole) rfl
  have g0 := He.glo_ok X G (c.fact 7 (f := .glo "_law_whole") rfl)
  have z_bool := He.free_ok X G (c.fact 24 (f := .free "bool") rfl)
  have z_int := He.free_ok X G (c.fact 25 (f := .free "int") rfl)
  have z_isinstance := He.free_ok X G (c.fact 26 (f := .free "isinstance") rfl)
  refine Cal.mk' (f := He.fAd K ("_law_whole", none)) (fd := fd) g0 F.kp (FunD.bindsN F fun _ _ _ _ _ _ us hl => match us, hl with | [_], _ => rfl) (FunD.ok F sc_l_whole (spD_len len_l_whole) fun cdv A outer s H vs Q E hr hsp => ⟨t_l_whole K E, ?_, body_pure (N := ["_law_found"]) body_l_whole rfl vs H Q E hsp⟩)
  exact PSs.nox (pss_one (ps_ret (pe_and (pe_callB call_isi (by rfl) z_isinstance (by decide +kernel) (pa_cons (pv 0) (pa_cons (pe_bltn (v := .ty "int") (u := .type "int") (by rfl) z_int (by decide +kernel) rfl) pa_nil))) (pe_one (pe_not (pe_callB call_isi (by rfl) z_isinstance (by decide +kernel) (pa_cons (pv 0) (pa_cons (pe_bltn (v := .ty "bool") (u := .type "bool") (by rfl) z_bool (by decide +kernel) rfl) pa_nil))))))))
theorem c_l_divisor (X : K.In h) (G : h.Ns mainGlobals mg) (c : He.SaysD fa fn K) (xx : exK K = true)  : Cal P w K mg base 1 "_law_divisor" ["_law_one", "_law_other"] (spD K R_l_divisor) := by
  obtain ⟨fd, F⟩ := c.def_ 8 (d := d_l_divisor) rfl
  have g0 := He.glo_ok X G (c.fact 8 (f := .glo "_law_divisor") rfl)
  refine Cal.mk' (f := He.fAd K ("_law_divisor", none)) (fd := fd) g0 F.kp (FunD.bindsN F fun _ _ _ _ _ _ us hl => match us, hl with | [_, _], _ => rfl) (FunD.ok F sc_l_divisor (spD_len len_l_divisor) fun cdv A outer s H vs Q E hr hsp => ⟨t_l_divisor K E, ?_, body_pure (N := ["_law_one", "_law_other"]) body_l_divisor rfl vs H Q E hsp⟩)
  exact PSs.nox (pss_cons (ps_while PassesOwn.never (pt_cmpR (op_neA hr.units) (pv 1) pe_int (nomark _)) (pss_one (ps_par (i := 0) (j := 1) rfl sc_l_divisor.nd rfl rfl (by decide) rfl rfl (pa_cons (pv 1) (pa_cons (pe_op op_mod (pv 0) (pv 1)) pa_nil)) (by rfl))))
      (pss_one (ps_ret (pv 0))))
theorem c_l_round (X : K.In h) (G : h.Ns mainGlobals mg) (c : He.SaysD fa fn K) (xx : exK K = true)  : Cal P w K mg base 1 "_law_round" ["_law_cell"] (spD K R_l_round) := by
  obtain ⟨fd, F⟩ := c.def_ 9 (d := d_l_round) rfl
  have g0 := He.glo_ok X G (c.fact 9 (f := .glo "_law_round") rfl)
  refine Cal.mk' (f := He.fAd K ("_law_round", none)) (fd := fd) g0 F.kp (FunD.bindsN F fun _ _ _ _ _ _ us hl => match us, hl with | [_], _ => rfl) (FunD.ok F sc_l_round (spD_len len_l_round) fun cdv A outer s H vs Q E hr hsp => ⟨t_l_round K E, ?_, body_pure (N := ["_law_cell", "_law_number"]) body_l_round rfl vs H Q E hsp⟩)
  exact PSs.nox (pss_cons (ps_set (i := 1) sc_l_round.nd rfl (.inl rfl) (pe_op op_divI (pv 0) pe_int))
      (pss_cons (ps_if (pt_cmpR (op_eqA hr.units) (pe_op op_mod (pv 0) pe_int) pe_int (nomark _)) (pss_one (ps_ret (pe_ix ix_seq (pe_lst (pa_cons pe_int (pa_cons pe_int (pa_cons pe_int (pa_cons pe_int (pa_cons pe_int (pa_cons pe_int (pa_cons pe_int (pa_cons pe_int (pa_cons pe_int (pa_cons pe_int pa_nil))))))))))) (pe_op op_mod (pv 1) pe_int) (fun _ _ => rfl)))) pss_nil)
      (pss_cons (ps_if (pt_cmpR (op_eqA hr.units) (pe_op op_mod (pv 0) pe_int) pe_int (nomark _)) (pss_one (ps_ret (pe_op op_addA pe_int (pe_op op_mod (pv 1) pe_int)))) pss_nil)
      (pss_cons (ps_if (pt_cmpR (op_eqA hr.units) (pe_op op_mod (pv 0) pe_int) pe_int (nomark _)) (pss_one (ps_ret (pe_ix ix_seq (pe_lst (pa_cons pe_int (pa_cons pe_int (pa_cons pe_int (pa_cons pe_int (pa_cons pe_int (pa_cons pe_int (pa_cons pe_int (pa_cons pe_int pa_nil))))))))) (pe_op op_mod (pv 1) pe_int) (fun _ _ => rfl)))) pss_nil)
      (pss_one (ps_ret (pe_op op_addA pe_int (pe_op op_mod (pv 1) (pe_op op_pow pe_int pe_int)))))))))
theorem c_l_beats (X : K.In h) (G : h.Ns mainGlobals mg) (c : He.SaysD fa fn K) (xx : exK K = true) (C_l_round : Cal P w K mg base 1 "_law_round" ["_law_cell"] (spD K R_l_round)) (C_l_cell_at : Cal P w K mg base 1 "_law_cell_at" ["_law_script", "_law_k"] (spD K R_l_cell_at)) (C_l_divisor : Cal P w K mg base 1 "_law_divisor" ["_law_one", "_law_other"] (spD K R_l_divisor)) : Cal P w K mg base 2 "_law_beats" ["_law_script"] (spD K R_l_beats) := by
  obtain ⟨fd, F⟩ := c.def_ 10 (d := d_l_beats) rfl
  have g0 := He.glo_ok X G (c.fact 10 (f := .glo "_law_beats") rfl)
  refine Cal.mk' (f := He.fAd K ("_law_beats", none)) (fd := fd) g0 F.kp (FunD.bindsN F fun _ _ _ _ _ _ us hl => match us, hl with | [_], _ => rfl) (FunD.ok F sc_l_beats (spD_len len_l_beats) fun cdv A outer s H vs Q E hr hsp => ⟨t_l_beats K E, ?_, body_pure (N := ["_law_script", "_law_whole_here", "_law_cells", "_law_beats_here", "_law_cell", "_law_gap"]) body_l_beats rfl vs H Q E hsp⟩)
  exact PSs.nox (pss_cons (ps_set (i := 1) sc_l_beats.nd rfl (.inl rfl) (pe_callC C_l_round (hr.mono (by decide)) (by rfl) (pa_cons (pe_callC C_l_cell_at (hr.mono (by decide)) (by rfl) (pa_cons (pv 0) (pa_cons pe_int pa_nil))) pa_nil)))
      (pss_cons (ps_set (i := 2) sc_l_beats.nd rfl (.inl rfl) (pe_slice sl_list (pv 0) (po_some pe_int) (po_some pe_int)))
      (pss_cons (ps_if (pt_cmpR op_gt (pv 1) pe_int (nomark _)) (pss_one (ps_set (i := 2) sc_l_beats.nd rfl (.inl rfl) (pe_slice sl_list (pv 0) (po_some pe_int) (po_some pe_int)))) pss_nil)
      (pss_cons (ps_set (i := 3) sc_l_beats.nd rfl (.inl rfl) (pe_lst pa_nil))
      (pss_cons (ps_for PassesOwn.never rfl (pi_seq (pv 2)) (pg_name (i := 4) sc_l_beats.nd rfl (.inl rfl)) (pss_cons (ps_set (i := 5) sc_l_beats.nd rfl (.inl rfl) (pe_callC C_l_divisor (hr.mono (by decide)) (by rfl) (pa_cons (pv 1) (pa_cons (pe_op op_addA pe_int (pe_op op_mod (pe_op op_divI (pv 4) pe_int) pe_int)) pa_nil))))
      (pss_cons (ps_if (PW.pt (pw_or (pt_cmpR (op_eqA hr.units) (pe_op op_mod (pv 4) pe_int) pe_int (nomark _)) (pw_or1 (PW.pt (pw_and (pt_cmpR (op_eqA hr.units) (pv 5) pe_int (nomark _)) (pw_and1 (pt_cmpR op_gt (pe_op op_mod (pe_op op_divI (pv 4) pe_int) pe_int) pe_int (nomark _)))))))) (pss_one (ps_set (i := 5) sc_l_beats.nd rfl (.inl rfl) (pe_op op_divI (pv 1) (pv 5)))) pss_nil)
      (pss_one (ps_expr (pe_bm PySem.F.plainAttrs_list PySem.F.slot_list_append PySem.F.type_list_append mt_append (pv 3) (pa_cons (pe_tup (pa_cons (pe_op op_mod (pe_op op_mod (pe_op op_mulI (pv 4) pe_int) pe_int) (pv 5)) (pa_cons (pv 5) pa_nil))) pa_nil)))))))
      (pss_one (ps_ret (pv 3))))))))
theorem c_l_common (X : K.In h) (G : h.Ns mainGlobals mg) (c : He.SaysD fa fn K) (xx : exK K = true) (C_l_divisor : Cal P w K mg base 1 "_law_divisor" ["_law_one", "_law_other"] (spD K R_l_divisor)) : Cal P w K mg base 2 "_law_common" ["_law_beats_here"] (spD K R_l_common) := by
  obtain ⟨fd, F⟩ := c.def_ 11 (d := d_l_common) rfl
  have g0 := He.glo_ok X G (c.fact 11 (f := .glo "_law_common") rfl)
  refine Cal.mk' (f := He.fAd K ("_law_common", none)) (fd := fd) g0 F.kp (FunD.bindsN F fun _ _ _ _ _ _ us hl => match us, hl with | [_], _ => rfl) (FunD.ok F sc_l_common (spD_len len_l_common) fun cdv A outer s H vs Q E hr hsp => ⟨t_l_common K E, ?_, body_pure (N := ["_law_beats_here", "_law_common_here", "_law_one"]) body_l_common rfl vs H Q E hsp⟩)
  exact PSs.nox (pss_cons (ps_set (i := 1) sc_l_common.nd rfl (.inl rfl) pe_int)
      (pss_cons (ps_for PassesOwn.never rfl (pi_seq (pv 0)) (pg_name (i := 2) sc_l_common.nd rfl (.inl rfl)) (pss_one (ps_set (i := 1) sc_l_common.nd rfl (.inl rfl) (pe_op op_mulI (pe_op op_divI (pv 1) (pe_callC C_l_divisor (hr.mono (by decide)) (by rfl) (pa_cons (pv 1) (pa_cons (pe_ix ix_seq (pv 2) pe_int (fun _ _ => rfl)) pa_nil)))) (pe_ix ix_seq (pv 2) pe_int (fun _ _ => rfl))))))
      (pss_one (ps_ret (pv 1)))))
theorem c_l_first (X : K.In h) (G : h.Ns mainGlobals mg) (c : He.SaysD fa fn K) (xx : exK K = true)  : Cal P w K mg base 1 "_law_first" ["_law_beats_here", "_law_moment"] (spD K R_l_first) := by
  obtain ⟨fd, F⟩ := c.def_ 12 (d := d_l_first) rfl
  have g0 := He.glo_ok X G (c.fact 12 (f := .glo "_law_first") rfl)
  have z_len := He.free_ok X G (c.fact 23 (f := .free "len") rfl)
  have z_range := He.free_ok X G (c.fact 19 (f := .free "range") rfl)
  refine Cal.mk' (f := He.fAd K ("_law_first", none)) (fd := fd) g0 F.kp (FunD.bindsN F fun _ _ _ _ _ _ us hl => match us, hl with | [_, _], _ => rfl) (FunD.ok F sc_l_first (spD_len len_l_first) fun cdv A outer s H vs Q E hr hsp => ⟨t_l_first K E, ?_, body_pure (N := ["_law_beats_here", "_law_moment", "_law_k"]) body_l_first rfl vs H Q E hsp⟩)
  exact PSs.nox (pss_cons (ps_for PassesOwn.never rfl (pi_range1 (by rfl) z_range (pa_cons (pe_callB call_len (by rfl) z_len (by decide +kernel) (pa_cons (pv 0) pa_nil)) pa_nil)) (pg_name (i := 2) sc_l_first.nd rfl (.inl rfl)) (pss_one (ps_if (pt_cmpR (op_eqA hr.units) (pe_op op_mod (pe_op op_sub (pv 1) (pe_ix ix_seq (pe_ix ix_seq (pv 0) (pv 2) (fun _ _ => rfl)) pe_int (fun _ _ => rfl))) (pe_ix ix_seq (pe_ix ix_seq (pv 0) (pv 2) (fun _ _ => rfl)) pe_int (fun _ _ => rfl))) pe_int (nomark _)) (pss_one (ps_ret (pv 2))) pss_nil)))
      (pss_one (ps_ret pe_non)))
theorem c_l_same (X : K.In h) (G : h.Ns mainGlobals mg) (c : He.SaysD fa fn K) (xx : exK K = true) (C_l_whole : Cal P w K mg base 1 "_law_whole" ["_law_found"] (spD K R_l_whole)) : Cal P w K mg base 2 "_law_same" ["_law_found", "_law_due"] (spD K R_l_same) := by
  obtain ⟨fd, F⟩ := c.def_ 13 (d := d_l_same) rfl
  have g0 := He.glo_ok X G (c.fact 13 (f := .glo "_law_same") rfl)
  refine Cal.mk' (f := He.fAd K ("_law_same", none)) (fd := fd) g0 F.kp (FunD.bindsN F fun _ _ _ _ _ _ us hl => match us, hl with | [_, _], _ => rfl) (FunD.ok F sc_l_same (spD_len len_l_same) fun cdv A outer s H vs Q E hr hsp => ⟨t_l_same K E, ?_, body_pure (N := ["_law_found", "_law_due"]) body_l_same rfl vs H Q E hsp⟩)
  exact PSs.nox (pss_cons (ps_if (pt_cmp (pc_isN (pv 1))) (pss_one (ps_ret (pe_cmp (pc_isN (pv 0))))) pss_nil)
      (pss_one (ps_ret (pe_and (pe_callC C_l_whole (hr.mono (by decide)) (by rfl) (pa_cons (pv 0) pa_nil)) (pe_one (pe_cmpR (op_eqA hr.units) (pv 0) (pv 1) (nomark _)))))))
theorem c_l_kinds (X : K.In h) (G : h.Ns mainGlobals mg) (c : He.SaysD fa fn K) (xx : exK K = true) : CalP P w K mg base 1 "_law_kinds" ["_law_e"] (fun a cls d => spD K (R_l_kinds K a cls d)) := by
  obtain ⟨fd, F⟩ := c.def_ 14 (d := d_l_kinds) rfl
  have g0 := He.glo_ok X G (c.fact 14 (f := .glo "_law_kinds") rfl)
  have z_ValueError := He.free_ok X G (c.fact 27 (f := .free "ValueError") rfl)
  have z_isinstance := He.free_ok X G (c.fact 26 (f := .free "isinstance") rfl)
  have g_Clash := He.glo_ok X G (c.fact 28 (f := .glo "Clash") rfl)
  have g_NoBeat := He.glo_ok X G (c.fact 29 (f := .glo "NoBeat") rfl)
  have g_NoBell := He.glo_ok X G (c.fact 30 (f := .glo "NoBell") rfl)
  have g_NoName := He.glo_ok X G (c.fact 31 (f := .glo "NoName") rfl)
  have g_TooMany := He.glo_ok X G (c.fact 21 (f := .glo "TooMany") rfl)
  have g_Twice := He.glo_ok X G (c.fact 32 (f := .glo "Twice") rfl)
  refine ⟨⟨He.fAd K ("_law_kinds", none), fd, g0, F.kp, FunD.bindsN F fun _ _ _ _ _ _ us hl => match us, hl with | [_], _ => rfl, fun a oe cls d hz hf => fnP_of F sc_l_kinds (spD_len len_l_kinds) fun cdv A outer s H vs Q E hr hsp => ⟨t_l_kinds K a cls d E, ?_, body_pure (N := ["_law_e", "_law_kinds_here"]) body_l_kinds rfl vs H Q E hsp⟩⟩⟩
  exact PSs.nox (pss_cons (ps_set (i := 1) sc_l_kinds.nd rfl (.inl rfl) (pe_lst (pa_cons (pe_callB (call_isP (by exact List.mem_cons_self) hz hf) (by rfl) z_isinstance (by decide +kernel) (pa_cons (pv 0) (pa_cons (pe_bltn (v := .ty "ValueError") (u := .type "ValueError") (by rfl) z_ValueError (by decide +kernel) rfl) pa_nil))) (pa_cons (pe_callB (call_isP (by exact List.mem_cons_self) hz hf) (by rfl) z_isinstance (by decide +kernel) (pa_cons (pv 0) (pa_cons (pe_glob (v := .ref (He.ga K "TooMany")) (by rfl) g_TooMany rfl) pa_nil))) (pa_cons (pe_callB (call_isP (by exact List.mem_cons_self) hz hf) (by rfl) z_isinstance (by decide +kernel) (pa_cons (pv 0) (pa_cons (pe_glob (v := .ref (He.ga K "NoBeat")) (by rfl) g_NoBeat rfl) pa_nil))) (pa_cons (pe_callB (call_isP (by exact List.mem_cons_self) hz hf) (by rfl) z_isinstance (by decide +kernel) (pa_cons (pv 0) (pa_cons (pe_glob (v := .ref (He.ga K "NoBell")) (by rfl) g_NoBell rfl) pa_nil))) pa_nil))))))
      (pss_one (ps_ret (pe_op op_addA (pv 1) (pe_lst (pa_cons (pe_callB (call_isP (by exact List.mem_cons_self) hz hf) (by rfl) z_isinstance (by decide +kernel) (pa_cons (pv 0) (pa_cons (pe_glob (v := .ref (He.ga K "Twice")) (by rfl) g_Twice rfl) pa_nil))) (pa_cons (pe_callB (call_isP (by exact List.mem_cons_self) hz hf) (by rfl) z_isinstance (by decide +kernel) (pa_cons (pv 0) (pa_cons (pe_glob (v := .ref (He.ga K "NoName")) (by rfl) g_NoName rfl) pa_nil))) (pa_cons (pe_callB (call_isP (by exact List.mem_cons_self) hz hf) (by rfl) z_isinstance (by decide +kernel) (pa_cons (pv 0) (pa_cons (pe_glob (v := .ref (He.ga K "Clash")) (by rfl) g_Clash rfl) pa_nil))) pa_nil))))))))
theorem c_l_refused (X : K.In h) (G : h.Ns mainGlobals mg) (c : He.SaysD fa fn K) (xx : exK K = true) (C_roll : Cal P w K mg base 3 "roll" ["beats"] (spD K (R_roll K))) (C_l_kinds : CalP P w K mg base 1 "_law_kinds" ["_law_e"] (fun a cls d => spD K (R_l_kinds K a cls d))) (C_silent : Cal P w K mg base 4 "silent" ["beats"] (spD K (R_silent K))) : Cal P w K mg base 5 "_law_refused" ["_law_beats_here"] (spD K R_l_refused) := by
  obtain ⟨fd, F⟩ := c.def_ 15 (d := d_l_refused) rfl
  have g0 := He.glo_ok X G (c.fact 15 (f := .glo "_law_refused") rfl)
  have z_list := He.free_ok X G (c.fact 33 (f := .free "list") rfl)
  have g_KnellError := He.glo_ok X G (c.fact 34 (f := .glo "KnellError") rfl)
  refine Cal.mk' (f := He.fAd K ("_law_refused", none)) (fd := fd) g0 F.kp (FunD.bindsN F fun _ _ _ _ _ _ us hl => match us, hl with | [_], _ => rfl) (FunD.ok F sc_l_refused (spD_len len_l_refused) fun cdv A outer s H vs Q E hr hsp => ⟨t_l_refused K E, ?_, body_pure (N := ["_law_beats_here", "_law_rolled_here", "_law_quiet", "_law_handed", "_law_e", "_law_due"]) (body_l_refused xx) rfl vs H Q E hsp⟩)
  exact PSs.nox (pss_cons (ps_set (i := 1) sc_l_refused.nd rfl (.inl rfl) (pe_lst pa_nil))
      (pss_cons (ps_set (i := 2) sc_l_refused.nd rfl (.inl rfl) (pe_lst pa_nil))
      (pss_cons (ps_set (i := 3) sc_l_refused.nd rfl (.inl rfl) (pe_callTy call_list_of (by rfl) z_list (by decide +kernel) (pa_cons (pv 0) pa_nil)))
      (pss_cons (ps_try_as (i := 4) (tb := fun W => (tDrop (tCallS (spD K (R_roll K)) (WE W) (tCons (tVar 3) tNil)))) (ts := fun a cls d => (tAsg (tCall (spD K (R_l_kinds K a cls d)) [] E0 (tCons (tVar 4) tNil)) (gName 1))) (Wout := fun _ _ _ _ => False) rfl rfl sc_l_refused.nd rfl rfl ⟨rfl, by decide, .inl g_KnellError⟩ takes0 (fun W pn xe tk _ => (pss_one (ps_expr (pe_callCS C_roll (hr.mono (by decide)) (by rfl) tk (pa_cons (pv 3) pa_nil))))) (fun a oe cls d pn hz hf => (pss_one (ps_set (i := 1) sc_l_refused.nd rfl (.inl rfl) (pe_callP C_l_kinds (hr.mono (by decide)) (by rfl) hz hf (pa_cons (pv 4) pa_nil))))))
      (pss_cons (ps_try_as (i := 4) (tb := fun W => (tDrop (tCallS (spD K (R_silent K)) (WE W) (tCons (tVar 3) tNil)))) (ts := fun a cls d => (tAsg (tCall (spD K (R_l_kinds K a cls d)) [] E0 (tCons (tVar 4) tNil)) (gName 2))) (Wout := fun _ _ _ _ => False) rfl rfl sc_l_refused.nd rfl rfl ⟨rfl, by decide, .inl g_KnellError⟩ takes0 (fun W pn xe tk _ => (pss_one (ps_expr (pe_callCS C_silent (hr.mono (by decide)) (by rfl) tk (pa_cons (pv 3) pa_nil))))) (fun a oe cls d pn hz hf => (pss_one (ps_set (i := 2) sc_l_refused.nd rfl (.inl rfl) (pe_callP C_l_kinds (hr.mono (by decide)) (by rfl) hz hf (pa_cons (pv 4) pa_nil))))))
      (pss_cons (ps_set (i := 5) sc_l_refused.nd rfl (.inl rfl) (pe_lst (pa_cons pe_bl (pa_cons pe_bl (pa_cons pe_bl (pa_cons pe_bl (pa_cons pe_bl (pa_cons pe_bl (pa_cons pe_bl pa_nil)))))))))
      (pss_one (ps_ret (pe_and (pe_cmpR (op_eqA hr.units) (pv 1) (pv 5) (nomark _)) (pe_and (pe_cmpR (op_eqA hr.units) (pv 2) (pv 5) (nomark _)) (pe_one (pe_cmpR (op_eqA hr.units) (pv 3) (pv 0) (nomark _)))))))))))))
theorem c_l_rolled (X : K.In h) (G : h.Ns mainGlobals mg) (c : He.SaysD fa fn K) (xx : exK K = true) (C_l_same : Cal P w K mg base 2 "_law_same" ["_law_found", "_law_due"] (spD K R_l_same)) : Cal P w K mg base 3 "_law_rolled" ["_law_found", "_law_due"] (spD K R_l_rolled) := by
  obtain ⟨fd, F⟩ := c.def_ 16 (d := d_l_rolled) rfl
  have g0 := He.glo_ok X G (c.fact 16 (f := .glo "_law_rolled") rfl)
  have z_isinstance := He.free_ok X G (c.fact 26 (f := .free "isinstance") rfl)
  have z_len := He.free_ok X G (c.fact 23 (f := .free "len") rfl)
  have z_list := He.free_ok X G (c.fact 33 (f := .free "list") rfl)
  have z_range := He.free_ok X G (c.fact 19 (f := .free "range") rfl)
  refine Cal.mk' (f := He.fAd K ("_law_rolled", none)) (fd := fd) g0 F.kp (FunD.bindsN F fun _ _ _ _ _ _ us hl => match us, hl with | [_, _], _ => rfl) (FunD.ok F sc_l_rolled (spD_len len_l_rolled) fun cdv A outer s H vs Q E hr hsp => ⟨t_l_rolled K E, ?_, body_pure (N := ["_law_found", "_law_due", "_law_k"]) body_l_rolled rfl vs H Q E hsp⟩)
  exact PSs.nox (pss_cons (ps_if (PW.pt (pw_or (pt_not (pt_val (pe_callB call_isi (by rfl) z_isinstance (by decide +kernel) (pa_cons (pv 0) (pa_cons (pe_bltn (v := .ty "list") (u := .type "list") (by rfl) z_list (by decide +kernel) rfl) pa_nil))))) (pw_or1 (pt_cmpR (op_neA hr.units) (pe_callB call_len (by rfl) z_len (by decide +kernel) (pa_cons (pv 0) pa_nil)) (pe_callB call_len (by rfl) z_len (by decide +kernel) (pa_cons (pv 1) pa_nil)) (nomark _))))) (pss_one (ps_ret pe_bl)) pss_nil)
      (pss_cons (ps_for PassesOwn.never rfl (pi_range1 (by rfl) z_range (pa_cons (pe_callB call_len (by rfl) z_len (by decide +kernel) (pa_cons (pv 1) pa_nil)) pa_nil)) (pg_name (i := 2) sc_l_rolled.nd rfl (.inl rfl)) (pss_one (ps_if (pt_not (pt_val (pe_callC C_l_same (hr.mono (by decide)) (by rfl) (pa_cons (pe_ix ix_seq (pv 0) (pv 2) (fun _ _ => rfl)) (pa_cons (pe_ix ix_seq (pv 1) (pv 2) (fun _ _ => rfl)) pa_nil))))) (pss_one (ps_ret pe_bl)) pss_nil)))
      (pss_one (ps_ret pe_bl))))
theorem c_law (X : K.In h) (G : h.Ns mainGlobals mg) (c : He.SaysD fa fn K) (xx : exK K = true) (C_l_beats : Cal P w K mg base 2 "_law_beats" ["_law_script"] (spD K R_l_beats)) (C_l_common : Cal P w K mg base 2 "_law_common" ["_law_beats_here"] (spD K R_l_common)) (C_l_same : Cal P w K mg base 2 "_law_same" ["_law_found", "_law_due"] (spD K R_l_same)) (C_common_gap : Cal P w K mg base 2 "common_gap" ["beats"] (spD K R_common_gap)) (C_l_refused : Cal P w K mg base 5 "_law_refused" ["_law_beats_here"] (spD K R_l_refused)) (C_l_first : Cal P w K mg base 1 "_law_first" ["_law_beats_here", "_law_moment"] (spD K R_l_first)) (C_l_rolled : Cal P w K mg base 3 "_law_rolled" ["_law_found", "_law_due"] (spD K R_l_rolled)) (C_roll : Cal P w K mg base 3 "roll" ["beats"] (spD K (R_roll K))) (C_silent : Cal P w K mg base 4 "silent" ["beats"] (spD K (R_silent K))) {f : Addr} {fd : FuncData} (F : FunD K "law" "law" (defArgs s_law) (defBody s_law) (defScope s_law) [] [] f fd) : FnOk P w K mg base (L2.CX P w) 6 f fd ["_law_script"] (spD K R_law) := by
  have z_list := He.free_ok X G (c.fact 33 (f := .free "list") rfl)
  have z_range := He.free_ok X G (c.fact 19 (f := .free "range") rfl)
  refine FunD.ok F sc_law (spD_len len_law) fun cdv A outer s H vs Q E hr hsp => ⟨t_law K E, ?_, body_pure (N := ["_law_script", "_law_beats_here", "_law_common_here", "_law_handed", "_law_due", "_law_quiet", "_law_moment"]) body_law rfl vs H Q E hsp⟩
  exact PSs.nox (pss_cons (ps_set (i := 1) sc_law.nd rfl (.inr rfl) (pe_callC C_l_beats (hr.mono (by decide)) (by rfl) (pa_cons (pv 0) pa_nil)))
      (pss_cons (ps_set (i := 2) sc_law.nd rfl (.inl rfl) (pe_callC C_l_common (hr.mono (by decide)) (by rfl) (pa_cons (pv 1) pa_nil)))
      (pss_cons (ps_set (i := 3) sc_law.nd rfl (.inl rfl) (pe_callTy call_list_of (by rfl) z_list (by decide +kernel) (pa_cons (pv 1) pa_nil)))
      (pss_cons (ps_if (PW.pt (pw_or (pt_not (pt_val (pe_callC C_l_same (hr.mono (by decide)) (by rfl) (pa_cons (pe_callC C_common_gap (hr.mono (by decide)) (by rfl) (pa_cons (pv 3) pa_nil)) (pa_cons (pv 2) pa_nil))))) (pw_or1 (pt_cmpR (op_neA hr.units) (pv 3) (pv 1) (nomark _))))) (pss_one (ps_ret pe_bl)) pss_nil)
      (pss_cons (ps_if (pt_cmpR op_gt (pv 2) pe_int (nomark _)) (pss_one (ps_ret (pe_callC C_l_refused (hr.mono (by decide)) (by rfl) (pa_cons (pv 1) pa_nil)))) pss_nil)
      (pss_cons (ps_setLcV (i := 4) [("_law_moment", 6)] [6] rfl rfl sc_law.nd rfl rfl (sw_true rfl rfl rfl (by decide +kernel)) (pi_range1 (by rfl) z_range (pa_cons (pv 2) pa_nil)) (blkOk_by (own := [("_law_moment", 6)]) (N := ["_law_script", "_law_beats_here", "_law_common_here", "_law_handed", "_law_due", "_law_quiet", "_law_moment"]) (sc := defScope s_law) (by decide +kernel)) (fun _ _ _ _ _ => (pg_name (i := 6) sc_law.nd rfl (by first | exact .inl rfl | exact .inr rfl))) (fun _ _ _ _ _ => pts_nil) (fun _ _ _ _ _ => (pe_callC C_l_first (hr.mono (by decide)) (by rfl) (pa_cons (pv 1) (pa_cons (pv 6) pa_nil)))))
      (pss_cons (ps_if (PW.pt (pw_or (pt_not (pt_val (pe_callC C_l_rolled (hr.mono (by decide)) (by rfl) (pa_cons (pe_callC C_roll (hr.mono (by decide)) (by rfl) (pa_cons (pv 3) pa_nil)) (pa_cons (pv 4) pa_nil))))) (pw_or1 (pt_cmpR (op_neA hr.units) (pv 3) (pv 1) (nomark _))))) (pss_one (ps_ret pe_bl)) pss_nil)
      (pss_cons (ps_set (i := 5) sc_law.nd rfl (.inl rfl) pe_non)
      (pss_cons (ps_if (pt_cmpR op_in_seq pe_non (pv 4) rfl) (pss_one (ps_set (i := 5) sc_law.nd rfl (.inl rfl) (pe_bm PySem.F.plainAttrs_list PySem.F.slot_list_index PySem.F.type_list_index mt_index (pv 4) (pa_cons pe_non pa_nil)))) pss_nil)
      (pss_one (ps_ret (pe_and (pe_callC C_l_same (hr.mono (by decide)) (by rfl) (pa_cons (pe_callC C_silent (hr.mono (by decide)) (by rfl) (pa_cons (pv 3) pa_nil)) (pa_cons (pv 5) pa_nil))) (pe_one (pe_cmpR (op_eqA hr.units) (pv 3) (pv 1) (nomark _)))))))))))))))
end
abbrev R0 : PySem.W.OpenRow := PySem.W.OpenLaw.row PySem.Challenge.rw_knell_k09_whole_roll
def loose0 : List PySem.Str := ["KnellError", "NoBeat", "NoBell", "TooMany", "Twice", "NoName", "Clash", "rings", "weights", "common_gap", "MOST_MOMENTS", "first_of", "roll", "silent", "_law_cell_at", "_law_whole", "_law_divisor", "_law_round", "_law_beats", "_law_common", "_law_first", "_law_same", "_law_kinds", "_law_refused", "_law_rolled"]
abbrev loose : List PySem.Str := ["KnellError", "NoBeat", "NoBell", "TooMany", "Twice", "NoName", "Clash", "rings", "weights", "common_gap", "MOST_MOMENTS", "first_of", "roll", "silent", "_law_cell_at", "_law_whole", "_law_divisor", "_law_round", "_law_beats", "_law_common", "_law_first", "_law_same", "_law_kinds", "_law_refused", "_law_rolled"]
abbrev hk : PySem.W.Hook := hookX 4 fa fn exK
def ob (s : PySem.W.SharedT) : AlX := obsXG 4 fa fn exK (HandSHeadRun.getT s)
theorem ob_eq (s : PySem.W.SharedT) : ob s = hk.obs s.abs := obsXG_eq (HandSHeadRun.getT_eq s)
theorem run (w : World) : HandSHeadRun.RunEq R0 (PySem.W.view R0.prog [31]) hk ob 4000 loose w := by
  intro os
  kernel_rfl
theorem facts {P : Program} {w : World} {K : PySem.W.Frag} {h : Heap} {mg : Str → Option Value} {f : Addr} (X : K.In h) (G : h.Ns mainGlobals mg) (hfa : mg ("law" : Str) = some (.ref f)) (c : He.SaysD fa fn K) (xx : exK K = true) :
    ∃ (fd : FuncData) (sp : Sp), (∀ (s : Shared) (u : Value), BindsTo s fd ⟨[u], []⟩ [("_law_script", u)]) ∧ (∀ (H : Hp) (a : Addr) (ns : List Int), ns.length ≤ 63 → Only H → SqL K H a (ns.map V.int) → sp [.ref a] H (fun v _ => v = .bl true) fun _ _ _ => False) ∧
      ∀ base : Heap, K.In base → base.Ns mainGlobals mg → FnOk P w K mg base (L2.CX P w) 6 f fd ["_law_script"] sp := by
  obtain ⟨fd, F⟩ := c.def_ 17 (d := d_law) rfl
  have e := hfa.symm.trans (He.glo_ok X G (c.fact 17 (f := .glo "law") rfl))
  cases e
  obtain ⟨h1, h2⟩ := law_end (x := "_law_script") (R := R_law) F (fun _ _ _ _ _ _ us hl => match us, hl with | [_], _ => rfl) law_holds
  refine ⟨fd, spD K R_law, h1, h2, fun base _ _ => ?_⟩
  have C_l_round := c_l_round (P := P) (w := w) (base := base) X G c xx 
  have C_l_cell_at := c_l_cell_at (P := P) (w := w) (base := base) X G c xx 
  have C_l_divisor := c_l_divisor (P := P) (w := w) (base := base) X G c xx 
  have C_l_beats := c_l_beats (P := P) (w := w) (base := base) X G c xx C_l_round C_l_cell_at C_l_divisor
  have C_l_common := c_l_common (P := P) (w := w) (base := base) X G c xx C_l_divisor
  have C_l_whole := c_l_whole (P := P) (w := w) (base := base) X G c xx 
  have C_l_same := c_l_same (P := P) (w := w) (base := base) X G c xx C_l_whole
  have C_weights := c_weights (P := P) (w := w) (base := base) X G c xx 
  have C_common_gap := c_common_gap (P := P) (w := w) (base := base) X G c xx C_weights
  have C_rings := c_rings (P := P) (w := w) (base := base) X G c xx 
  have C_first_of := c_first_of (P := P) (w := w) (base := base) X G c xx C_rings
  have C_roll := c_roll (P := P) (w := w) (base := base) X G c xx C_common_gap C_first_of
  have C_l_kinds := c_l_kinds (P := P) (w := w) (base := base) X G c xx 
  have C_silent := c_silent (P := P) (w := w) (base := base) X G c xx C_roll
  have C_l_refused := c_l_refused (P := P) (w := w) (base := base) X G c xx C_roll C_l_kinds C_silent
  have C_l_first := c_l_first (P := P) (w := w) (base := base) X G c xx 
  have C_l_rolled := c_l_rolled (P := P) (w := w) (base := base) X G c xx C_l_same
  exact (c_law (P := P) (w := w) (base := base) X G c xx C_l_beats C_l_common C_l_same C_common_gap C_l_refused C_l_first C_l_rolled C_roll C_silent) F

end Kn
open PySem PySem.W PySem.Calls PyProof.Rows
theorem PySem.Challenge.cw_knell_k09_whole_roll_holds : PySem.Challenge.rw_knell_k09_whole_roll.Holds := by
  w_on; o_law
  refine HandSHeadRun.head_any (r := OpenLaw.row PySem.Challenge.rw_knell_k09_whole_roll) (q := view (OpenLaw.row PySem.Challenge.rw_knell_k09_whole_roll).prog [31]) (H := Kn.hk) (ob := Kn.ob) (M := 4000) (loose := Kn.loose) (d := HandSHeadRun.topDef (OpenLaw.row PySem.Challenge.rw_knell_k09_whole_roll).prog 31) (kwd := []) Kn.ob_eq
    (by kernel_rfl) (fun s => by kernel_rfl) Kn.run (by kernel_rfl) (by kernel_rfl) (by kernel_rfl) (by rfl) (by first | assumption | decide +kernel) (by decide +kernel) ⟨rfl, rfl, rfl, rfl, rfl, by decide +kernel⟩ ?hw ?hc
  case hw => w_witness2
  case hc =>
    refine Kn.walk_end (l := PySem.Challenge.rw_knell_k09_whole_roll) (n := 63) (k := 6) (x := "_law_script") rfl (by decide) (by kernel_rfl) ⟨rfl, by decide, by decide⟩ ?F
    case F =>
      intro w mg fa h Y G hmg0
      obtain ⟨K, KX, c, xx⟩ := Y
      have hmg : mg ("law" : PySem.Str) = some (.ref fa) := by
        have e : (HandSHeadRun.topDef (OpenLaw.row PySem.Challenge.rw_knell_k09_whole_roll).prog 31).name = ("law" : PySem.Str) := by kernel_rfl
        rw [← e]
        exact hmg0
      obtain ⟨fd, sp, hb, hs, hF⟩ := Kn.facts (P := (PySem.Challenge.rw_knell_k09_whole_roll).prog) (w := w) KX G hmg c xx
      exact ⟨K, fd, sp, KX, hb, hs, hF⟩
